import PyProof.Rows.All
import Wide.All
import OpenK.AllK
import Wide.FinOn
import KE.KStateDown
import HandS.ForMost
import HandS.Exc
import HandS.TryOnly
import HandS.ExcOwn
import HandS.WordsExc
import HandS.Defaults
import HandS.Wide
import HandS.TupAny
import HandS.IsInst
import HandS.Text
import HandS.Conv
import HandS.Rev
import HandS.Zip
import HandS.ExcIs
import HandS.HeadHook1
import HandS.SortRule
import HandS.SortInts
import HandS.RevTup
import HandS.Iter
import HandS.Dict
import HandS.TupLen
import HandS.WordsDict
import HandS.SetFor
import HandS.Style
import HandS.Codes
import HandS.TupLe
import PyProof.Rows.InDataRows
import HandS.SetKeys
import HandS.More
import HandS.RevRange
import HandS.Strs
import HandS.TryMany
import KE.KRevSl
import HandS.DictSubView
import PyProof.DictWalks
import KE.LtSeq
import HandS.HotCalls
import PyProof.StrOps2
import HandS.ExcInit
import HandS.ExcField
import HandS.SortKw
import KE.DatumOrd
import PyProof.Rows.StrInSeq3
import KE.SortData
import HandS.Head0
import HandS.Head1
import HandS.Head2
import HandS.HeadEnd
import HandS.HeadHook2
import PySem.Challenge.RW_pocketmill_k01_mills_kept
set_option Elab.async false
set_option linter.all false
set_option maxRecDepth 100000
set_option maxHeartbeats 3999999
namespace Pm
open PySem PySem.Spec PyProof.Rows L2 C8
open Classical
def excCB (K : PySem.W.Frag) (x : Str) : Bool :=
  He.eqO (PySem.W.findIn K (.ref (He.ga K x)) "__getattribute__") (some (some (.builtin "BaseException.__getattribute__"))) && (He.eqO (PySem.W.findIn K (.ref (He.ga K x)) "__getattr__") (some none) &&
  (decide (PySem.W.subIn K (.ref (He.ga K x)) (.type "BaseException") = some true) && (PySem.W.hasDictIn K (He.ga K x) && (He.eqO (PySem.W.findIn K (.ref (He.ga K x)) "__class__") (some (some (.builtin "object.__class__"))) &&
  (He.eqO (PySem.W.specialIn K (.builtin "object.__class__") "__get__") (some (some (.builtin "getset_descriptor.__get__"))) && (decide (PySem.W.takesIn K (.builtin "object.__class__") = some true) && decide (PySem.W.mroIn K (He.ga K x) (.type "object") = some true)))))))
def subsB (K : PySem.W.Frag) (X : Value) (tab : List (Str × Bool)) : Bool := tab.all fun q => decide (PySem.W.exmOne K (.ref (He.ga K q.1)) X = some q.2)
def isxB (K : PySem.W.Frag) (X : Value) (tab : List (Str × Bool)) : Bool := tab.all fun q => decide (PySem.W.kitOne K (.ref (He.ga K q.1)) X = some q.2)
def excB (K : PySem.W.Frag) (tab : List (Str × Bool)) : Bool := tab.all fun q => !q.2 || excCB K q.1
def insCB (K : PySem.W.Frag) (x : Str) : Bool :=
  He.eqO (PySem.W.findIn K (.ref (He.ga K x)) "__class__") (some (some (.builtin "object.__class__"))) && (He.eqO (PySem.W.specialIn K (.builtin "object.__class__") "__get__") (some (some (.builtin "getset_descriptor.__get__"))) &&
  (decide (PySem.W.takesIn K (.builtin "object.__class__") = some true) && (decide (PySem.W.mroIn K (He.ga K x) (.type "object") = some true) && decide (PySem.W.kitOne K (.ref (He.ga K x)) (.ref (He.ga K x)) = some true))))
def oexB (K : PySem.W.Frag) (x : Str) : Bool := (match K.lookup (He.ga K x) with
  | some ⟨.type "type", _, .cls cd, sl⟩ => (match cd.mro, sl.toList with
    | .ref C' :: bm, [_, _, _, _, some (.builtin n), _] => decide (C' = He.ga K x) && (decide (n = "ValueError.__new__") && (!cd.hasDel && (cd.hasDict && PySem.HandSPX.refsVE bm)))
    | _, _ => false)
  | _ => false) && (He.eqO (PySem.W.findIn K (.ref (He.ga K x)) "__setattr__") (some (some (.builtin "object.__setattr__"))) && (decide (PySem.W.subIn K (.ref (He.ga K x)) (.type "BaseException") = some true) &&
    (decide (PySem.W.typeIn K (.ref (He.ga K x)) = some (.type "type")) && (PySem.W.keepIn K (.ref (He.ga K x)) && He.eqO (PySem.W.findIn K (.ref (He.ga K x)) "row") (some none)))))
def binB (K : PySem.W.Frag) (x : Str) : Bool := PySem.W.readsIn K (He.ga K x) (.type "type") && (decide (PySem.W.specialIn K (.ref (He.ga K x)) "__getattribute__" = some (some (.builtin "type.__getattribute__"))) &&
  (match PySem.W.findCls K (.ref (He.ga K x)) (.type "type") "__init__" with
  | some (.val v) => decide (v = .builtin "ValueError.__init__")
  | _ => false))
def xrowB (K : PySem.W.Frag) (x : Str) : Bool := xfB K (He.ga K x) && decide (PySem.W.findIn K (.ref (He.ga K x)) "row" = some none)
def obX (facts : List He.Fa) (defs : List He.DefD) (more : PySem.W.Frag → Bool) (g : Addr → Option Obj) (n : Nat) : He.AlD × Bool :=
  (He.obsD facts defs (He.frG g (He.asD g n ++ [cStatics])), more (He.frG g (He.asD g n ++ [cStatics])))
def SaysX (facts : List He.Fa) (defs : List He.DefD) (more : PySem.W.Frag → Bool) (K : PySem.W.Frag) : Prop := He.SaysD facts defs K ∧ more K = true
def hookX (n : Nat) (facts : List He.Fa) (defs : List He.DefD) (more : PySem.W.Frag → Bool) : PySem.W.Hook where
  α := He.AlD × Bool
  obs := fun st => obX facts defs more st.heap.get? n
  val := fun _ => (He.valD defs, true)
  says := fun _ hp => ∃ K : PySem.W.Frag, K.In hp ∧ SaysX facts defs more K
  of := fun _ _ eq => ⟨_, He.frG_in, congrArg Prod.fst eq, congrArg Prod.snd eq⟩
  keeps := fun _ _ _ ⟨K, hIn, says⟩ kept => ⟨K, hIn.keeps kept, says⟩
theorem obX_eq {n : Nat} {facts : List He.Fa} {defs : List He.DefD} {more : PySem.W.Frag → Bool} {g : Addr → Option Obj} {st : Shared} (h : ∀ a, g a = st.heap.get? a) : obX facts defs more g n = (hookX n facts defs more).obs st := by
  have e : g = st.heap.get? := funext h
  subst e
  rfl
def obL (as : List Addr) (facts : List He.Fa) (defs : List He.DefD) (more : PySem.W.Frag → Bool) (g : Addr → Option Obj) : He.AlD × Bool :=
  (He.obsD facts defs (He.frG g as), more (He.frG g as))
def hookL (as : List Addr) (facts : List He.Fa) (defs : List He.DefD) (more : PySem.W.Frag → Bool) : PySem.W.Hook where
  α := He.AlD × Bool
  obs := fun st => obL as facts defs more st.heap.get?
  val := fun _ => (He.valD defs, true)
  says := fun _ hp => ∃ K : PySem.W.Frag, K.In hp ∧ SaysX facts defs more K
  of := fun _ _ eq => ⟨_, He.frG_in, congrArg Prod.fst eq, congrArg Prod.snd eq⟩
  keeps := fun _ _ _ ⟨K, hIn, says⟩ kept => ⟨K, hIn.keeps kept, says⟩
theorem obL_eq {as : List Addr} {facts : List He.Fa} {defs : List He.DefD} {more : PySem.W.Frag → Bool} {g : Addr → Option Obj} {st : Shared} (h : ∀ a, g a = st.heap.get? a) : obL as facts defs more g = (hookL as facts defs more).obs st := by
  have e : g = st.heap.get? := funext h
  subst e
  rfl
end Pm
namespace Pm
open PySem PySem.Spec PyProof.Rows L2 C8
/-! ### the text by places -/
def top (i : Nat) : Stmt := PySem.Challenge.pw_pocketmill_k01_mills_kept.main.body.getD i (.Pass ⟨0, 0, 0, 0⟩)
abbrev s_pockets_kept : Stmt := top 9
abbrev s_Mill___init__ : Stmt := inClass (top 10) 0
abbrev s_Mill_codes : Stmt := inClass (top 10) 1
abbrev s_Mill_many : Stmt := inClass (top 10) 2
abbrev s_codes_ahead : Stmt := top 11
abbrev s__law_cell_at : Stmt := top 13
abbrev s__law_part : Stmt := top 14
abbrev s__law_folded : Stmt := top 15
abbrev s__law_pocket : Stmt := top 16
abbrev s__law_passes : Stmt := top 17
abbrev s__law_whole : Stmt := top 18
abbrev s__law_handed : Stmt := top 19
abbrev s__law_kept : Stmt := top 20
abbrev s_law : Stmt := top 21
/-! ### what the top has written -/
/-! ### the head -/
def d_pockets_kept : He.DefD := ⟨("pockets_kept", none), "pockets_kept", "pockets_kept", defArgs s_pockets_kept, defBody s_pockets_kept, defScope s_pockets_kept, [], []⟩
def d_Mill___init__ : He.DefD := ⟨("Mill", some "__init__"), "__init__", "Mill.__init__", defArgs s_Mill___init__, defBody s_Mill___init__, defScope s_Mill___init__, [], []⟩
def d_Mill_codes : He.DefD := ⟨("Mill", some "codes"), "codes", "Mill.codes", defArgs s_Mill_codes, defBody s_Mill_codes, defScope s_Mill_codes, [], []⟩
def d_Mill_many : He.DefD := ⟨("Mill", some "many"), "many", "Mill.many", defArgs s_Mill_many, defBody s_Mill_many, defScope s_Mill_many, [], []⟩
def d_codes_ahead : He.DefD := ⟨("codes_ahead", none), "codes_ahead", "codes_ahead", defArgs s_codes_ahead, defBody s_codes_ahead, defScope s_codes_ahead, [], []⟩
def d__law_cell_at : He.DefD := ⟨("_law_cell_at", none), "_law_cell_at", "_law_cell_at", defArgs s__law_cell_at, defBody s__law_cell_at, defScope s__law_cell_at, [], []⟩
def d__law_part : He.DefD := ⟨("_law_part", none), "_law_part", "_law_part", defArgs s__law_part, defBody s__law_part, defScope s__law_part, [], []⟩
def d__law_folded : He.DefD := ⟨("_law_folded", none), "_law_folded", "_law_folded", defArgs s__law_folded, defBody s__law_folded, defScope s__law_folded, [], []⟩
def d__law_pocket : He.DefD := ⟨("_law_pocket", none), "_law_pocket", "_law_pocket", defArgs s__law_pocket, defBody s__law_pocket, defScope s__law_pocket, [], []⟩
def d__law_passes : He.DefD := ⟨("_law_passes", none), "_law_passes", "_law_passes", defArgs s__law_passes, defBody s__law_passes, defScope s__law_passes, [], []⟩
def d__law_whole : He.DefD := ⟨("_law_whole", none), "_law_whole", "_law_whole", defArgs s__law_whole, defBody s__law_whole, defScope s__law_whole, [], []⟩
def d__law_handed : He.DefD := ⟨("_law_handed", none), "_law_handed", "_law_handed", defArgs s__law_handed, defBody s__law_handed, defScope s__law_handed, [], []⟩
def d__law_kept : He.DefD := ⟨("_law_kept", none), "_law_kept", "_law_kept", defArgs s__law_kept, defBody s__law_kept, defScope s__law_kept, [], []⟩
def d_law : He.DefD := ⟨("law", none), "law", "law", defArgs s_law, defBody s_law, defScope s_law, [], []⟩
def fnD : List He.DefD := [d_pockets_kept, d_Mill___init__, d_Mill_codes, d_Mill_many, d_codes_ahead, d__law_cell_at, d__law_part, d__law_folded, d__law_pocket, d__law_passes, d__law_whole, d__law_handed, d__law_kept, d_law]
def faD : List He.Fa := [.glo "pockets_kept", .meth "Mill" "codes", .meth "Mill" "many", .glo "codes_ahead", .glo "_law_cell_at", .glo "_law_part", .glo "_law_folded", .glo "_law_pocket", .glo "_law_passes", .glo "_law_whole", .glo "_law_handed", .glo "_law_kept", .glo "law", .glo "Mill", .cls "Mill", .mkr "Mill", .noat "Mill" "passes", .glo "MillError", .exc "MillError", .glo "BadMill", .exc "BadMill", .int "MOST_PASSES" 6, .int "MOST_POCKETS" 6, .int "MOST_CODES" 1000, .int "WIDEST" 9, .glo "KINDS", .free "ValueError", .free "bool", .free "int", .free "isinstance", .free "len", .free "list", .free "range", .free "str", .free "tuple"]
def moreD (K : PySem.W.Frag) : Bool := (He.tupB K "KINDS" [.str "queue", .str "pile"] && true)
abbrev R : PySem.W.OpenRow := PySem.W.OpenLaw.row PySem.Challenge.rw_pocketmill_k01_mills_kept
abbrev hk : PySem.W.Hook := hookX 5 faD fnD moreD
def ob (s : PySem.W.SharedT) : He.AlD × Bool := obX faD fnD moreD (HandSHeadRun.getT s) 5
theorem ob_eq (s : PySem.W.SharedT) : ob s = hk.obs s.abs := obX_eq (HandSHeadRun.getT_eq s)
def looseD : List Str := (["MillError", "BadMill", "MOST_PASSES", "MOST_POCKETS", "MOST_CODES", "WIDEST", "KINDS", "pockets_kept", "Mill", "codes_ahead", "_law_cell_at", "_law_part", "_law_folded", "_law_pocket", "_law_passes", "_law_whole", "_law_handed", "_law_kept"] : List Str)
theorem run (w : World) : HandSHeadRun.RunEq R (PySem.W.view R.prog [21]) hk ob 30000 looseD w := by
  intro os
  kernel_rfl
end Pm
/-! the layer: data, ownership, worlds -/
namespace Pm
open PySem PySem.Spec PyProof.Rows L2
/-! ### data -/
inductive Dt where
  | non | bl (b : Bool) | int (i : Int) | str (x : Str)
  | lst (xs : List Dt) | scr (xs : List Dt) | tup (xs : List Dt) | ktp (xs : List Dt)
  | ins (C : Str) (ns : List Str) (ds : List Dt)
  | dic (ks : List Key) (ds : List Dt)
  | dit (ks : List (List Key)) (ds : List Dt)
inductive Mode where
  | F | L (m : Mode) | T (ms : List Mode) | I (ms : List Mode) | K (m : Mode)
inductive EM where
  | o (m : Mode) | B | S
/-- an exception: its class, the number that it bears -/
abbrev Xn := Str × Option Int
inductive Rs (α : Type) where
  | ok (a : α) | ex (c : Xn) | no
def Rs.bind {α β : Type} : Rs α → (α → Rs β) → Rs β
  | .ok a, f => f a
  | .ex c, _ => .ex c
  | .no, _ => .no
instance : Monad Rs where
  pure := .ok
  bind := Rs.bind
theorem ok_bind {α β : Type} (a : α) (f : α → Rs β) : (Rs.ok a >>= f) = f a := rfl
theorem ex_bind {α β : Type} (c : Xn) (f : α → Rs β) : ((Rs.ex c : Rs α) >>= f) = .ex c := rfl
theorem no_bind {α β : Type} (f : α → Rs β) : ((Rs.no : Rs α) >>= f) = .no := rfl
inductive Rs.Post {α : Type} (P : α → Prop) (E : Xn → Prop) : Rs α → Prop where
  | ok {a : α} : P a → Rs.Post P E (.ok a)
  | ex {c : Xn} : E c → Rs.Post P E (.ex c)
theorem Rs.Post.imp {α : Type} {r : Rs α} {P P' : α → Prop} {E E' : Xn → Prop} (h : Rs.Post P E r) (hp : ∀ a, r = .ok a → P a → P' a) (he : ∀ c, E c → E' c) : Rs.Post P' E' r := by
  cases h with
  | ok h => exact .ok (hp _ rfl h)
  | ex h => exact .ex (he _ h)
theorem Rs.Post.bind {α β : Type} {r : Rs α} {f : α → Rs β} {P : β → Prop} {E : Xn → Prop} (h : Rs.Post P E (r >>= f)) : Rs.Post (fun a => Rs.Post P E (f a)) E r := by
  cases r with
  | ok a => exact .ok h
  | ex c =>
    cases h with
    | ex h => exact .ex h
  | no => cases h
theorem Rs.Post.of_ok {α : Type} {P : α → Prop} {E : Xn → Prop} {a : α} (h : Rs.Post P E (.ok a)) : P a := by
  cases h with
  | ok h => exact h
theorem Rs.Post.of_ex {α : Type} {P : α → Prop} {E : Xn → Prop} {c : Xn} (h : Rs.Post P E (.ex c)) : E c := by
  cases h with
  | ex h => exact h
abbrev Ev := List (Option Dt)
/-- the exception's own dict -/
def XR (c : Xn) (dx : Option Addr) (H : Hp) : Prop := match c.2 with
  | none => dx = none
  | some n => ∃ d, dx = some d ∧ H d = some (.xd [("row", .int n)])
theorem _root_.L2.Same.rd {H H' : Hp} {a : Addr} {u : HO} (e : Same H H') (h : Rd H a u) : Rd H' a u := by
  rcases h with h | ⟨o, h⟩
  · exact Or.inl (e a _ h)
  · exact Or.inr ⟨o, e a _ h⟩
theorem _root_.L2.Same.sqt {K : PySem.W.Frag} {H H' : Hp} {a : Addr} {xs : List V} (e : Same H H') (h : SqT K H a xs) : SqT K H' a xs := by
  rcases h with h | h
  · exact Or.inl (Same.rd e h)
  · exact Or.inr h
theorem _root_.L2.Same.new {H : Hp} {p : Addr} {o : HO} (h : H p = none) : Same H (upd H p o) := fun a u e => by
  rw [upd_ne (ne_of_none e h)]
  exact e
section
variable (K : PySem.W.Frag) (ca : Str → Addr)
mutual
inductive Rp (H : Hp) : Dt → V → Prop
  | non : Rp H .non .non
  | bl (b : Bool) : Rp H (.bl b) (.bl b)
  | int (i : Int) : Rp H (.int i) (.int i)
  | str (x : Str) : Rp H (.str x) (.str x)
  | lst {a : Addr} {vs : List V} {ds : List Dt} : H a = some (.lst vs) → Rps H ds vs → Rp H (.lst ds) (.ref a)
  | scr {a : Addr} {vs : List V} {ds : List Dt} : SqL K H a vs → Rps H ds vs → Rp H (.scr ds) (.ref a)
  | tup {a : Addr} {vs : List V} {ds : List Dt} : H a = some (.tup vs) → Rps H ds vs → Rp H (.tup ds) (.ref a)
  | ktp {a : Addr} {vs : List V} {ds : List Dt} : SqT K H a vs → Rps H ds vs → Rp H (.ktp ds) (.ref a)
  | ins {C : Str} {a dx : Addr} {ns : List Str} {vs : List V} {ds : List Dt} : H a = some (.ins (ca C) dx (ns.zip vs)) → ns.length = vs.length → Rps H ds vs → Rp H (.ins C ns ds) (.ref a)
  | dic {a : Addr} {ks : List Key} {vs : List V} {ds : List Dt} : H a = some (.dK (ks.zip vs)) → ks.length = vs.length → Rps H ds vs → Rp H (.dic ks ds) (.ref a)
  | dicZ {a : Addr} {o : Obj} {ks : List Key} {vs : List V} {ds : List Dt} : H a = some (.frz o (.dK (ks.zip vs))) → ks.length = vs.length → Rps H ds vs → Rp H (.dic ks ds) (.ref a)
  | dit {a : Addr} {ks : List (List Key)} {vs : List V} {ds : List Dt} : H a = some (.dT (ks.zip vs)) → ks.length = vs.length → Rps H ds vs → Rp H (.dit ks ds) (.ref a)
inductive Rps (H : Hp) : List Dt → List V → Prop
  | nil : Rps H [] []
  | cons {d : Dt} {ds : List Dt} {v : V} {vs : List V} : Rp H d v → Rps H ds vs → Rps H (d :: ds) (v :: vs)
end
mutual
inductive Ow (G H : Hp) : Mode → Dt → V → (Addr → Prop) → Prop
  | F {d : Dt} {v : V} {P : Addr → Prop} : Rp K ca G d v → Ow G H .F d v P
  | NL {m : Mode} {P : Addr → Prop} : Ow G H (.L m) .non .non P
  | NT {ms : List Mode} {P : Addr → Prop} : Ow G H (.T ms) .non .non P
  | NI {ms : List Mode} {P : Addr → Prop} : Ow G H (.I ms) .non .non P
  | L {m : Mode} {a : Addr} {vs : List V} {ds : List Dt} {P : Addr → Prop} : H a = some (.lst vs) → G a = none → P a → Ows G H (List.replicate ds.length m) ds vs (fun b => P b ∧ b ≠ a) → Ow G H (.L m) (.lst ds) (.ref a) P
  | T {ms : List Mode} {a : Addr} {vs : List V} {ds : List Dt} {P : Addr → Prop} : H a = some (.tup vs) → G a = none → P a → Ows G H ms ds vs (fun b => P b ∧ b ≠ a) → Ow G H (.T ms) (.tup ds) (.ref a) P
  | TL {ms : List Mode} {a : Addr} {vs : List V} {ds : List Dt} {P : Addr → Prop} : H a = some (.lst vs) → G a = none → P a → Ows G H ms ds vs (fun b => P b ∧ b ≠ a) → Ow G H (.T ms) (.lst ds) (.ref a) P
  | I {ms : List Mode} {C : Str} {a dx : Addr} {ns : List Str} {vs : List V} {ds : List Dt} {P : Addr → Prop} : H a = some (.ins (ca C) dx (ns.zip vs)) → G a = none → P a → ns.length = vs.length → Ows G H ms ds vs (fun b => P b ∧ b ≠ a) → Ow G H (.I ms) (.ins C ns ds) (.ref a) P
  | K {m : Mode} {a : Addr} {ks : List Key} {vs : List V} {ds : List Dt} {P : Addr → Prop} : H a = some (.dK (ks.zip vs)) → G a = none → P a → ks.length = vs.length → Ows G H (List.replicate ds.length m) ds vs (fun b => P b ∧ b ≠ a) → Ow G H (.K m) (.dic ks ds) (.ref a) P
  | KT {m : Mode} {a : Addr} {ks : List (List Key)} {vs : List V} {ds : List Dt} {P : Addr → Prop} : H a = some (.dT (ks.zip vs)) → G a = none → P a → ks.length = vs.length → Ows G H (List.replicate ds.length m) ds vs (fun b => P b ∧ b ≠ a) → Ow G H (.K m) (.dit ks ds) (.ref a) P
inductive Ows (G H : Hp) : List Mode → List Dt → List V → (Addr → Prop) → Prop
  | nil {P : Addr → Prop} : Ows G H [] [] [] P
  | cons {m : Mode} {ms : List Mode} {d : Dt} {ds : List Dt} {v : V} {vs : List V} {P P1 P2 : Addr → Prop} : Ow G H m d v P1 → Ows G H ms ds vs P2 → (∀ b, P1 b → P b) → (∀ b, P2 b → P b) → (∀ b, P1 b → ¬ P2 b) → Ows G H (m :: ms) (d :: ds) (v :: vs) P
end
end
section
variable {K : PySem.W.Frag} {ca : Str → Addr} {H H' G G' : Hp}
theorem Rps.length : ∀ {ds : List Dt} {vs : List V}, Rps K ca H ds vs → ds.length = vs.length
  | [], _, h => by cases h; rfl
  | d :: ds, _, h => by
    cases h with
    | cons h1 h2 => rw [List.length_cons, List.length_cons, Rps.length h2]
mutual
theorem Rp.mono (e : Same H H') : ∀ {d : Dt} {v : V}, Rp K ca H d v → Rp K ca H' d v
  | .non, _, h => by cases h; exact .non
  | .bl b, _, h => by cases h; exact .bl b
  | .int i, _, h => by cases h; exact .int i
  | .str x, _, h => by cases h; exact .str x
  | .lst ds, _, h => by
    cases h with
    | lst h1 h2 => exact .lst (e _ _ h1) (Rps.mono e h2)
  | .scr ds, _, h => by
    cases h with
    | scr h1 h2 => exact .scr (L2.Same.seq e h1) (Rps.mono e h2)
  | .tup ds, _, h => by
    cases h with
    | tup h1 h2 => exact .tup (e _ _ h1) (Rps.mono e h2)
  | .ktp ds, _, h => by
    cases h with
    | ktp h1 h2 => exact .ktp (Same.sqt e h1) (Rps.mono e h2)
  | .ins C ns ds, _, h => by
    cases h with
    | ins h1 h2 h3 => exact .ins (e _ _ h1) h2 (Rps.mono e h3)
  | .dic ks ds, _, h => by
    cases h with
    | dic h1 h2 h3 => exact .dic (e _ _ h1) h2 (Rps.mono e h3)
    | dicZ h1 h2 h3 => exact .dicZ (e _ _ h1) h2 (Rps.mono e h3)
  | .dit ks ds, _, h => by
    cases h with
    | dit h1 h2 h3 => exact .dit (e _ _ h1) h2 (Rps.mono e h3)
theorem Rps.mono (e : Same H H') : ∀ {ds : List Dt} {vs : List V}, Rps K ca H ds vs → Rps K ca H' ds vs
  | [], _, h => by cases h; exact .nil
  | d :: ds, _, h => by
    cases h with
    | cons h1 h2 => exact .cons (Rp.mono e h1) (Rps.mono e h2)
end
theorem Rps.get : ∀ {ds : List Dt} {vs : List V} {i : Nat} {d : Dt}, Rps K ca H ds vs → ds[i]? = some d → ∃ v, vs[i]? = some v ∧ Rp K ca H d v
  | [], _, _, _, _, e => by simp at e
  | x :: ds, _, i, d, h, e => by
    cases h with
    | cons h1 h2 =>
      cases i with
      | zero =>
        have q : x = d := by simpa using e
        subst q
        exact ⟨_, by simp, h1⟩
      | succ i =>
        obtain ⟨v, q1, q2⟩ := Rps.get (i := i) h2 (by simpa using e)
        exact ⟨v, by simpa using q1, q2⟩
theorem Rps.append : ∀ {ds es : List Dt} {vs us : List V}, Rps K ca H ds vs → Rps K ca H es us → Rps K ca H (ds ++ es) (vs ++ us)
  | [], _, _, _, h, k => by cases h; exact k
  | d :: ds, _, _, _, h, k => by
    cases h with
    | cons h1 h2 => exact .cons h1 (Rps.append h2 k)
theorem Rps.drop : ∀ {ds : List Dt} {vs : List V} (n : Nat), Rps K ca H ds vs → Rps K ca H (ds.drop n) (vs.drop n)
  | [], _, n, h => by cases h; simp; exact .nil
  | d :: ds, _, 0, h => by simpa using h
  | d :: ds, _, n + 1, h => by
    cases h with
    | cons h1 h2 => simpa using Rps.drop n h2
theorem Rps.take : ∀ {ds : List Dt} {vs : List V} (n : Nat), Rps K ca H ds vs → Rps K ca H (ds.take n) (vs.take n)
  | [], _, n, h => by cases h; simp; exact .nil
  | d :: ds, _, 0, h => by simp; exact .nil
  | d :: ds, _, n + 1, h => by
    cases h with
    | cons h1 h2 => simpa using Rps.cons h1 (Rps.take n h2)
theorem Rps.reverse {ds : List Dt} : ∀ {vs : List V}, Rps K ca H ds vs → Rps K ca H ds.reverse vs.reverse := by
  induction ds with
  | nil => intro vs h; cases h; exact .nil
  | cons d ds ih =>
    intro vs h
    cases h with
    | cons h1 h2 =>
      rw [List.reverse_cons, List.reverse_cons]
      exact (ih h2).append (.cons h1 .nil)
/- the owned part as it was elsewhere -/
mutual
theorem Ow.carry (e : Same G G') : ∀ {d : Dt} {m : Mode} {v : V} {P : Addr → Prop}, (∀ b, P b → H' b = H b ∧ G' b = none) → Ow K ca G H m d v P → Ow K ca G' H' m d v P
  | d, m, v, P, hp, h => by
    cases h with
    | F h => exact .F (h.mono e)
    | NL => exact .NL
    | NT => exact .NT
    | NI => exact .NI
    | L h1 h2 h3 h4 => exact .L (by rw [(hp _ h3).1]; exact h1) (hp _ h3).2 h3 (Ows.carry e (fun b hb => hp b hb.1) h4)
    | T h1 h2 h3 h4 => exact .T (by rw [(hp _ h3).1]; exact h1) (hp _ h3).2 h3 (Ows.carry e (fun b hb => hp b hb.1) h4)
    | TL h1 h2 h3 h4 => exact .TL (by rw [(hp _ h3).1]; exact h1) (hp _ h3).2 h3 (Ows.carry e (fun b hb => hp b hb.1) h4)
    | I h1 h2 h3 h4 h5 => exact .I (by rw [(hp _ h3).1]; exact h1) (hp _ h3).2 h3 h4 (Ows.carry e (fun b hb => hp b hb.1) h5)
    | K h1 h2 h3 h4 h5 => exact .K (by rw [(hp _ h3).1]; exact h1) (hp _ h3).2 h3 h4 (Ows.carry e (fun b hb => hp b hb.1) h5)
    | KT h1 h2 h3 h4 h5 => exact .KT (by rw [(hp _ h3).1]; exact h1) (hp _ h3).2 h3 h4 (Ows.carry e (fun b hb => hp b hb.1) h5)
  termination_by d => sizeOf d
theorem Ows.carry (e : Same G G') : ∀ {ds : List Dt} {ms : List Mode} {vs : List V} {P : Addr → Prop}, (∀ b, P b → H' b = H b ∧ G' b = none) → Ows K ca G H ms ds vs P → Ows K ca G' H' ms ds vs P
  | [], ms, vs, P, hp, h => by
    cases h
    exact .nil
  | d :: ds, ms, vs, P, hp, h => by
    cases h with
    | cons h1 h2 q1 q2 q3 => exact .cons (Ow.carry e (fun b hb => hp b (q1 b hb)) h1) (Ows.carry e (fun b hb => hp b (q2 b hb)) h2) q1 q2 q3
  termination_by ds => sizeOf ds
end
theorem Ows.weaken {ds : List Dt} {ms : List Mode} {vs : List V} {P P' : Addr → Prop} (hp : ∀ b, P b → P' b) (h : Ows K ca G H ms ds vs P) : Ows K ca G H ms ds vs P' := by
  cases h with
  | nil => exact .nil
  | cons h1 h2 q1 q2 q3 => exact .cons h1 h2 (fun b hb => hp b (q1 b hb)) (fun b hb => hp b (q2 b hb)) q3
theorem Ow.weaken {d : Dt} {m : Mode} {v : V} {P P' : Addr → Prop} (hp : ∀ b, P b → P' b) (h : Ow K ca G H m d v P) : Ow K ca G H m d v P' := by
  cases h with
  | F h => exact .F h
  | NL => exact .NL
  | NT => exact .NT
  | NI => exact .NI
  | L h1 h2 h3 h4 => exact .L h1 h2 (hp _ h3) (h4.weaken fun b hb => ⟨hp b hb.1, hb.2⟩)
  | T h1 h2 h3 h4 => exact .T h1 h2 (hp _ h3) (h4.weaken fun b hb => ⟨hp b hb.1, hb.2⟩)
  | TL h1 h2 h3 h4 => exact .TL h1 h2 (hp _ h3) (h4.weaken fun b hb => ⟨hp b hb.1, hb.2⟩)
  | I h1 h2 h3 h4 h5 => exact .I h1 h2 (hp _ h3) h4 (h5.weaken fun b hb => ⟨hp b hb.1, hb.2⟩)
  | K h1 h2 h3 h4 h5 => exact .K h1 h2 (hp _ h3) h4 (h5.weaken fun b hb => ⟨hp b hb.1, hb.2⟩)
  | KT h1 h2 h3 h4 h5 => exact .KT h1 h2 (hp _ h3) h4 (h5.weaken fun b hb => ⟨hp b hb.1, hb.2⟩)
/- frozen: whatever heap holds the owned part too -/
mutual
theorem Ow.freeze (e : Same G G') : ∀ {d : Dt} {m : Mode} {v : V} {P : Addr → Prop}, (∀ b, P b → G' b = H b) → Ow K ca G H m d v P → Rp K ca G' d v
  | d, m, v, P, hp, h => by
    cases h with
    | F h => exact h.mono e
    | NL => exact .non
    | NT => exact .non
    | NI => exact .non
    | L h1 h2 h3 h4 => exact .lst (by rw [hp _ h3]; exact h1) (Ows.freeze e (fun b hb => hp b hb.1) h4)
    | T h1 h2 h3 h4 => exact .tup (by rw [hp _ h3]; exact h1) (Ows.freeze e (fun b hb => hp b hb.1) h4)
    | TL h1 h2 h3 h4 => exact .lst (by rw [hp _ h3]; exact h1) (Ows.freeze e (fun b hb => hp b hb.1) h4)
    | I h1 h2 h3 h4 h5 => exact .ins (by rw [hp _ h3]; exact h1) h4 (Ows.freeze e (fun b hb => hp b hb.1) h5)
    | K h1 h2 h3 h4 h5 => exact .dic (by rw [hp _ h3]; exact h1) h4 (Ows.freeze e (fun b hb => hp b hb.1) h5)
    | KT h1 h2 h3 h4 h5 => exact .dit (by rw [hp _ h3]; exact h1) h4 (Ows.freeze e (fun b hb => hp b hb.1) h5)
  termination_by d => sizeOf d
theorem Ows.freeze (e : Same G G') : ∀ {ds : List Dt} {ms : List Mode} {vs : List V} {P : Addr → Prop}, (∀ b, P b → G' b = H b) → Ows K ca G H ms ds vs P → Rps K ca G' ds vs
  | [], ms, vs, P, hp, h => by
    cases h
    exact .nil
  | d :: ds, ms, vs, P, hp, h => by
    cases h with
    | cons h1 h2 q1 q2 q3 => exact .cons (Ow.freeze e (fun b hb => hp b (q1 b hb)) h1) (Ows.freeze e (fun b hb => hp b (q2 b hb)) h2)
  termination_by ds => sizeOf ds
end
end
end Pm
namespace Pm
open PySem PySem.Spec PyProof.Rows L2
open Classical
/-! ### worlds -/
structure Ext (G H G' H' : Hp) : Prop where
  g : Same G G'
  h : Same H H'
  gh : Same G' H'
  base : ∀ a, H a ≠ none → G' a = G a
section
variable {G H G' H' G2 H2 : Hp}
theorem Ext.refl (e : Same G H) : Ext G H G H := ⟨Same.refl _, Same.refl _, e, fun _ _ => rfl⟩
theorem _root_.L2.Same.nn (e : Same H H') {a : Addr} (h : H a ≠ none) : H' a ≠ none := by
  cases q : H a with
  | none => exact absurd q h
  | some o => rw [e a o q]; exact fun z => by cases z
theorem _root_.L2.Same.at (e : Same H H') {a : Addr} (h : H a ≠ none) : H' a = H a := by
  cases q : H a with
  | none => exact absurd q h
  | some o => exact e a o q
theorem Ext.trans (a : Ext G H G' H') (b : Ext G' H' G2 H2) : Ext G H G2 H2 :=
  ⟨a.g.trans b.g, a.h.trans b.h, b.gh, fun x h => (b.base x (a.h.nn h)).trans (a.base x h)⟩
/-- the heap alone grows -/
theorem Ext.heap (e : Same G H) (h : Same H H') : Ext G H G H' := ⟨Same.refl _, h, e.trans h, fun _ _ => rfl⟩
/-- a new frozen object -/
theorem Ext.new {p : Addr} {o : HO} (e : Same G H) (hp : H p = none) : Ext G H (upd G p o) (upd H p o) := by
  refine ⟨Same.new (Same.free e hp), Same.new hp, fun a u q => ?_, fun a h => ?_⟩
  · by_cases z : a = p
    · rw [z, upd_same] at q ⊢
      exact q
    · rw [upd_ne z] at q ⊢
      exact e a u q
  · exact upd_ne fun z => h (by rw [z]; exact hp)
end
def Fr (G' H H' : Hp) (P : Addr → Prop) : Prop := ∀ b, P b → G' b = none ∧ H b = none ∧ H' b ≠ none
abbrev Pno : Addr → Prop := fun _ => False
theorem Fr.no {G H H' : Hp} : Fr G H H' Pno := fun _ h => h.elim
structure Jc where
  K : PySem.W.Frag
  ca : Str → Addr
  W : WX
  gx : Option (List Mode)
  gb : List Mode
  mr : Mode
  pin : List (Nat × V)
  xd : Option (Addr × Int)
  ln : List (Nat × Mode × V)
def pinB : List (Nat × V) → Nat → Bool
  | [], _ => true
  | q :: l, i => decide (q.1 ≠ i) && pinB l i
theorem pinB_ne : ∀ {l : List (Nat × V)} {i k : Nat} {v : V}, pinB l i = true → (k, v) ∈ l → k ≠ i
  | [], _, _, _, _, h => by cases h
  | q :: l, i, k, v, hb, h => by
    have hb : (decide (q.1 ≠ i) && pinB l i) = true := hb
    rw [Bool.and_eq_true] at hb
    rcases List.mem_cons.mp h with e | h
    · have := of_decide_eq_true hb.1
      rw [← e] at this
      exact this
    · exact pinB_ne hb.2 h
abbrev Jc.nw (J : Jc) : Jc := { J with W := fun _ _ _ _ => False, pin := [] }
/-- the slot i may be stored -/
abbrev Jc.free (J : Jc) (i : Nat) : Prop := pinB J.pin i = true
structure Wd (J : Jc) (G0 H0 : Hp) (Γ : List Mode) (ρ : Ev) (σ : L2.St) (G H : Hp) : Prop where
  x : Ext G0 H0 G H
  lg : Γ.length = ρ.length
  lr : ρ.length = σ.length
  env : ∃ Pf : Nat → Addr → Prop, (∀ i j a, i ≠ j → Pf i a → ¬ Pf j a) ∧ (∀ i a, Pf i a → G a = none ∧ H0 a = none ∧ H a ≠ none) ∧
    ∀ i d, ρ[i]? = some (some d) → ∃ v m, σ[i]? = some (some v) ∧ Γ[i]? = some m ∧ Ow J.K J.ca G H m d v (Pf i)
  pn : ∀ i v, (i, v) ∈ J.pin → σ[i]? = some (some v)
  xk : ∀ d n, J.xd = some (d, n) → G0 d = some (.xd [("row", .int n)]) ∨ H0 d = some (.xd [("row", .int n)])
section
variable {J : Jc} {G0 H0 G H G' H' : Hp} {Γ : List Mode} {ρ : Ev} {σ : L2.St}
theorem Wd.ext (w : Wd J G0 H0 Γ ρ σ G H) (e : Ext G H G' H') : Wd J G0 H0 Γ ρ σ G' H' := by
  obtain ⟨Pf, h1, h2, h3⟩ := w.env
  refine ⟨w.x.trans e, w.lg, w.lr, ⟨Pf, h1, fun i a q => ?_, fun i d q => ?_⟩, w.pn, w.xk⟩
  · obtain ⟨a1, a2, a3⟩ := h2 i a q
    exact ⟨by rw [e.base a a3]; exact a1, a2, e.h.nn a3⟩
  · obtain ⟨v, m, s1, s2, s3⟩ := h3 i d q
    refine ⟨v, m, s1, s2, s3.carry e.g fun b hb => ?_⟩
    obtain ⟨a1, a2, a3⟩ := h2 i b hb
    exact ⟨e.h.at a3, by rw [e.base b a3]; exact a1⟩
theorem Wd.gh (w : Wd J G0 H0 Γ ρ σ G H) : Same G H := w.x.gh
theorem Wd.heap (w : Wd J G0 H0 Γ ρ σ G H) (h : Same H H') : Wd J G0 H0 Γ ρ σ G H' := w.ext (Ext.heap w.gh h)
theorem Wd.get (w : Wd J G0 H0 Γ ρ σ G H) {i : Nat} {d : Dt} (h : ρ[i]? = some (some d)) : ∃ v m P, σ[i]? = some (some v) ∧ Γ[i]? = some m ∧ Ow J.K J.ca G H m d v P ∧ (∀ b, P b → G b = none ∧ H b ≠ none) := by
  obtain ⟨Pf, h1, h2, h3⟩ := w.env
  obtain ⟨v, m, s1, s2, s3⟩ := h3 i d h
  exact ⟨v, m, Pf i, s1, s2, s3, fun b hb => ⟨(h2 i b hb).1, (h2 i b hb).2.2⟩⟩
theorem Ow.view {m : Mode} {d : Dt} {v : V} {P : Addr → Prop} {K : PySem.W.Frag} {ca : Str → Addr} (e : Same G H) (h : Ow K ca G H m d v P) : Rp K ca H d v := h.freeze e fun _ _ => rfl
/-- a slot is stored -/
theorem Wd.set (w : Wd J G0 H0 Γ ρ σ G H) (e : Ext G H G' H') {m : Mode} {d : Dt} {v : V} {P : Addr → Prop} (o : Ow J.K J.ca G' H' m d v P) (f : Fr G' H H' P) (i : Nat) (hi : J.free i) :
    Wd J G0 H0 (Γ.set i m) (ρ.set i (some d)) (σ.set i (some v)) G' H' := by
  obtain ⟨Pf, h1, h2, h3⟩ := w.env
  have w' := w.ext e
  refine ⟨w'.x, by rw [List.length_set, List.length_set]; exact w.lg, by rw [List.length_set, List.length_set]; exact w.lr, ⟨fun j => if j = i then P else Pf j, fun j k a q r s => ?_, fun j a q => ?_, fun j c q => ?_⟩, fun k v hv => ?_, w.xk⟩
  · by_cases hj : j = i
    · by_cases hk : k = i
      · exact q (hj.trans hk.symm)
      · simp only [hj, if_true] at r
        simp only [hk, if_false] at s
        exact (h2 k a s).2.2 (f a r).2.1
    · simp only [hj, if_false] at r
      by_cases hk : k = i
      · simp only [hk, if_true] at s
        exact (h2 j a r).2.2 (f a s).2.1
      · simp only [hk, if_false] at s
        exact h1 j k a q r s
  · by_cases hj : j = i
    · simp only [hj, if_true] at q
      obtain ⟨a1, a2, a3⟩ := f a q
      exact ⟨a1, w.x.h.free a2, a3⟩
    · simp only [hj, if_false] at q
      obtain ⟨a1, a2, a3⟩ := h2 j a q
      exact ⟨by rw [e.base a a3]; exact a1, a2, e.h.nn a3⟩
  · by_cases hj : j = i
    · subst hj
      have hl : j < ρ.length := by
        have z := (List.getElem?_eq_some_iff.mp q).1
        simpa using z
      rw [List.getElem?_set_self hl] at q
      have hd : d = c := by simpa using q
      subst hd
      have hl2 : j < σ.length := by rw [← w.lr]; exact hl
      have hg : j < Γ.length := by rw [w.lg]; exact hl
      refine ⟨v, m, List.getElem?_set_self hl2, List.getElem?_set_self hg, ?_⟩
      simp only [if_true]
      exact o
    · rw [List.getElem?_set_ne (Ne.symm hj)] at q
      obtain ⟨v2, m2, s1, s2, s3⟩ := h3 j c q
      refine ⟨v2, m2, by rw [List.getElem?_set_ne (Ne.symm hj)]; exact s1, by rw [List.getElem?_set_ne (Ne.symm hj)]; exact s2, ?_⟩
      simp only [hj, if_false]
      refine s3.carry e.g fun b hb => ?_
      obtain ⟨a1, a2, a3⟩ := h2 j b hb
      exact ⟨e.h.at a3, by rw [e.base b a3]; exact a1⟩
  · have ne : k ≠ i := by
      exact pinB_ne hi hv
    rw [List.getElem?_set_ne (Ne.symm ne)]
    exact w.pn k v hv
end
end Pm
namespace Pm
open PySem PySem.Spec PyProof.Rows L2
open Classical
/-! ### results, readings -/
def isSq (K : PySem.W.Frag) (H : Hp) (d : Dt) (a : Addr) (vs : List V) (ds : List Dt) : Prop :=
  (d = .lst ds ∧ H a = some (.lst vs)) ∨ (d = .scr ds ∧ SqL K H a vs) ∨ (d = .tup ds ∧ H a = some (.tup vs))
def Res (K : PySem.W.Frag) (ca : Str → Addr) (G H : Hp) : EM → Dt → V → (Addr → Prop) → Prop
  | .o m, d, v, P => Ow K ca G H m d v P
  | .B, d, v, _ => Rp K ca H d v
  | .S, d, v, _ => Rp K ca H d v ∧ ∀ ds, (d = .lst ds ∨ d = .scr ds ∨ d = .tup ds) → ∃ a vs, v = .ref a ∧ isSq K H d a vs ds ∧ Rps K ca G ds vs
section
variable (J : Jc)
def SemE (Γ : List Mode) (em : EM) (F : Ev → Rs Dt) (te : TE) : Prop := ∀ ⦃G0 H0 G H : Hp⦄ ⦃ρ : Ev⦄ ⦃σ : L2.St⦄ ⦃Q : VK⦄, Wd J G0 H0 Γ ρ σ G H →
  Rs.Post (fun d => ∀ v G' H' P, Ext G H G' H' → Fr G' H H' P → Res J.K J.ca G' H' em d v P → Q v H') (fun c => ∀ H' dx, Same H H' → XR c dx H' → J.W (.ref (J.ca c.1)) dx σ H') (F ρ) → te σ H Q
def SemT (Γ : List Mode) (F : Ev → Rs Bool) (tt : TT) : Prop := ∀ ⦃G0 H0 G H : Hp⦄ ⦃ρ : Ev⦄ ⦃σ : L2.St⦄ ⦃Q : Bool → Hp → Prop⦄, Wd J G0 H0 Γ ρ σ G H →
  Rs.Post (fun b => ∀ G' H', Ext G H G' H' → Q b H') (fun c => ∀ H' dx, Same H H' → XR c dx H' → J.W (.ref (J.ca c.1)) dx σ H') (F ρ) → tt σ H Q
def SemO (Γ : List Mode) (F : Ev → Rs (Option Int)) (to : TO) : Prop := ∀ ⦃G0 H0 G H : Hp⦄ ⦃ρ : Ev⦄ ⦃σ : L2.St⦄ ⦃Q : Option Int → Hp → Prop⦄, Wd J G0 H0 Γ ρ σ G H →
  Rs.Post (fun d => ∀ G' H', Ext G H G' H' → Q d H') (fun c => ∀ H' dx, Same H H' → XR c dx H' → J.W (.ref (J.ca c.1)) dx σ H') (F ρ) → to σ H Q
end
section
variable {J : Jc} {Γ : List Mode} {em : EM} {m : Mode} {F Fa Fb : Ev → Rs Dt} {te ta tb : TE} {G0 H0 G H G' H' : Hp} {ρ : Ev} {σ : L2.St}
/-! ### names, constants -/
def varE (i : Nat) (ρ : Ev) : Rs Dt := match ρ[i]? with
  | some (some d) => .ok d
  | _ => .no
def conE (d : Dt) (_ : Ev) : Rs Dt := .ok d
theorem varE_ok {i : Nat} {d : Dt} (h : varE i ρ = .ok d) : ρ[i]? = some (some d) := by
  unfold varE at h
  split at h
  · rename_i x e
    cases h
    exact e
  · cases h
theorem varE_post {i : Nat} {P : Dt → Prop} {E : Xn → Prop} (h : Rs.Post P E (varE i ρ)) : ∃ d, ρ[i]? = some (some d) ∧ P d := by
  cases q : varE i ρ with
  | ok d => rw [q] at h; exact ⟨d, varE_ok q, h.of_ok⟩
  | ex c => unfold varE at q; split at q <;> cases q
  | no => rw [q] at h; cases h
/-- a frozen name -/
theorem se_var {i : Nat} (hm : Γ[i]? = some .F) : SemE J Γ (.o .F) (varE i) (tVar i) := fun {_ _ _ _ _ _ _} w h => by
  obtain ⟨d, e, q⟩ := varE_post h
  obtain ⟨v, m, P, s1, s2, s3, _⟩ := w.get e
  rw [hm] at s2
  cases s2
  cases s3 with
  | F s3 => exact ⟨v, s1, q v _ _ Pno (Ext.refl w.gh) Fr.no (.F s3)⟩
/-- a name looked at -/
theorem se_varB {i : Nat} : SemE J Γ .B (varE i) (tVar i) := fun {_ _ _ _ _ _ _} w h => by
  obtain ⟨d, e, q⟩ := varE_post h
  obtain ⟨v, m, P, s1, s2, s3, _⟩ := w.get e
  exact ⟨v, s1, q v _ _ Pno (Ext.refl w.gh) Fr.no (s3.view w.gh)⟩
/-- the name of an owned list, tuple whose parts are frozen -/
theorem Ows.frozen {K : PySem.W.Frag} {ca : Str → Addr} : ∀ {ds : List Dt} {vs : List V} {P : Addr → Prop} {n : Nat}, Ows K ca G H (List.replicate n .F) ds vs P → Rps K ca G ds vs
  | [], _, _, n, h => by cases n <;> cases h; exact .nil
  | d :: ds, _, _, 0, h => by cases h
  | d :: ds, _, _, n + 1, h => by
    rw [List.replicate_succ] at h
    cases h with
    | cons h1 h2 _ _ _ =>
      cases h1 with
      | F h1 => exact .cons h1 (Ows.frozen h2)
theorem res_S {K : PySem.W.Frag} {ca : Str → Addr} {d : Dt} {v : V} {P P' : Addr → Prop} (e : Same G H) (h : Ow K ca G H (.L .F) d v P) : Res K ca G H .S d v P' := by
  refine ⟨h.view e, fun ds hd => ?_⟩
  cases h with
  | NL => rcases hd with hd | hd | hd <;> cases hd
  | L h1 h2 h3 h4 =>
    rcases hd with hd | hd | hd
    · cases hd
      exact ⟨_, _, rfl, .inl ⟨rfl, h1⟩, h4.frozen⟩
    · cases hd
    · cases hd
theorem res_SF {K : PySem.W.Frag} {ca : Str → Addr} {d : Dt} {v : V} {P' : Addr → Prop} (e : Same G H) (h : Rp K ca G d v) : Res K ca G H .S d v P' := by
  refine ⟨h.mono e, fun ds hd => ?_⟩
  rcases hd with hd | hd | hd
  · subst hd
    cases h with
    | lst h1 h2 => exact ⟨_, _, rfl, .inl ⟨rfl, e _ _ h1⟩, h2⟩
  · subst hd
    cases h with
    | scr h1 h2 => exact ⟨_, _, rfl, .inr (.inl ⟨rfl, L2.Same.seq e h1⟩), h2⟩
  · subst hd
    cases h with
    | tup h1 h2 => exact ⟨_, _, rfl, .inr (.inr ⟨rfl, e _ _ h1⟩), h2⟩
theorem se_varS {i : Nat} (hm : Γ[i]? = some (.L .F)) : SemE J Γ .S (varE i) (tVar i) := fun {_ _ _ _ _ _ _} w h => by
  obtain ⟨d, e, q⟩ := varE_post h
  obtain ⟨v, m, P, s1, s2, s3, _⟩ := w.get e
  rw [hm] at s2
  cases s2
  exact ⟨v, s1, q v _ _ Pno (Ext.refl w.gh) Fr.no (res_S w.gh s3)⟩
theorem se_con {d : Dt} {v : V} (r : ∀ G, Rp J.K J.ca G d v) : SemE J Γ (.o .F) (conE d) (tC v) := fun {_ _ _ _ _ _ _} w h => h.of_ok v _ _ Pno (Ext.refl w.gh) Fr.no (.F (r _))
theorem se_int {i : Int} : SemE J Γ (.o .F) (conE (.int i)) (tC (.int i)) := se_con fun _ => .int i
theorem se_str {x : Str} : SemE J Γ (.o .F) (conE (.str x)) (tC (.str x)) := se_con fun _ => .str x
theorem se_bl {b : Bool} : SemE J Γ (.o .F) (conE (.bl b)) (tC (.bl b)) := se_con fun _ => .bl b
/-! ### from mode to mode -/
/-- an owned result is frozen -/
theorem frz_ext {v : V} {d : Dt} {P : Addr → Prop} {K : PySem.W.Frag} {ca : Str → Addr} (e : Ext G H G' H') (f : Fr G' H H' P) (o : Ow K ca G' H' m d v P) : ∃ G2, Ext G H G2 H' ∧ Rp K ca G2 d v ∧ Same G' G2 := by
  have sg : Same G' (fun b => if P b then H' b else G' b) := fun a u q => by
    show (if P a then H' a else G' a) = some u
    by_cases z : P a
    · rw [if_pos z]; exact e.gh a u q
    · rw [if_neg z]; exact q
  refine ⟨fun b => if P b then H' b else G' b, ⟨e.g.trans sg, e.h, fun a u q => ?_, fun a h => ?_⟩, o.freeze sg fun b hb => if_pos hb, sg⟩
  · have q : (if P a then H' a else G' a) = some u := q
    by_cases z : P a
    · rw [if_pos z] at q; exact q
    · rw [if_neg z] at q; exact e.gh a u q
  · show (if P a then H' a else G' a) = G a
    rw [if_neg fun z => h (f a z).2.1]
    exact e.base a h
theorem se_frz (h : SemE J Γ (.o m) F te) : SemE J Γ (.o .F) F te := fun {_ _ _ _ _ _ _} w p => h w (p.imp (fun d _ q v G' H' P e f o => by
  obtain ⟨G2, e2, r, _⟩ := frz_ext e f o
  exact q v G2 H' Pno e2 Fr.no (.F r)) fun _ q => q)
theorem se_B (h : SemE J Γ (.o m) F te) : SemE J Γ .B F te := fun {_ _ _ _ _ _ _} w p => h w (p.imp (fun d _ q v G' H' P e f o => q v G' H' Pno e Fr.no (o.view e.gh)) fun _ q => q)
theorem se_S (h : SemE J Γ (.o .F) F te) : SemE J Γ .S F te := fun {_ _ _ _ _ _ _} w p => h w (p.imp (fun d _ q v G' H' P e f o => q v G' H' Pno e Fr.no (by
  cases o with
  | F o => exact res_SF e.gh o)) fun _ q => q)
theorem se_LS (h : SemE J Γ (.o (.L .F)) F te) : SemE J Γ .S F te := fun {_ _ _ _ _ _ _} w p => h w (p.imp (fun d _ q v G' H' P e f o => q v G' H' Pno e Fr.no (res_S e.gh o)) fun _ q => q)
/-! ### operations -/
/-- data without parts -/
def scal : Dt → Bool
  | .non => true
  | .bl _ => true
  | .int _ => true
  | .str _ => true
  | _ => false
theorem scal_rp {K : PySem.W.Frag} {ca : Str → Addr} {d : Dt} {v : V} (s : scal d = true) (h : Rp K ca H d v) : Rp K ca G d v := by
  cases h with
  | non => exact .non
  | bl b => exact .bl b
  | int i => exact .int i
  | str x => exact .str x
  | _ => cases s
def op2E (g : Dt → Dt → Rs Dt) (Fa Fb : Ev → Rs Dt) (ρ : Ev) : Rs Dt := Fa ρ >>= fun a => Fb ρ >>= fun b => g a b
def op1E (g : Dt → Rs Dt) (Fa : Ev → Rs Dt) (ρ : Ev) : Rs Dt := Fa ρ >>= g
/-- an operation that looks at two and gives a scalar -/
def Rule2 (K : PySem.W.Frag) (ca : Str → Addr) (g : Dt → Dt → Rs Dt) (r : R2) : Prop := ∀ (H : Hp) (a b d : Dt) (x y : V) (Q : VK), Rp K ca H a x → Rp K ca H b y → g a b = .ok d → (∀ v, scal d = true → (∀ G, Rp K ca G d v) → Q v H) → r x y H Q
def NoEx2 (g : Dt → Dt → Rs Dt) : Prop := ∀ a b c, g a b ≠ .ex c
theorem se_op2 {g : Dt → Dt → Rs Dt} {r : R2} (hr : Rule2 J.K J.ca g r) (hn : NoEx2 g) (ha : SemE J Γ .B Fa ta) (hb : SemE J Γ .B Fb tb) : SemE J Γ (.o .F) (op2E g Fa Fb) (tOp r ta tb) := fun {G0 H0 G H ρ σ Q} w p => by
  refine ha w (p.bind.imp (fun a _ p1 x G1 H1 _ e1 _ ra => ?_) fun _ q => q)
  refine hb (w.ext e1) (p1.bind.imp (fun b _ p2 y G2 H2 _ e2 _ rb => ?_) fun _ q H' dx s => q H' dx (e1.h.trans s))
  cases q : g a b with
  | ok d =>
    rw [q] at p2
    exact hr H2 a b d x y Q (Rp.mono e2.h ra) rb q fun v _ hv => p2.of_ok v G2 H2 Pno (e1.trans e2) Fr.no (.F (hv _))
  | ex c => exact absurd q (hn a b c)
  | no => rw [q] at p2; cases p2
/-! the ints -/
def i2 (f : Int → Int → Rs Dt) : Dt → Dt → Rs Dt
  | .int a, .int b => f a b
  | _, _ => .no
theorem rule_i2 {K : PySem.W.Frag} {ca : Str → Addr} {f : Int → Int → Rs Dt} {r : R2} (h : ∀ i j d H Q, f i j = .ok d → (∀ v, scal d = true → (∀ G, Rp K ca G d v) → Q v H) → r (.int i) (.int j) H Q) : Rule2 K ca (i2 f) r := by
  intro H a b d x y Q ra rb q k
  cases ra with
  | int i =>
    cases rb with
    | int j => exact h i j d H Q q k
    | _ => cases q
  | _ => cases rb <;> cases q
theorem nx_i2 {f : Int → Int → Rs Dt} (h : ∀ i j c, f i j ≠ .ex c) : NoEx2 (i2 f) := by
  intro a b c
  unfold i2
  split
  · exact h _ _ _
  · exact fun q => by cases q
@[irreducible] def smallI (i : Int) : Bool := decide (-(2 ^ 64) < i) && decide (i < 2 ^ 64)
def addI (i j : Int) : Rs Dt := .ok (.int (i + j))
def subI (i j : Int) : Rs Dt := .ok (.int (i - j))
def mulI (i j : Int) : Rs Dt := if (smallI i || smallI j) = true then .ok (.int (i * j)) else .no
@[irreducible] def divOk (j : Int) : Bool := decide (0 < j) && decide (j.natAbs < 2 ^ 200)
@[irreducible] def powOk (i j : Int) : Bool := decide (0 ≤ j) && (decide (j ≤ 1000) && decide (i.natAbs < 2 ^ 64))
def divI (i j : Int) : Rs Dt := if divOk j = true then .ok (.int (i / j)) else .no
def modI (i j : Int) : Rs Dt := if decide (0 < j) = true then .ok (.int (i % j)) else .no
def powI (i j : Int) : Rs Dt := if powOk i j = true then .ok (.int (i ^ j.toNat)) else .no
def shlI (i j : Int) : Rs Dt := if powOk i j = true then .ok (.int (i * 2 ^ j.toNat)) else .no
def ltI (i j : Int) : Rs Dt := .ok (.bl (decide (i < j)))
def leI (i j : Int) : Rs Dt := .ok (.bl (decide (i ≤ j)))
def gtI (i j : Int) : Rs Dt := .ok (.bl (decide (j < i)))
def geI (i j : Int) : Rs Dt := .ok (.bl (decide (j ≤ i)))
def addE := op2E (i2 addI)
def subE := op2E (i2 subI)
def mulE := op2E (i2 mulI)
def divE := op2E (i2 divI)
def modE := op2E (i2 modI)
def powE := op2E (i2 powI)
def shlE := op2E (i2 shlI)
def ltE := op2E (i2 ltI)
def leE := op2E (i2 leI)
def gtE := op2E (i2 gtI)
def geE := op2E (i2 geI)
theorem nx_if {α : Type} {c : Prop} [Decidable c] {a b : Rs α} {e : Xn} (ha : a ≠ .ex e) (hb : b ≠ .ex e) : (if c then a else b) ≠ .ex e := by
  split
  · exact ha
  · exact hb
theorem ok_if {α : Type} {c : Prop} [Decidable c] {a : Rs α} {d : α} (h : (if c then a else .no) = .ok d) : c ∧ a = .ok d := by
  split at h
  · exact ⟨by assumption, h⟩
  · cases h
section
variable (ha : SemE J Γ .B Fa ta) (hb : SemE J Γ .B Fb tb)
include ha hb
theorem se_add : SemE J Γ (.o .F) (addE Fa Fb) (tOp (rI0 fun i j => .int (i + j)) ta tb) :=
  se_op2 (rule_i2 fun i j d H Q q k => by cases q; exact ⟨i, j, rfl, rfl, k _ rfl fun _ => .int _⟩) (nx_i2 fun _ _ _ q => by cases q) ha hb
theorem se_sub : SemE J Γ (.o .F) (subE Fa Fb) (tOp (rI0 fun i j => .int (i - j)) ta tb) :=
  se_op2 (rule_i2 fun i j d H Q q k => by cases q; exact ⟨i, j, rfl, rfl, k _ rfl fun _ => .int _⟩) (nx_i2 fun _ _ _ q => by cases q) ha hb
theorem se_mul : SemE J Γ (.o .F) (mulE Fa Fb) (tOp (rI CMul fun i j => .int (i * j)) ta tb) :=
  se_op2 (rule_i2 fun i j d H Q q k => by
    obtain ⟨c, q⟩ := ok_if q
    cases q
    refine ⟨i, j, rfl, rfl, ?_, k _ rfl fun _ => .int _⟩
    unfold smallI at c
    rw [Bool.or_eq_true, Bool.and_eq_true, Bool.and_eq_true] at c
    rcases c with ⟨c1, c2⟩ | ⟨c1, c2⟩
    · exact .inl ⟨of_decide_eq_true c1, of_decide_eq_true c2⟩
    · exact .inr ⟨of_decide_eq_true c1, of_decide_eq_true c2⟩) (nx_i2 fun _ _ _ => nx_if (fun q => by cases q) fun q => by cases q) ha hb
theorem se_div : SemE J Γ (.o .F) (divE Fa Fb) (tOp (rI CDivW fun i j => .int (i / j)) ta tb) :=
  se_op2 (rule_i2 fun i j d H Q q k => by
    obtain ⟨c, q⟩ := ok_if q
    cases q
    unfold divOk at c
    rw [Bool.and_eq_true] at c
    exact ⟨i, j, rfl, rfl, wide_div (of_decide_eq_true c.1) (of_decide_eq_true c.2) (by decide) (by decide), k _ rfl fun _ => .int _⟩) (nx_i2 fun _ _ _ => nx_if (fun q => by cases q) fun q => by cases q) ha hb
theorem se_mod : SemE J Γ (.o .F) (modE Fa Fb) (tOp (rI (fun _ j => 0 < j) fun i j => .int (i % j)) ta tb) :=
  se_op2 (rule_i2 fun i j d H Q q k => by
    obtain ⟨c, q⟩ := ok_if q
    cases q
    exact ⟨i, j, rfl, rfl, of_decide_eq_true c, k _ rfl fun _ => .int _⟩) (nx_i2 fun _ _ _ => nx_if (fun q => by cases q) fun q => by cases q) ha hb
theorem se_lt : SemE J Γ (.o .F) (ltE Fa Fb) (tOp (rI0 fun i j => .bl (decide (i < j))) ta tb) :=
  se_op2 (rule_i2 fun i j d H Q q k => by cases q; exact ⟨i, j, rfl, rfl, k _ rfl fun _ => .bl _⟩) (nx_i2 fun _ _ _ q => by cases q) ha hb
theorem se_gt : SemE J Γ (.o .F) (gtE Fa Fb) (tOp (rI0 fun i j => .bl (decide (j < i))) ta tb) :=
  se_op2 (rule_i2 fun i j d H Q q k => by cases q; exact ⟨i, j, rfl, rfl, k _ rfl fun _ => .bl _⟩) (nx_i2 fun _ _ _ q => by cases q) ha hb
end
end
end Pm
namespace Pm
open PySem PySem.Spec PyProof.Rows L2
open Classical
/-! ### == -/
mutual
def pyD : Dt → PyData
  | .non => .none
  | .bl b => .bool b
  | .int i => .int i
  | .str x => .str x
  | .lst ds => .list (pyDs ds)
  | .scr ds => .list (pyDs ds)
  | .tup ds => .tuple (pyDs ds)
  | .ktp ds => .tuple (pyDs ds)
  | .ins _ _ _ => .dict []
  | .dic _ _ => .dict []
  | .dit _ _ => .dict []
def pyDs : List Dt → List PyData
  | [] => []
  | d :: ds => pyD d :: pyDs ds
end
section
variable {K : PySem.W.Frag} {ca : Str → Addr} {H : Hp}
mutual
theorem Rp.dp : ∀ {d : Dt} {v : V}, (pyD d).canLay0 = true → Rp K ca H d v → Dp K H v (pyD d)
  | .non, _, _, h => by cases h; exact .non
  | .bl b, _, _, h => by cases h; exact .bl b
  | .int i, _, _, h => by cases h; exact .int i
  | .str x, _, _, h => by cases h; exact .str x
  | .lst ds, _, c, h => by
    cases h with
    | lst h1 h2 => exact .lst (.of h1) (Rps.dp (by simpa [pyD, PyData.canLay0] using c) h2)
  | .scr ds, _, c, h => by
    cases h with
    | scr h1 h2 => exact .lst h1 (Rps.dp (by simpa [pyD, PyData.canLay0] using c) h2)
  | .tup ds, _, c, h => by
    cases h with
    | tup h1 h2 => exact .tup (.of h1) (Rps.dp (by simpa [pyD, PyData.canLay0] using c) h2)
  | .ktp ds, _, c, h => by
    cases h with
    | ktp h1 h2 => exact .tup h1 (Rps.dp (by simpa [pyD, PyData.canLay0] using c) h2)
  | .ins _ _ _, _, c, _ => by simp [pyD, PyData.canLay0] at c
  | .dic _ _, _, c, _ => by simp [pyD, PyData.canLay0] at c
  | .dit _ _, _, c, _ => by simp [pyD, PyData.canLay0] at c
theorem Rps.dp : ∀ {ds : List Dt} {vs : List V}, PyData.canLayAll0 (pyDs ds) = true → Rps K ca H ds vs → DpAll K H vs (pyDs ds)
  | [], _, _, h => by cases h; exact .nil
  | d :: ds, _, c, h => by
    cases h with
    | cons h1 h2 =>
      have c2 : PyData.canLay0 (pyD d) = true ∧ PyData.canLayAll0 (pyDs ds) = true := by simpa [pyDs, PyData.canLayAll0] using c
      exact .cons (Rp.dp c2.1 h1) (Rps.dp c2.2 h2)
end
end
def eqOK (d : Dt) : Bool := SeqAt.shaped (pyD d)
def deq (a b : Dt) : Bool := PyData.eqv (pyD a) (pyD b)
def eqD (a b : Dt) : Rs Dt := if (eqOK a && eqOK b) = true then .ok (.bl (deq a b)) else .no
def neD (a b : Dt) : Rs Dt := if (eqOK a && eqOK b) = true then .ok (.bl (!deq a b)) else .no
def eqE := op2E eqD
def neE := op2E neD
def isNonD (d : Dt) : Bool := match d with
  | .non => true
  | _ => false
def isNE := op1E fun a => .ok (.bl (isNonD a))
def notNE := op1E fun a => .ok (.bl (!isNonD a))
def seqD : Dt → Option (List Dt)
  | .lst ds => some ds
  | .scr ds => some ds
  | .tup ds => some ds
  | _ => none
def kseqD : Dt → Option (List Dt)
  | .lst ds => some ds
  | .scr ds => some ds
  | .tup ds => some ds
  | .ktp ds => some ds
  | _ => none
def inD (a : Dt) (ds : List Dt) : Bool := ds.any fun y => deq y a
def memD (neg : Bool) (a b : Dt) : Rs Dt := match kseqD b with
  | some ds => if (scal a && ds.all scal) = true then .ok (.bl (if neg then !inD a ds else inD a ds)) else .no
  | none => .no
def inE := op2E (memD false)
def ninE := op2E (memD true)
@[irreducible] def strSz (x : Str) : Bool := decide (x.length ≤ 1000000)
theorem strSz_ok {x : Str} (h : strSz x = true) : x.length ≤ 1000000 := by
  unfold strSz at h
  exact of_decide_eq_true h
def lenD : Dt → Rs Dt
  | .lst ds => .ok (.int ds.length)
  | .scr ds => .ok (.int ds.length)
  | .tup ds => .ok (.int ds.length)
  | .ktp ds => .ok (.int ds.length)
  | .str x => if strSz x = true then .ok (.int x.length) else .no
  | _ => .no
def lenE := op1E lenD
def ixD : Dt → Dt → Rs Dt
  | .lst ds, .int i => (match atI ds i with | some d => .ok d | none => .no)
  | .scr ds, .int i => (match atI ds i with | some d => .ok d | none => .no)
  | .tup ds, .int i => (match atI ds i with | some d => .ok d | none => .no)
  | .str x, .int i => if strSz x = true then (match atI x.cps.toList i with | some c => .ok (.str ⟨#[c]⟩) | none => .no) else .no
  | _, _ => .no
def ixE := op2E ixD
section
variable {J : Jc} {Γ : List Mode} {em : EM} {m : Mode} {F Fa Fb : Ev → Rs Dt} {te ta tb : TE} {G0 H0 G H G' H' : Hp} {ρ : Ev} {σ : L2.St}
theorem sz1000000 {n : Nat} (h : n ≤ 1000000) : n ≤ sizeLine := Nat.le_trans h (by decide)
section
variable (ha : SemE J Γ .B Fa ta) (hb : SemE J Γ .B Fb tb)
include ha hb
theorem se_eq : SemE J Γ (.o .F) (eqE Fa Fb) (tOp (rEqD J.K) ta tb) := se_op2 (fun H a b d x y Q ra rb q k => by
  obtain ⟨c, q⟩ := ok_if q
  cases q
  rw [Bool.and_eq_true] at c
  exact ⟨_, _, ra.dp (SeqAt.canLay_of_shaped c.1), rb.dp (SeqAt.canLay_of_shaped c.2), c.1, c.2, k _ rfl fun _ => .bl _⟩) (fun _ _ _ => nx_if (fun q => by cases q) fun q => by cases q) ha hb
theorem se_ne : SemE J Γ (.o .F) (neE Fa Fb) (tOp (rNeD J.K) ta tb) := se_op2 (fun H a b d x y Q ra rb q k => by
  obtain ⟨c, q⟩ := ok_if q
  cases q
  rw [Bool.and_eq_true] at c
  exact ⟨_, _, ra.dp (SeqAt.canLay_of_shaped c.1), rb.dp (SeqAt.canLay_of_shaped c.2), c.1, c.2, k _ rfl fun _ => .bl _⟩) (fun _ _ _ => nx_if (fun q => by cases q) fun q => by cases q) ha hb
end
/-! ### in, len, items -/
theorem scal_flat {K : PySem.W.Frag} {ca : Str → Addr} {d : Dt} {v : V} (s : scal d = true) (h : Rp K ca H d v) : flatV v = true := by
  cases h <;> first | rfl | cases s
theorem eqV_deq {K : PySem.W.Frag} {ca : Str → Addr} {d e : Dt} {v u : V} (s : scal d = true) (s2 : scal e = true) (h : Rp K ca H d v) (k : Rp K ca H e u) : eqV v u = deq d e := by
  cases h <;> first | (cases s; done) | (cases k <;> first | (cases s2; done) | rfl)
theorem inV_inD {K : PySem.W.Frag} {ca : Str → Addr} {a : Dt} {x : V} (s : scal a = true) (ra : Rp K ca H a x) : ∀ {ds : List Dt} {vs : List V}, ds.all scal = true → Rps K ca H ds vs → vs.all flatV = true ∧ inV x vs = inD a ds
  | [], _, _, h => by cases h; exact ⟨rfl, rfl⟩
  | d :: ds, _, c, h => by
    cases h with
    | cons h1 h2 =>
      rw [List.all_cons, Bool.and_eq_true] at c
      obtain ⟨q1, q2⟩ := inV_inD s ra c.2 h2
      refine ⟨by rw [List.all_cons, scal_flat c.1 h1, q1]; rfl, ?_⟩
      unfold inV inD at q2 ⊢
      rw [List.any_cons, List.any_cons, q2, eqV_deq c.1 s h1 ra]
theorem seq_rp {K : PySem.W.Frag} {ca : Str → Addr} {b : Dt} {y : V} {ds : List Dt} (q : kseqD b = some ds) (rb : Rp K ca H b y) : ∃ a vs, y = .ref a ∧ (SqL K H a vs ∨ SqT K H a vs) ∧ Rps K ca H ds vs := by
  cases rb with
  | lst h1 h2 => cases q; exact ⟨_, _, rfl, .inl (.of h1), h2⟩
  | scr h1 h2 => cases q; exact ⟨_, _, rfl, .inl h1, h2⟩
  | tup h1 h2 => cases q; exact ⟨_, _, rfl, .inr (.of h1), h2⟩
  | ktp h1 h2 => cases q; exact ⟨_, _, rfl, .inr h1, h2⟩
  | _ => cases q
theorem rule_mem {K : PySem.W.Frag} {ca : Str → Addr} (neg : Bool) : Rule2 K ca (memD neg) (rIn K neg) := by
  intro H a b d x y Q ra rb q k
  unfold memD at q
  cases e : kseqD b with
  | none => rw [e] at q; cases q
  | some ds =>
    rw [e] at q
    obtain ⟨c, q⟩ := ok_if q
    cases q
    rw [Bool.and_eq_true] at c
    obtain ⟨p, vs, rfl, hs, hr⟩ := seq_rp e rb
    obtain ⟨f1, f2⟩ := inV_inD c.1 ra c.2 hr
    refine ⟨p, vs, rfl, hs, scal_flat c.1 ra, f1, ?_⟩
    rw [f2]
    exact k _ rfl fun _ => .bl _
theorem nx_mem (neg : Bool) : NoEx2 (memD neg) := by
  intro a b c
  unfold memD
  split
  · exact nx_if (fun q => by cases q) fun q => by cases q
  · exact fun q => by cases q
theorem se_nin (ha : SemE J Γ .B Fa ta) (hb : SemE J Γ .B Fb tb) : SemE J Γ (.o .F) (ninE Fa Fb) (tOp (rIn J.K true) ta tb) := se_op2 (rule_mem true) (nx_mem true) ha hb
/-- f(a) that looks at a and gives a scalar -/
theorem se_cb1 {g : Dt → Rs Dt} {r : List V → Hp → VK → Prop} (hr : ∀ (H : Hp) (a d : Dt) (x : V) (Q : VK), Rp J.K J.ca H a x → g a = .ok d → (∀ v, scal d = true → (∀ G, Rp J.K J.ca G d v) → Q v H) → r [x] H Q) (hn : ∀ a c, g a ≠ .ex c) (ha : SemE J Γ .B Fa ta) :
    SemE J Γ (.o .F) (op1E g Fa) (tCB r (tCons ta tNil)) := fun {G0 H0 G H ρ σ Q} w p => by
  refine ha w (p.bind.imp (fun a _ p1 x G1 H1 _ e1 _ ra => ?_) fun _ q => q)
  show r [x] H1 Q
  cases q : g a with
  | ok d =>
    rw [q] at p1
    exact hr H1 a d x Q ra q fun v _ hv => p1.of_ok v G1 H1 Pno e1 Fr.no (.F (hv _))
  | ex c => exact absurd q (hn a c)
  | no => rw [q] at p1; cases p1
theorem nx_len : ∀ a c, lenD a ≠ .ex c := by
  intro a c
  unfold lenD
  split <;> first | (intro q; cases q; done) | exact nx_if (fun q => by cases q) fun q => by cases q
theorem se_len (ha : SemE J Γ .B Fa ta) : SemE J Γ (.o .F) (lenE Fa) (tCB (fun xs H Q => ∃ x n, xs = [x] ∧ LenV J.K x H n ∧ Q (.int n) H) (tCons ta tNil)) :=
  se_cb1 (fun H a d x Q ra q k => by
    cases ra with
    | lst h1 h2 => cases q; exact ⟨_, _, rfl, .inl ⟨_, .of h1, rfl⟩, by rw [← h2.length]; exact k _ rfl fun _ => .int _⟩
    | scr h1 h2 => cases q; exact ⟨_, _, rfl, .inl ⟨_, h1, rfl⟩, by rw [← h2.length]; exact k _ rfl fun _ => .int _⟩
    | tup h1 h2 => cases q; exact ⟨_, _, rfl, .inr ⟨_, .of h1, rfl⟩, by rw [← h2.length]; exact k _ rfl fun _ => .int _⟩
    | ktp h1 h2 => cases q; exact ⟨_, _, rfl, .inr ⟨_, h1, rfl⟩, by rw [← h2.length]; exact k _ rfl fun _ => .int _⟩
    | str z =>
      obtain ⟨c, q⟩ := ok_if q
      cases q
      exact ⟨_, _, rfl, ⟨sz1000000 (strSz_ok c), rfl⟩, k _ rfl fun _ => .int _⟩
    | _ => cases q) nx_len ha
theorem nx_ix : NoEx2 ixD := by
  intro a b c
  unfold ixD
  split <;> first | (intro q; cases q; done) | (split <;> intro q <;> cases q; done) | (refine nx_if ?_ (fun q => by cases q); split <;> intro q <;> cases q)
theorem Rps.atI {K : PySem.W.Frag} {ca : Str → Addr} {ds : List Dt} {vs : List V} {i : Int} {d : Dt} (h : Rps K ca H ds vs) (e : L2.atI ds i = some d) : ∃ v, L2.atI vs i = some v ∧ Rp K ca H d v := by
  unfold L2.atI at e ⊢
  rw [← h.length]
  cases q : ixN ds.length i with
  | none => rw [q] at e; cases e
  | some j =>
    rw [q] at e
    obtain ⟨v, h1, h2⟩ := h.get (show ds[j]? = some d from e)
    exact ⟨v, h1, h2⟩
theorem mt_at {ds : List Dt} {i : Int} {d : Dt} (h : (match L2.atI ds i with | some d => (Rs.ok d : Rs Dt) | none => .no) = .ok d) : L2.atI ds i = some d := by
  cases q : L2.atI ds i with
  | none => rw [q] at h; cases h
  | some e => rw [q] at h; cases h; rfl
/-- an item of a list, tuple whose parts are frozen -/
theorem se_ix (ha : SemE J Γ .S Fa ta) (hb : SemE J Γ .B Fb tb) : SemE J Γ (.o .F) (ixE Fa Fb) (tOp (rIx J.K) ta tb) := fun {G0 H0 G H ρ σ Q} w p => by
  refine ha w (p.bind.imp (fun a _ p1 x G1 H1 _ e1 _ ra => ?_) fun _ q => q)
  refine hb (w.ext e1) (p1.bind.imp (fun b _ p2 y G2 H2 _ e2 _ rb => ?_) fun _ q H' dx s => q H' dx (e1.h.trans s))
  cases q : ixD a b with
  | ok d =>
    rw [q] at p2
    have fin : ∀ v, Rp J.K J.ca G2 d v → Q v H2 := fun v hv => p2.of_ok v G2 H2 Pno (e1.trans e2) Fr.no (.F hv)
    cases rb with
    | int i =>
      obtain ⟨rx, rs⟩ := ra
      cases a with
      | lst ds =>
        obtain ⟨p, vs, rfl, sq, hr⟩ := rs ds (.inl rfl)
        rcases sq with ⟨z, s⟩ | ⟨z, s⟩ | ⟨z, s⟩ <;> try cases z
        obtain ⟨v, e, r⟩ := hr.atI (mt_at q)
        exact .inl ⟨_, _, i, v, rfl, rfl, .of (e2.h _ _ s), e, fin v (r.mono e2.g)⟩
      | scr ds =>
        obtain ⟨p, vs, rfl, sq, hr⟩ := rs ds (.inr (.inl rfl))
        rcases sq with ⟨z, s⟩ | ⟨z, s⟩ | ⟨z, s⟩ <;> try cases z
        obtain ⟨v, e, r⟩ := hr.atI (mt_at q)
        exact .inl ⟨_, _, i, v, rfl, rfl, e2.h.seq s, e, fin v (r.mono e2.g)⟩
      | tup ds =>
        obtain ⟨p, vs, rfl, sq, hr⟩ := rs ds (.inr (.inr rfl))
        rcases sq with ⟨z, s⟩ | ⟨z, s⟩ | ⟨z, s⟩ <;> try cases z
        obtain ⟨v, e, r⟩ := hr.atI (mt_at q)
        exact .inr (.inl ⟨_, _, i, v, rfl, rfl, .of (e2.h _ _ s), e, fin v (r.mono e2.g)⟩)
      | str z =>
        cases rx with
        | str z =>
          obtain ⟨c, q⟩ := ok_if q
          cases e : L2.atI z.cps.toList i with
          | none => rw [e] at q; cases q
          | some w =>
            rw [e] at q
            cases q
            exact .inr (.inr ⟨z, i, w, rfl, rfl, sz1000000 (strSz_ok c), e, fin _ (.str _)⟩)
      | _ => cases q
    | _ => cases a <;> cases q
  | ex c => exact absurd q (nx_ix a b c)
  | no => rw [q] at p2; cases p2
/-! ### isinstance against the plain types -/
inductive Ty | none | bool | int | str | list | tuple | dict
  deriving DecidableEq
def Ty.nm : Ty → String
  | .none => "NoneType" | .bool => "bool" | .int => "int" | .str => "str" | .list => "list" | .tuple => "tuple" | .dict => "dict"
def tyD : Dt → Option Ty
  | .non => some .none
  | .bl _ => some .bool
  | .int _ => some .int
  | .str _ => some .str
  | .lst _ => some .list
  | .tup _ => some .tuple
  | _ => Option.none
def isTy (a b : Ty) : Bool := decide (a = b) || (decide (a = .bool) && decide (b = .int))
theorem kit_isTy (a b : Ty) (h : b ≠ .none) : kitB a.nm b.nm = some (isTy a b) := by
  cases a <;> cases b <;> first | exact absurd rfl h | decide +kernel
def isiD (c : Ty) (d : Dt) : Rs Dt := match tyD d with
  | some t => .ok (.bl (isTy t c))
  | Option.none => .no
def isiE (c : Ty) := op1E (isiD c)
theorem se_isi {c : Ty} (hc : c ≠ .none) (ha : SemE J Γ .B Fa ta) : SemE J Γ (.o .F) (isiE c Fa) (tCB (rIsi J.K) (tCons ta (tCons (tC (.ty c.nm)) tNil))) := fun {G0 H0 G H ρ σ Q} w p => by
  refine ha w (p.bind.imp (fun a _ p1 x G1 H1 _ e1 _ ra => ?_) fun _ q => q)
  have fin : ∀ t, tyD a = some t → Q (.bl (isTy t c)) H1 := fun t e => by
    unfold isiD at p1
    rw [e] at p1
    exact p1.of_ok _ G1 H1 Pno e1 Fr.no (.F (.bl _))
  have go : ∀ t : Ty, tyD a = some t → TyX J.K H1 x (.type t.nm) → rIsi J.K [x, .ty c.nm] H1 Q := fun t e z => ⟨x, .ty c.nm, .type t.nm, .type c.nm, isTy t c, rfl, .ty _, z, kit_ty (kit_isTy t c hc), fin t e⟩
  show rIsi J.K [x, .ty c.nm] H1 Q
  cases ra with
  | non => exact go .none rfl (.base .non)
  | bl b => exact go .bool rfl (.base (.bl b))
  | int i => exact go .int rfl (.base (.int i))
  | str z => exact go .str rfl (.base (.str z))
  | lst h1 h2 => exact go .list rfl (.base (.lst h1))
  | tup h1 h2 => exact go .tuple rfl (.base (.tup h1))
  | ktp _ _ => unfold isiD tyD at p1; cases p1
  | dic _ _ _ => unfold isiD tyD at p1; cases p1
  | dicZ _ _ _ => unfold isiD tyD at p1; cases p1
  | dit _ _ _ => unfold isiD tyD at p1; cases p1
  | scr _ _ => unfold isiD tyD at p1; cases p1
  | ins _ _ _ => unfold isiD tyD at p1; cases p1
end
end Pm
namespace Pm
open PySem PySem.Spec PyProof.Rows L2
open Classical
/-! ### tests -/
def asB : Dt → Rs Bool
  | .bl b => .ok b
  | _ => .no
def boolT (F : Ev → Rs Dt) (ρ : Ev) : Rs Bool := F ρ >>= asB
def notT (F : Ev → Rs Bool) (ρ : Ev) : Rs Bool := F ρ >>= fun b => .ok (!b)
def andT (Fa Fb : Ev → Rs Bool) (ρ : Ev) : Rs Bool := Fa ρ >>= fun b => if b = true then Fb ρ else .ok false
def orT (Fa Fb : Ev → Rs Bool) (ρ : Ev) : Rs Bool := Fa ρ >>= fun b => if b = true then .ok true else Fb ρ
def andE (Fa Fb : Ev → Rs Dt) (ρ : Ev) : Rs Dt := Fa ρ >>= fun a => asB a >>= fun b => if b = true then Fb ρ else .ok (.bl false)
def orE (Fa Fb : Ev → Rs Dt) (ρ : Ev) : Rs Dt := Fa ρ >>= fun a => asB a >>= fun b => if b = true then .ok (.bl true) else Fb ρ
def notE (Fa : Ev → Rs Dt) (ρ : Ev) : Rs Dt := Fa ρ >>= fun a => asB a >>= fun b => .ok (.bl (!b))
def ifE (Ft : Ev → Rs Bool) (Fa Fb : Ev → Rs Dt) (ρ : Ev) : Rs Dt := Ft ρ >>= fun b => if b = true then Fa ρ else Fb ρ
section
variable {J : Jc} {Γ : List Mode} {em : EM} {m : Mode} {F Fa Fb : Ev → Rs Dt} {Ft Fu : Ev → Rs Bool} {te ta tb : TE} {tt tu : TT} {G0 H0 G H G' H' : Hp} {ρ : Ev} {σ : L2.St}
theorem st_val (h : SemE J Γ .B F te) : SemT J Γ (boolT F) (tTest te) := fun {G0 H0 G H ρ σ Q} w p => h w (p.bind.imp (fun d _ q v G' H' P e _ r => by
  cases r with
  | bl b => exact ⟨b, rfl, q.of_ok G' H' e⟩
  | _ => cases q) fun _ q => q)
theorem st_valB (h : SemE J Γ .B F te) : SemT J Γ (boolT F) (tB te) := st_val h
theorem st_not (h : SemT J Γ Ft tt) : SemT J Γ (notT Ft) (tNot tt) := fun {G0 H0 G H ρ σ Q} w p => h w (p.bind.imp (fun d _ q G' H' e => q.of_ok G' H' e) fun _ q => q)
theorem st_or (h : SemT J Γ Ft tt) (k : SemT J Γ Fu tu) : SemT J Γ (orT Ft Fu) (tOr tt tu) := fun {G0 H0 G H ρ σ Q} w p => h w (p.bind.imp (fun b _ q G' H' e => by
  cases b with
  | false => exact k (w.ext e) (Rs.Post.imp q (fun c _ r G2 H2 e2 => r G2 H2 (e.trans e2)) fun c r H2 dx s => r H2 dx (e.h.trans s))
  | true => exact Rs.Post.of_ok q G' H' e) fun _ q => q)
theorem se_and (h : SemE J Γ .B Fa ta) (k : SemE J Γ (.o .F) Fb tb) : SemE J Γ (.o .F) (andE Fa Fb) (tAndV ta tb) := fun {G0 H0 G H ρ σ Q} w p => h w (p.bind.imp (fun d _ q v G' H' P e _ r => by
  cases r with
  | bl b =>
    cases b with
    | true => exact ⟨true, rfl, k (w.ext e) (Rs.Post.imp q (fun c _ r v2 G2 H2 P2 e2 f2 o2 => r v2 G2 H2 Pno (e.trans e2) Fr.no (by cases o2 with | F o2 => exact .F o2)) fun c r H2 dx s => r H2 dx (e.h.trans s))⟩
    | false => exact ⟨false, rfl, Rs.Post.of_ok q _ G' H' Pno e Fr.no (.F (.bl _))⟩
  | _ => cases q) fun _ q => q)
theorem se_not (h : SemE J Γ .B Fa ta) : SemE J Γ (.o .F) (notE Fa) (tNotV ta) := fun {G0 H0 G H ρ σ Q} w p => h w (p.bind.imp (fun d _ q v G' H' P e _ r => by
  cases r with
  | bl b => exact ⟨b, rfl, Rs.Post.of_ok q _ G' H' Pno e Fr.no (.F (.bl _))⟩
  | _ => cases q) fun _ q => q)
theorem se_if (h : SemT J Γ Ft tt) (k : SemE J Γ (.o .F) Fa ta) (l : SemE J Γ (.o .F) Fb tb) : SemE J Γ (.o .F) (ifE Ft Fa Fb) (tIf tt ta tb) := fun {G0 H0 G H ρ σ Q} w p => h w (p.bind.imp (fun b _ q G' H' e => by
  cases b with
  | true => exact k (w.ext e) (Rs.Post.imp q (fun c _ r v2 G2 H2 P2 e2 f2 o2 => r v2 G2 H2 Pno (e.trans e2) Fr.no (by cases o2 with | F o2 => exact .F o2)) fun c r H2 dx s => r H2 dx (e.h.trans s))
  | false => exact l (w.ext e) (Rs.Post.imp q (fun c _ r v2 G2 H2 P2 e2 f2 o2 => r v2 G2 H2 Pno (e.trans e2) Fr.no (by cases o2 with | F o2 => exact .F o2)) fun c r H2 dx s => r H2 dx (e.h.trans s))) fun _ q => q)
/-- -a -/
def negD : Dt → Rs Dt
  | .int i => .ok (.int (-i))
  | _ => .no
def negE := op1E negD
/-! ### argument lists -/
def argsE : List (Ev → Rs Dt) → Ev → Rs (List Dt)
  | [], _ => .ok []
  | f :: fs, ρ => f ρ >>= fun d => argsE fs ρ >>= fun ds => .ok (d :: ds)
theorem argsE_len : ∀ {fs : List (Ev → Rs Dt)} {ρ : Ev} {ds : List Dt}, argsE fs ρ = .ok ds → ds.length = fs.length
  | [], _, _, h => by cases h; rfl
  | f :: fs, ρ, ds, h => by
    unfold argsE at h
    cases q : f ρ with
    | ok d =>
      rw [q, ok_bind] at h
      cases q2 : argsE fs ρ with
      | ok es =>
        rw [q2, ok_bind] at h
        cases h
        rw [List.length_cons, List.length_cons, argsE_len q2]
      | ex c => rw [q2] at h; cases h
      | no => rw [q2] at h; cases h
    | ex c => rw [q] at h; cases h
    | no => rw [q] at h; cases h
end
def SemZ (J : Jc) (Γ : List Mode) (ms : List Mode) (Fs : List (Ev → Rs Dt)) (ta : TA) : Prop := ∀ ⦃G0 H0 G H : Hp⦄ ⦃ρ : Ev⦄ ⦃σ : L2.St⦄ ⦃Q : List V → Hp → Prop⦄, Wd J G0 H0 Γ ρ σ G H →
  Rs.Post (fun ds => ∀ vs G' H' P, Ext G H G' H' → Fr G' H H' P → Ows J.K J.ca G' H' ms ds vs P → Q vs H') (fun c => ∀ H' dx, Same H H' → XR c dx H' → J.W (.ref (J.ca c.1)) dx σ H') (argsE Fs ρ) → ta σ H Q
def SemBs (J : Jc) (Γ : List Mode) (Fs : List (Ev → Rs Dt)) (ta : TA) : Prop := ∀ ⦃G0 H0 G H : Hp⦄ ⦃ρ : Ev⦄ ⦃σ : L2.St⦄ ⦃Q : List V → Hp → Prop⦄, Wd J G0 H0 Γ ρ σ G H →
  Rs.Post (fun ds => ∀ vs G' H', Ext G H G' H' → Rps J.K J.ca H' ds vs → Q vs H') (fun c => ∀ H' dx, Same H H' → XR c dx H' → J.W (.ref (J.ca c.1)) dx σ H') (argsE Fs ρ) → ta σ H Q
/-- all F -/
def allF : List Mode → Bool
  | [] => true
  | .F :: ms => allF ms
  | _ => false
section
variable {J : Jc} {Γ : List Mode} {em : EM} {m : Mode} {ms : List Mode} {F Fa Fb : Ev → Rs Dt} {Fs : List (Ev → Rs Dt)} {te ta tb : TE} {tr : TA} {G0 H0 G H G' H' : Hp} {ρ : Ev} {σ : L2.St}
theorem Ows.allF {K : PySem.W.Frag} {ca : Str → Addr} : ∀ {ms : List Mode} {ds : List Dt} {vs : List V} {P : Addr → Prop}, Pm.allF ms = true → Ows K ca G H ms ds vs P → Rps K ca G ds vs
  | [], _, _, _, _, h => by cases h; exact .nil
  | m :: ms, _, _, _, c, h => by
    cases h with
    | cons h1 h2 _ _ _ =>
      cases m with
      | F =>
        cases h1 with
        | F h1 => exact .cons h1 (Ows.allF (by simpa [Pm.allF] using c) h2)
      | _ => simp [Pm.allF] at c
theorem sz_nil : SemZ J Γ [] [] tNil := fun {G0 H0 G H ρ σ Q} w p => p.of_ok [] G H Pno (Ext.refl w.gh) Fr.no .nil
theorem sz_cons (h : SemE J Γ (.o m) F te) (k : SemZ J Γ ms Fs tr) : SemZ J Γ (m :: ms) (F :: Fs) (tCons te tr) := fun {G0 H0 G H ρ σ Q} w p => by
  refine h w (p.bind.imp (fun d _ q v G1 H1 P1 e1 f1 o1 => ?_) fun _ q => q)
  refine k (w.ext e1) (q.bind.imp (fun ds _ q vs G2 H2 P2 e2 f2 o2 => ?_) fun _ q H' dx s => q H' dx (e1.h.trans s))
  refine q.of_ok (v :: vs) G2 H2 (fun b => P1 b ∨ P2 b) (e1.trans e2) (fun b hb => ?_) (.cons (o1.carry e2.g fun b hb => ?_) o2 (fun _ => .inl) (fun _ => .inr) fun b h1 h2 => ?_)
  · rcases hb with hb | hb
    · obtain ⟨a1, a2, a3⟩ := f1 b hb
      exact ⟨by rw [e2.base b a3]; exact a1, a2, e2.h.nn a3⟩
    · obtain ⟨a1, a2, a3⟩ := f2 b hb
      exact ⟨a1, e1.h.free a2, a3⟩
  · obtain ⟨a1, a2, a3⟩ := f1 b hb
    exact ⟨e2.h.at a3, by rw [e2.base b a3]; exact a1⟩
  · exact (f1 b h1).2.2 (f2 b h2).2.1
theorem sb_nil : SemBs J Γ [] tNil := fun {G0 H0 G H ρ σ Q} w p => p.of_ok [] G H (Ext.refl w.gh) .nil
theorem sb_cons (h : SemE J Γ .B F te) (k : SemBs J Γ Fs tr) : SemBs J Γ (F :: Fs) (tCons te tr) := fun {G0 H0 G H ρ σ Q} w p => by
  refine h w (p.bind.imp (fun d _ q v G1 H1 P1 e1 f1 o1 => ?_) fun _ q => q)
  refine k (w.ext e1) (q.bind.imp (fun ds _ q vs G2 H2 e2 o2 => ?_) fun _ q H' dx s => q H' dx (e1.h.trans s))
  exact q.of_ok (v :: vs) G2 H2 (e1.trans e2) (.cons (Rp.mono e2.h o1) o2)
theorem Fr.upd {p : Addr} {o : HO} {P : Addr → Prop} (e : Same G' H') (f : Fr G' H H' P) (hp : H' p = none) (hq : H p = none) : Fr G' H (upd H' p o) (fun b => b = p ∨ P b) := fun b hb => by
  by_cases z : b = p
  · subst z
    exact ⟨e.free hp, hq, by rw [upd_same]; exact fun w => by cases w⟩
  · rcases hb with hb | hb
    · exact absurd hb z
    · obtain ⟨a1, a2, a3⟩ := f b hb
      exact ⟨a1, a2, by rw [upd_ne z]; exact a3⟩
theorem Ext.upd {p : Addr} {o : HO} (e : Ext G H G' H') (hp : H' p = none) : Ext G H G' (upd H' p o) := e.trans (Ext.heap e.gh (Same.new hp))
theorem Ows.upd {K : PySem.W.Frag} {ca : Str → Addr} {p : Addr} {o : HO} {ms : List Mode} {ds : List Dt} {vs : List V} {P : Addr → Prop} (f : Fr G' H H' P) (hp : H' p = none) (h : Ows K ca G' H' ms ds vs P) : Ows K ca G' (L2.upd H' p o) ms ds vs (fun b => (b = p ∨ P b) ∧ b ≠ p) :=
  (h.carry (Same.refl _) fun b hb => by
    obtain ⟨a1, a2, a3⟩ := f b hb
    exact ⟨upd_ne fun z => a3 (by rw [z]; exact hp), a1⟩).weaken fun b hb => ⟨.inr hb, fun z => (f b hb).2.2 (by rw [z]; exact hp)⟩
/-- displays -/
def tupE (Fs : List (Ev → Rs Dt)) (ρ : Ev) : Rs Dt := argsE Fs ρ >>= fun ds => .ok (.tup ds)
def lstE (Fs : List (Ev → Rs Dt)) (ρ : Ev) : Rs Dt := argsE Fs ρ >>= fun ds => .ok (.lst ds)
theorem Ows.len {K : PySem.W.Frag} {ca : Str → Addr} : ∀ {ms : List Mode} {ds : List Dt} {vs : List V} {P : Addr → Prop}, Ows K ca G H ms ds vs P → ds.length = vs.length ∧ ms.length = ds.length
  | _, [], _, _, h => by cases h; exact ⟨rfl, rfl⟩
  | _, d :: ds, _, _, h => by
    cases h with
    | cons h1 h2 _ _ _ =>
      obtain ⟨a, b⟩ := Ows.len h2
      exact ⟨by rw [List.length_cons, List.length_cons, a], by rw [List.length_cons, List.length_cons, b]⟩
theorem se_tup (h : SemZ J Γ ms Fs tr) (hl : Fs.length ≤ 1000000 := by exact Nat.le_of_ble_eq_true rfl) : SemE J Γ (.o (.T ms)) (tupE Fs) (tTup tr) := fun {G0 H0 G H ρ σ Q} w p => by
  refine h w (p.bind.imp (fun ds hd q vs G1 H1 P1 e1 f1 o1 => ⟨?_, fun a ha => ?_⟩) fun _ q => q)
  · rw [← o1.len.1, argsE_len hd]; exact sz1000000 hl
  · exact q.of_ok (.ref a) G1 _ (fun b => b = a ∨ P1 b) (e1.upd ha) (f1.upd e1.gh ha (e1.h.free ha)) (.T upd_same (e1.gh.free ha) (.inl rfl) (o1.upd f1 ha))
theorem se_tupF (h : SemZ J Γ ms Fs tr) (hl : Fs.length ≤ 1000000 := by exact Nat.le_of_ble_eq_true rfl) : SemE J Γ (.o .F) (tupE Fs) (tTup tr) := se_frz (se_tup h hl)
theorem se_lst (h : SemZ J Γ ms Fs tr) (hm : ms = List.replicate Fs.length m := by rfl) (hl : Fs.length ≤ 1000000 := by exact Nat.le_of_ble_eq_true rfl) : SemE J Γ (.o (.L m)) (lstE Fs) (tLst tr) := fun {G0 H0 G H ρ σ Q} w p => by
  refine h w (p.bind.imp (fun ds hd q vs G1 H1 P1 e1 f1 o1 => ⟨?_, fun a ha => ?_⟩) fun _ q => q)
  · rw [← o1.len.1, argsE_len hd]; exact sz1000000 hl
  · refine q.of_ok (.ref a) G1 _ (fun b => b = a ∨ P1 b) (e1.upd ha) (f1.upd e1.gh ha (e1.h.free ha)) (.L upd_same (e1.gh.free ha) (.inl rfl) ?_)
    rw [argsE_len hd, ← hm]
    exact o1.upd f1 ha
/-! ### a new list, tuple of frozen parts -/
theorem Rps.own {K : PySem.W.Frag} {ca : Str → Addr} : ∀ {ds : List Dt} {vs : List V} {P : Addr → Prop}, Rps K ca G ds vs → Ows K ca G H (List.replicate ds.length .F) ds vs P
  | [], _, _, h => by cases h; exact .nil
  | d :: ds, _, _, h => by
    cases h with
    | cons h1 h2 => exact .cons (P1 := Pno) (P2 := Pno) (.F h1) (Rps.own h2) (fun _ z => z.elim) (fun _ z => z.elim) (fun _ z => z.elim)
theorem new_lst {K : PySem.W.Frag} {ca : Str → Addr} {a : Addr} {ds : List Dt} {vs : List V} (e : Same G H) (ha : H a = none) (h : Rps K ca G ds vs) : Ext G H G (upd H a (.lst vs)) ∧ Fr G H (upd H a (.lst vs)) (fun b => b = a) ∧ Ow K ca G (upd H a (.lst vs)) (.L .F) (.lst ds) (.ref a) (fun b => b = a) :=
  ⟨Ext.heap e (Same.new ha), fun b hb => by rw [hb, upd_same]; exact ⟨e.free ha, ha, fun w => by cases w⟩, .L upd_same (e.free ha) rfl h.own⟩
theorem new_tup {K : PySem.W.Frag} {ca : Str → Addr} {a : Addr} {ds : List Dt} {vs : List V} (e : Same G H) (ha : H a = none) (h : Rps K ca G ds vs) : Ext G H (upd G a (.tup vs)) (upd H a (.tup vs)) ∧ Rp K ca (upd G a (.tup vs)) (.tup ds) (.ref a) :=
  ⟨Ext.new e ha, .tup upd_same (h.mono (Same.new (e.free ha)))⟩
/-- what S says of a sequence -/
theorem S_seq {K : PySem.W.Frag} {ca : Str → Addr} {d : Dt} {v : V} {P : Addr → Prop} {ds : List Dt} (h : Res K ca G H .S d v P) (q : seqD d = some ds) : ∃ a vs, v = .ref a ∧ (SqL K H a vs ∨ SqT K H a vs) ∧ Rps K ca G ds vs := by
  have hd : d = .lst ds ∨ d = .scr ds ∨ d = .tup ds := by
    cases d <;> first | (cases q; exact .inl rfl) | (cases q; exact .inr (.inl rfl)) | (cases q; exact .inr (.inr rfl)) | cases q
  obtain ⟨a, vs, e, sq, r⟩ := h.2 ds hd
  refine ⟨a, vs, e, ?_, r⟩
  rcases sq with ⟨_, s⟩ | ⟨_, s⟩ | ⟨_, s⟩
  · exact .inl (.of s)
  · exact .inl s
  · exact .inr (.of s)
/-- list(x) -/
def listD (d : Dt) : Rs Dt := match seqD d with
  | some ds => .ok (.lst ds)
  | none => .no
def listE := op1E listD
theorem se_list (h : SemE J Γ .S F te) : SemE J Γ (.o (.L .F)) (listE F) (tCB (fun xs H Q => ∃ p ys, xs = [.ref p] ∧ (SqL J.K H p ys ∨ SqT J.K H p ys) ∧ ∀ l, H l = none → Q (.ref l) (upd H l (.lst ys))) (tCons te tNil)) := fun {G0 H0 G H ρ σ Q} w p => by
  refine h w (p.bind.imp (fun d _ q v G1 H1 P1 e1 _ r1 => ?_) fun _ q => q)
  unfold listD at q
  cases e : seqD d with
  | none => rw [e] at q; cases q
  | some ds =>
    rw [e] at q
    obtain ⟨a, vs, rfl, sq, r⟩ := S_seq r1 e
    refine ⟨a, vs, rfl, sq, fun l hl => ?_⟩
    obtain ⟨e2, f2, o2⟩ := new_lst e1.gh hl r
    exact q.of_ok (.ref l) G1 _ _ (e1.trans e2) (fun b hb => ⟨(f2 b hb).1, e1.h.free (f2 b hb).2.1, (f2 b hb).2.2⟩) o2
/-- tuple(x) -/
def tupleD (d : Dt) : Rs Dt := match seqD d with
  | some ds => .ok (.tup ds)
  | none => .no
def tupleE := op1E tupleD
abbrev rTupleOf (K : PySem.W.Frag) : List V → Hp → VK → Prop := fun xs H Q => ∃ p ys, xs = [.ref p] ∧ ((SqL K H p ys ∧ ∀ l, H l = none → Q (.ref l) (upd H l (.tup ys))) ∨ (SqT K H p ys ∧ Q (.ref p) H))
theorem tuple_new {K : PySem.W.Frag} {ca : Str → Addr} {a l : Addr} {ds : List Dt} {vs : List V} {Q : VK} {E : Xn → Prop} (e1 : Ext G H G' H') (r : Rps K ca G' ds vs) (hl : H' l = none)
    (q : ∀ v G2 H2 P, Ext G H G2 H2 → Fr G2 H H2 P → Res K ca G2 H2 (.o .F) (.tup ds) v P → Q v H2) : Q (.ref l) (upd H' l (.tup vs)) := by
  obtain ⟨e2, o2⟩ := new_tup e1.gh hl r
  exact q _ _ _ Pno (e1.trans e2) Fr.no (.F o2)
theorem se_tuple (h : SemE J Γ (.o .F) F te) : SemE J Γ (.o .F) (tupleE F) (tCB (rTupleOf J.K) (tCons te tNil)) := fun {G0 H0 G H ρ σ Q} w p => by
  refine h w (p.bind.imp (fun d _ q v G1 H1 P1 e1 _ r1 => ?_) fun _ q => q)
  unfold tupleD at q
  cases r1 with
  | F r1 =>
    cases r1 with
    | lst h1 h2 => exact ⟨_, _, rfl, .inl ⟨.of (e1.gh _ _ h1), fun l hl => tuple_new (a := l) (E := fun _ => True) e1 h2 hl (q.of_ok)⟩⟩
    | scr h1 h2 => exact ⟨_, _, rfl, .inl ⟨e1.gh.seq h1, fun l hl => tuple_new (a := l) (E := fun _ => True) e1 h2 hl (q.of_ok)⟩⟩
    | tup h1 h2 => exact ⟨_, _, rfl, .inr ⟨.of (e1.gh _ _ h1), q.of_ok _ G1 H1 Pno e1 Fr.no (.F (.tup h1 h2))⟩⟩
    | _ => cases q
/-- of a list looked at -/
def tupleLD : Dt → Rs Dt
  | .lst ds => .ok (.tup ds)
  | _ => .no
def tupleLE := op1E tupleLD
/-! ### slices -/
def noPart (_ : Ev) : Rs (Option Int) := .ok none
def asI : Dt → Rs (Option Int)
  | .int i => .ok (some i)
  | _ => .no
def partO (F : Ev → Rs Dt) (ρ : Ev) : Rs (Option Int) := F ρ >>= asI
theorem so_none : SemO J Γ noPart tNoPart := fun {G0 H0 G H ρ σ Q} w p => p.of_ok G H (Ext.refl w.gh)
theorem so_some (h : SemE J Γ .B F te) : SemO J Γ (partO F) (tPart te) := fun {G0 H0 G H ρ σ Q} w p => h w (p.bind.imp (fun d _ q v G' H' P e _ r => by
  cases r with
  | int i => exact ⟨i, rfl, q.of_ok G' H' e⟩
  | _ => cases q) fun _ q => q)
def cutL {α : Type} (xs : List α) (lo hi : Option Int) : List α := (xs.drop (HT.sIx xs.length 0 lo)).take (HT.sIx xs.length xs.length hi - HT.sIx xs.length 0 lo)
theorem Rps.cut {K : PySem.W.Frag} {ca : Str → Addr} {ds : List Dt} {vs : List V} (h : Rps K ca H ds vs) (lo hi : Option Int) : Rps K ca H (cutL ds lo hi) (cutV vs lo hi) := by
  unfold cutL cutV
  rw [h.length]
  exact (h.drop _).take _
def cutD : Dt → Option Int → Option Int → Rs Dt
  | .lst ds, lo, hi => .ok (.lst (cutL ds lo hi))
  | .scr ds, lo, hi => .ok (.lst (cutL ds lo hi))
  | .tup ds, lo, hi => .ok (.tup (cutL ds lo hi))
  | .str z, lo, hi => if strSz z = true then .ok (.str (cutS z lo hi)) else .no
  | _, _, _ => .no
def slcE (F : Ev → Rs Dt) (Fl Fh : Ev → Rs (Option Int)) (ρ : Ev) : Rs Dt := F ρ >>= fun d => Fl ρ >>= fun l => Fh ρ >>= fun u => cutD d l u
theorem sl_any {X : Cx} : SlR X (fun x lo hi H Q => rSlL X.K x lo hi H Q ∨ (rSlA X.K x lo hi H Q ∨ rSlS x lo hi H Q)) := sl_list.or (sl_tupA.or sl_str)
variable {Fl Fh : Ev → Rs (Option Int)} {tl th : TO}
theorem cut_whole {α : Type} {xs : List α} {lo hi : Option Int} (h : HT.sIx xs.length 0 lo = 0 ∧ HT.sIx xs.length xs.length hi = xs.length) : cutL xs lo hi = xs := by
  unfold cutL
  rw [h.1, h.2]
  simp
theorem se_slc (h : SemE J Γ (.o .F) F te) (hl : SemO J Γ Fl tl) (hh : SemO J Γ Fh th) : SemE J Γ (.o .F) (slcE F Fl Fh) (tSl (fun x lo hi H Q => rSlL J.K x lo hi H Q ∨ (rSlA J.K x lo hi H Q ∨ rSlS x lo hi H Q)) te tl th) := fun {G0 H0 G H ρ σ Q} w p => by
  refine h w (p.bind.imp (fun d _ q v G1 H1 P1 e1 _ r1 => ?_) fun _ q => q)
  refine hl (w.ext e1) (q.bind.imp (fun l _ q G2 H2 e2 => ?_) fun _ q H' dx s => q H' dx (e1.h.trans s))
  refine hh (w.ext (e1.trans e2)) (q.bind.imp (fun u _ q G3 H3 e3 => ?_) fun _ q H' dx s => q H' dx ((e1.trans e2).h.trans s))
  have e := (e1.trans e2).trans e3
  have e23 := e2.trans e3
  unfold cutD at q
  cases r1 with
  | F r1 =>
    cases r1 with
    | lst h1 h2 =>
      refine .inl ⟨_, _, rfl, .of (e23.h _ _ (e1.gh _ _ h1)), fun a ha => ?_⟩
      obtain ⟨e4, f4, o4⟩ := new_lst e3.gh ha ((h2.mono e23.g).cut l u)
      obtain ⟨G5, e5, r5, _⟩ := frz_ext e4 f4 o4
      exact q.of_ok _ _ _ Pno (e.trans e5) Fr.no (.F r5)
    | scr h1 h2 =>
      refine .inl ⟨_, _, rfl, e23.h.seq (e1.gh.seq h1), fun a ha => ?_⟩
      obtain ⟨e4, f4, o4⟩ := new_lst e3.gh ha ((h2.mono e23.g).cut l u)
      obtain ⟨G5, e5, r5, _⟩ := frz_ext e4 f4 o4
      exact q.of_ok _ _ _ Pno (e.trans e5) Fr.no (.F r5)
    | tup h1 h2 =>
      refine .inr (.inl ⟨_, _, rfl, .of (e23.h _ _ (e1.gh _ _ h1)), fun hw => ?_, fun hw a ha => ?_⟩)
      · have c := cut_whole (xs := _) hw
        have hw2 := hw
        rw [← h2.length] at hw2
        have c2 := cut_whole hw2
        have q := q.of_ok
        simp only [c2] at q
        exact q _ G3 H3 Pno e Fr.no (.F (.tup (e23.g _ _ h1) (h2.mono e23.g)))
      · obtain ⟨e4, o4⟩ := new_tup e3.gh ha ((h2.mono e23.g).cut l u)
        exact q.of_ok _ _ _ Pno (e.trans e4) Fr.no (.F o4)
    | str z =>
      have q : Rs.Post _ _ (if strSz z = true then Rs.ok (Dt.str (cutS z l u)) else Rs.no) := q
      by_cases c : strSz z = true
      · rw [if_pos c] at q
        exact .inr (.inr ⟨z, rfl, sz1000000 (strSz_ok c), q.of_ok _ G3 H3 Pno e Fr.no (.F (.str _))⟩)
      · rw [if_neg c] at q; cases q
    | _ => cases q
/-- of a list looked at -/
def cutLD : Dt → Option Int → Option Int → Rs Dt
  | .lst ds, lo, hi => .ok (.lst (cutL ds lo hi))
  | .scr ds, lo, hi => .ok (.lst (cutL ds lo hi))
  | _, _, _ => .no
def slcLE (F : Ev → Rs Dt) (Fl Fh : Ev → Rs (Option Int)) (ρ : Ev) : Rs Dt := F ρ >>= fun d => Fl ρ >>= fun l => Fh ρ >>= fun u => cutLD d l u
/-! ### + of everything, list times int -/
@[irreducible] def lenSz (n : Nat) : Bool := decide (n ≤ 1000000)
theorem lenSz_le {n : Nat} (h : lenSz n = true) : n ≤ 1000000 := by
  unfold lenSz at h
  exact of_decide_eq_true h
def plusD : Dt → Dt → Rs Dt
  | .int i, .int j => .ok (.int (i + j))
  | .str i, .str j => if lenSz (i.length + j.length) = true then .ok (.str (i ++ j)) else .no
  | .lst a, .lst b => if lenSz (a.length + b.length) = true then .ok (.lst (a ++ b)) else .no
  | .tup a, .tup b => if lenSz (a.length + b.length) = true then .ok (.tup (a ++ b)) else .no
  | _, _ => .no
def plusE := op2E plusD
/-- list + list, looked at; list * int -/
def catD : Dt → Dt → Rs Dt
  | .lst a, .lst b => if lenSz (a.length + b.length) = true then .ok (.lst (a ++ b)) else .no
  | _, _ => .no
def catE := op2E catD
def repD : Dt → Dt → Rs Dt
  | .lst a, .int k => if (lenSz (a.length * k.toNat) && decide (k ≤ 1000000 ∧ -1000000 ≤ k)) = true then .ok (.lst (List.replicate k.toNat a).flatten) else .no
  | _, _ => .no
def repE := op2E repD
end
end Pm
namespace Pm
open PySem PySem.Spec PyProof.Rows L2 RZ RT
open Classical
/-! ### what is walked -/
structure Walk (K : PySem.W.Frag) (ca : Str → Addr) (J : It) (G : Hp) (ds : List Dt) : Prop where
  go : ∀ i d G1 H1, ds[i]? = some d → Same G G1 → Same G1 H1 → J.go i H1 ∧ ∀ x H2, J.yld i H1 x H2 → ∃ G2, Ext G1 H1 G2 H2 ∧ Rp K ca G2 d x
  stop : ∀ G1 H1, Same G G1 → Same G1 H1 → J.stop ds.length H1
def SemI (J : Jc) (Γ : List Mode) (F : Ev → Rs (List Dt)) (wi : TI) : Prop := ∀ ⦃G0 H0 G H : Hp⦄ ⦃ρ : Ev⦄ ⦃σ : L2.St⦄ ⦃R : It → Hp → Prop⦄, Wd J G0 H0 Γ ρ σ G H →
  Rs.Post (fun ds => ∀ it G' H', Ext G H G' H' → Walk J.K J.ca it G' ds → R it H') (fun c => ∀ H' dx, Same H H' → XR c dx H' → J.W (.ref (J.ca c.1)) dx σ H') (F ρ) → wi σ H R
section
variable {J : Jc} {Γ : List Mode} {em : EM} {m : Mode} {ms : List Mode} {F Fa Fb : Ev → Rs Dt} {Fs : List (Ev → Rs Dt)} {te ta tb : TE} {tr : TA} {G0 H0 G H G' H' : Hp} {ρ : Ev} {σ : L2.St}
theorem walk_list {K : PySem.W.Frag} {ca : Str → Addr} {a : Addr} {vs : List V} {ds : List Dt} (h : SqL K G a vs) (r : Rps K ca G ds vs) : Walk K ca (Itl K a) G ds := by
  refine ⟨fun i d G1 H1 e g1 g2 => ?_, fun G1 H1 g1 g2 => ⟨vs, g2.seq (g1.seq h), by rw [r.length]; exact Nat.le_refl _⟩⟩
  obtain ⟨v, hv, rv⟩ := r.get e
  refine ⟨⟨vs, v, g2.seq (g1.seq h), hv⟩, fun x H2 y => ?_⟩
  obtain ⟨y1, y2⟩ := y
  subst y1
  have z := y2 vs (g2.seq (g1.seq h))
  rw [hv] at z
  cases z
  exact ⟨G1, Ext.refl g2, rv.mono g1⟩
theorem walk_tup {K : PySem.W.Frag} {ca : Str → Addr} {a : Addr} {vs : List V} {ds : List Dt} (h : SqT K G a vs) (r : Rps K ca G ds vs) : Walk K ca (Itt K a) G ds := by
  refine ⟨fun i d G1 H1 e g1 g2 => ?_, fun G1 H1 g1 g2 => ⟨vs, g2.sqt (g1.sqt h), by rw [r.length]; exact Nat.le_refl _⟩⟩
  obtain ⟨v, hv, rv⟩ := r.get e
  refine ⟨⟨vs, v, g2.sqt (g1.sqt h), hv⟩, fun x H2 y => ?_⟩
  obtain ⟨y1, y2⟩ := y
  subst y1
  have z := y2 vs (g2.sqt (g1.sqt h))
  rw [hv] at z
  cases z
  exact ⟨G1, Ext.refl g2, rv.mono g1⟩
def seqI (F : Ev → Rs Dt) (ρ : Ev) : Rs (List Dt) := F ρ >>= fun d => match d with
  | .lst ds => .ok ds
  | .scr ds => .ok ds
  | .tup ds => .ok ds
  | _ => .no
/-- a list or a tuple walked -/
def iSeqA (K : PySem.W.Frag) (te : TE) : TI := fun σ H R => iList K te σ H R ∨ iTup K te σ H R
theorem pi_seqA {X : Cx} {tg e : Expr} {te : TE} (he : PE X e te) : PI X tg e (iSeqA X.K te) := by
  refine ⟨fun pins s σ H R I h => ?_⟩
  rcases h with h | h
  · exact (pi_list he).run pins s σ H R I h
  · exact (pi_tup he).run pins s σ H R I h
def tupI (F : Ev → Rs Dt) (ρ : Ev) : Rs (List Dt) := F ρ >>= fun d => match d with
  | .tup ds => .ok ds
  | _ => .no
theorem si_seq (h : SemE J Γ (.o .F) F te) : SemI J Γ (seqI F) (iSeqA J.K te) := fun {G0 H0 G H ρ σ R} w p => by
  cases z : F ρ with
  | ex c =>
    refine .inl (h w ?_)
    unfold seqI at p
    rw [z] at p ⊢
    cases p with
    | ex p => exact .ex p
  | no => unfold seqI at p; rw [z] at p; cases p
  | ok d =>
    unfold seqI at p
    rw [z] at p
    cases d with
    | lst ds =>
      refine .inl (h w ?_)
      rw [z]
      exact .ok fun v G1 H1 P1 e1 _ r1 => by
        cases r1 with
        | F r1 =>
          cases r1 with
          | lst h1 h2 => exact ⟨_, rfl, ⟨_, .of (e1.gh _ _ h1)⟩, Rs.Post.of_ok p _ G1 H1 e1 (walk_list (.of h1) h2)⟩
    | scr ds =>
      refine .inl (h w ?_)
      rw [z]
      exact .ok fun v G1 H1 P1 e1 _ r1 => by
        cases r1 with
        | F r1 =>
          cases r1 with
          | scr h1 h2 => exact ⟨_, rfl, ⟨_, e1.gh.seq h1⟩, Rs.Post.of_ok p _ G1 H1 e1 (walk_list h1 h2)⟩
    | tup ds =>
      refine .inr (h w ?_)
      rw [z]
      exact .ok fun v G1 H1 P1 e1 _ r1 => by
        cases r1 with
        | F r1 =>
          cases r1 with
          | tup h1 h2 => exact ⟨_, rfl, ⟨_, .of (e1.gh _ _ h1)⟩, Rs.Post.of_ok p _ G1 H1 e1 (walk_tup (.of h1) h2)⟩
    | _ => cases p
/-- ranges -/
def rangeL (lo : Int) (n : Nat) : List Dt := (List.range n).map fun i => Dt.int (lo + (i : Nat))
theorem walk_range {K : PySem.W.Frag} {ca : Str → Addr} (lo : Int) (n : Nat) : Walk K ca (Itr lo n) G (rangeL lo n) := by
  have hl : (rangeL lo n).length = n := by unfold rangeL; rw [List.length_map, List.length_range]
  refine ⟨fun i d G1 H1 e g1 g2 => ?_, fun G1 H1 g1 g2 => by rw [hl]; exact Nat.le_refl _⟩
  have hi : i < n := by have := (List.getElem?_eq_some_iff.mp e).1; rw [hl] at this; exact this
  refine ⟨hi, fun x H2 y => ?_⟩
  obtain ⟨y1, y2⟩ := y
  subst y1 y2
  have z : d = .int (lo + (i : Nat)) := by
    unfold rangeL at e
    rw [List.getElem?_map, List.getElem?_range hi] at e
    exact (Option.some.inj e).symm
  subst z
  exact ⟨G1, Ext.refl g2, .int _⟩
@[irreducible] def intSz (i : Int) : Bool := decide (-1000000000 ≤ i ∧ i ≤ 1000000000)
theorem intSz_ok {i : Int} (h : intSz i = true) : -1000000000 ≤ i ∧ i ≤ 1000000000 := by
  unfold intSz at h
  exact of_decide_eq_true h
def rng1I (Fs : List (Ev → Rs Dt)) (ρ : Ev) : Rs (List Dt) := argsE Fs ρ >>= fun ds => match ds with
  | [.int j] => if intSz j = true then .ok (rangeL 0 j.toNat) else .no
  | _ => .no
def rng2I (Fs : List (Ev → Rs Dt)) (ρ : Ev) : Rs (List Dt) := argsE Fs ρ >>= fun ds => match ds with
  | [.int i, .int j] => if (intSz i && intSz j) = true then .ok (rangeL i (j - i).toNat) else .no
  | _ => .no
theorem Rps.one {K : PySem.W.Frag} {ca : Str → Addr} {d : Dt} {vs : List V} (h : Rps K ca H [d] vs) : ∃ v, vs = [v] ∧ Rp K ca H d v := by
  cases h with
  | cons h1 h2 => cases h2; exact ⟨_, rfl, h1⟩
theorem Rps.two {K : PySem.W.Frag} {ca : Str → Addr} {d e : Dt} {vs : List V} (h : Rps K ca H [d, e] vs) : ∃ v u, vs = [v, u] ∧ Rp K ca H d v ∧ Rp K ca H e u := by
  cases h with
  | cons h1 h2 =>
    obtain ⟨u, rfl, h3⟩ := h2.one
    exact ⟨_, u, rfl, h1, h3⟩
theorem si_rng1 (h : SemBs J Γ Fs tr) : SemI J Γ (rng1I Fs) (iRng1 tr) := fun {G0 H0 G H ρ σ R} w p => by
  refine h w (p.bind.imp (fun ds _ q vs G1 H1 e1 r1 => ?_) fun _ q => q)
  split at q
  · rename_i j hj
    obtain ⟨v, rfl, r⟩ := r1.one
    cases r
    by_cases c : intSz j = true
    · rw [if_pos c] at q
      have c := intSz_ok c
      exact ⟨j, rfl, by omega, by omega, q.of_ok _ G1 H1 e1 (walk_range 0 _)⟩
    · rw [if_neg c] at q; cases q
  · cases q
/-- zip of two tuples, of two lists, as long as each other -/
def zipL : List Dt → List Dt → List Dt
  | a :: as, b :: bs => .tup [a, b] :: zipL as bs
  | _, _ => []
def zipI (Fs : List (Ev → Rs Dt)) (ρ : Ev) : Rs (List Dt) := argsE Fs ρ >>= fun ds => match ds with
  | [.lst a, .lst b] => .ok (zipL a b)
  | [.tup a, .tup b] => .ok (zipL a b)
  | _ => .no
/-- enumerate of a list -/
def enumL : Nat → List Dt → List Dt
  | _, [] => []
  | n, d :: ds => .tup [.int (n : Nat), d] :: enumL (n + 1) ds
def enumI (Fs : List (Ev → Rs Dt)) (ρ : Ev) : Rs (List Dt) := argsE Fs ρ >>= fun ds => match ds with
  | [.lst a] => .ok (enumL 0 a)
  | [.scr a] => .ok (enumL 0 a)
  | _ => .no
/-- reversed -/
def revI (F : Ev → Rs Dt) (ρ : Ev) : Rs (List Dt) := F ρ >>= fun d => match d with
  | .lst ds => .ok ds.reverse
  | .tup ds => .ok ds.reverse
  | _ => .no
end
end Pm
namespace Pm
open PySem PySem.Spec PyProof.Rows L2
open Classical
/-! ### targets -/
def SemG (J : Jc) (Γ : List Mode) (vs : List Nat) (FG : Dt → Ev → Option Ev) (g : TG) : Prop := ∀ ⦃G0 H0 G H : Hp⦄ ⦃ρ ρ' : Ev⦄ ⦃σ : L2.St⦄ ⦃Q : L2.St → Hp → Prop⦄ ⦃d : Dt⦄ ⦃v : V⦄, Wd J G0 H0 Γ ρ σ G H → Rp J.K J.ca G d v → FG d ρ = some ρ' →
  (∀ σ', wipe σ' vs = wipe σ vs → Wd J G0 H0 Γ ρ' σ' G H → Q σ' H) → g v σ H Q
def SemGs (J : Jc) (Γ : List Mode) (vs : List Nat) (FG : List Dt → Ev → Option Ev) (g : TGs) : Prop := ∀ ⦃G0 H0 G H : Hp⦄ ⦃ρ ρ' : Ev⦄ ⦃σ : L2.St⦄ ⦃Q : L2.St → Hp → Prop⦄ ⦃ds : List Dt⦄ ⦃us : List V⦄, Wd J G0 H0 Γ ρ σ G H → Rps J.K J.ca G ds us → FG ds ρ = some ρ' →
  (∀ σ', wipe σ' vs = wipe σ vs → Wd J G0 H0 Γ ρ' σ' G H → Q σ' H) → g us σ H Q
def nameG (i : Nat) (d : Dt) (ρ : Ev) : Option Ev := some (ρ.set i (some d))
def nilG : List Dt → Ev → Option Ev
  | [], ρ => some ρ
  | _, _ => none
def consG (f : Dt → Ev → Option Ev) (fs : List Dt → Ev → Option Ev) : List Dt → Ev → Option Ev
  | d :: ds, ρ => (f d ρ).bind fun ρ1 => fs ds ρ1
  | [], _ => none
def tupG (n : Nat) (fs : List Dt → Ev → Option Ev) (d : Dt) (ρ : Ev) : Option Ev := match d with
  | .tup ds => if ds.length = n then fs ds ρ else none
  | _ => none
theorem wipe_in {σ : L2.St} {i : Nat} : ∀ {vs : List Nat}, i ∈ vs → (wipe σ vs)[i]? = if i < σ.length then some none else none
  | [], h => by cases h
  | v :: vs, h => by
    show ((wipe σ vs).set v none)[i]? = _
    by_cases e : v = i
    · subst e
      rw [List.getElem?_set, wipe_length]
      simp
    · rw [List.getElem?_set_ne e]
      rcases List.mem_cons.mp h with q | q
      · exact absurd q.symm e
      · exact wipe_in q
theorem wipe_ext {σ τ : L2.St} {vs : List Nat} (hl : σ.length = τ.length) (h : ∀ j, j ∉ vs → σ[j]? = τ[j]?) : wipe σ vs = wipe τ vs := by
  refine List.ext_getElem? fun j => ?_
  by_cases hj : j ∈ vs
  · rw [wipe_in hj, wipe_in hj, hl]
  · rw [wipe_out hj, wipe_out hj]
    exact h j hj
theorem wipe_set {σ : L2.St} {i : Nat} {x : Option V} {vs : List Nat} (h : i ∈ vs) : wipe (σ.set i x) vs = wipe σ vs :=
  wipe_ext (List.length_set ..) fun j hj => List.getElem?_set_ne fun e => hj (by rw [← e]; exact h)
theorem wipe_wipe {σ : L2.St} {vs : List Nat} : wipe (wipe σ vs) vs = wipe σ vs := wipe_ext (wipe_length _ _) fun j hj => wipe_out hj
def wipeE (ρ : Ev) : List Nat → Ev
  | [] => ρ
  | v :: vs => (wipeE ρ vs).set v none
theorem wipeE_length (ρ : Ev) : ∀ vs : List Nat, (wipeE ρ vs).length = ρ.length
  | [] => rfl
  | v :: vs => by unfold wipeE; rw [List.length_set, wipeE_length ρ vs]
theorem wipeE_some {ρ : Ev} {i : Nat} {x : Dt} : ∀ {vs : List Nat}, (wipeE ρ vs)[i]? = some (some x) → ρ[i]? = some (some x) ∧ i ∉ vs
  | [], h => ⟨h, by simp⟩
  | v :: vs, h => by
    unfold wipeE at h
    by_cases hi : v = i
    · subst hi
      by_cases hv : v < (wipeE ρ vs).length
      · rw [List.getElem?_set_self hv] at h; cases h
      · rw [List.getElem?_eq_none (by simpa using hv)] at h; cases h
    · rw [List.getElem?_set_ne hi] at h
      obtain ⟨h1, h2⟩ := wipeE_some h
      exact ⟨h1, by simp only [List.mem_cons, not_or]; exact ⟨fun e => hi e.symm, h2⟩⟩
section
variable {J : Jc} {Γ : List Mode} {em : EM} {m : Mode} {ms : List Mode} {F Fa Fb : Ev → Rs Dt} {Fs : List (Ev → Rs Dt)} {te ta tb : TE} {tr : TA} {G0 H0 G H G' H' : Hp} {ρ : Ev} {σ : L2.St} {vs : List Nat}
theorem Wd.nw (w : Wd J G0 H0 Γ ρ σ G H) : Wd J.nw G0 H0 Γ ρ σ G H := ⟨w.x, w.lg, w.lr, w.env, (fun _ _ h => nomatch h), w.xk⟩
theorem Wd.wipe (w : Wd J G0 H0 Γ ρ σ G H) (vs : List Nat) (hp : J.pin = []) : Wd J G0 H0 Γ (wipeE ρ vs) (L2.wipe σ vs) G H := by
  obtain ⟨Pf, h1, h2, h3⟩ := w.env
  refine ⟨w.x, by rw [wipeE_length]; exact w.lg, by rw [wipeE_length, wipe_length]; exact w.lr, ⟨Pf, h1, h2, fun i d q => ?_⟩, (fun _ v h => by rw [hp] at h; cases h), w.xk⟩
  obtain ⟨q1, q2⟩ := wipeE_some q
  obtain ⟨v, m, s1, s2, s3⟩ := h3 i d q1
  exact ⟨v, m, by rw [wipe_out q2]; exact s1, s2, s3⟩
theorem set_same {Γ : List Mode} {i : Nat} (h : Γ[i]? = some m) : Γ.set i m = Γ := by
  refine List.ext_getElem? fun j => ?_
  rw [List.getElem?_set]
  split
  · rename_i e
    subst e
    have hl := (List.getElem?_eq_some_iff.mp h).1
    rw [if_pos hl, h]
  · rfl
theorem sg_name {i : Nat} (hm : Γ[i]? = some .F := by rfl) (hv : i ∈ vs := by decide) (hp : J.free i := by rfl) : SemG J Γ vs (nameG i) (gName i) := fun {G0 H0 G H ρ ρ' σ Q d v} w r e k => by
  cases e
  have w2 := w.set (Ext.refl w.gh) (.F (P := Pno) r) (Fr.no (G := G)) i hp
  rw [set_same hm] at w2
  exact k _ (wipe_set hv) w2
theorem sgs_nil : SemGs J Γ vs nilG gNil := fun {G0 H0 G H ρ ρ' σ Q ds us} w r e k => by
  cases ds with
  | nil =>
    cases e
    cases r
    exact ⟨rfl, k σ rfl w⟩
  | cons _ _ => cases e
theorem sgs_cons {f : Dt → Ev → Option Ev} {fs : List Dt → Ev → Option Ev} {g : TG} {gs : TGs} (h : SemG J Γ vs f g) (k : SemGs J Γ vs fs gs) : SemGs J Γ vs (consG f fs) (gCons g gs) := fun {G0 H0 G H ρ ρ' σ Q ds us} w r e l => by
  cases ds with
  | nil => cases e
  | cons d ds =>
    cases r with
    | cons r1 r2 =>
      have e : (f d ρ).bind (fun ρ1 => fs ds ρ1) = some ρ' := e
      cases q : f d ρ with
      | none => rw [q] at e; cases e
      | some ρ1 =>
        rw [q] at e
        refine ⟨_, _, rfl, h w r1 q fun σ1 z w1 => ?_⟩
        exact k w1 r2 e fun σ2 z2 w2 => l σ2 (z2.trans z) w2
theorem sg_tup {n : Nat} {fs : List Dt → Ev → Option Ev} {gs : TGs} (k : SemGs J Γ vs fs gs) : SemG J Γ vs (tupG n fs) (gTup J.K n gs) := fun {G0 H0 G H ρ ρ' σ Q d v} w r e l => by
  cases r with
  | @tup a us ds h1 h2 =>
    have e : (if ds.length = n then fs ds ρ else none) = some ρ' := e
    split at e
    · rename_i hn
      exact ⟨_, _, rfl, .of (w.gh _ _ h1), by rw [← h2.length]; exact hn, k w h2 e l⟩
    · cases e
  | _ => cases e
/-! ### comprehensions -/
def compL (FG : Dt → Ev → Option Ev) (Ft : Ev → Rs Bool) (Fe : Ev → Rs Dt) (ρ : Ev) : List Dt → Rs (List Dt)
  | [] => .ok []
  | d :: ds => match FG d ρ with
    | none => .no
    | some ρ1 => Ft ρ1 >>= fun b => if b = true then Fe ρ1 >>= fun y => compL FG Ft Fe ρ ds >>= fun ys => .ok (y :: ys) else compL FG Ft Fe ρ ds
def noEx {α : Type} : Rs α → Rs α
  | .ok a => .ok a
  | _ => .no
def compE (Fi : Ev → Rs (List Dt)) (vs : List Nat) (FG : Dt → Ev → Option Ev) (Ft : Ev → Rs Bool) (Fe : Ev → Rs Dt) (ρ : Ev) : Rs Dt := Fi ρ >>= fun ds => if lenSz ds.length = true then noEx (compL FG Ft Fe (wipeE ρ vs) ds) >>= fun ys => .ok (.lst ys) else .no
def yesT (_ : Ev) : Rs Bool := .ok true
theorem st_yes : SemT J Γ yesT tYes := fun {G0 H0 G H ρ σ Q} w p => p.of_ok G H (Ext.refl w.gh)
theorem Ows.append {K : PySem.W.Frag} {ca : Str → Addr} : ∀ {ds : List Dt} {es : List Dt} {ms ns : List Mode} {vs us : List V} {P1 P2 P : Addr → Prop}, Ows K ca G H ms ds vs P1 → Ows K ca G H ns es us P2 → (∀ b, P1 b → P b) → (∀ b, P2 b → P b) → (∀ b, P1 b → ¬ P2 b) → Ows K ca G H (ms ++ ns) (ds ++ es) (vs ++ us) P
  | [], es, ms, ns, vs, us, P1, P2, P, h, k, q1, q2, q3 => by
    cases h
    exact k.weaken q2
  | d :: ds, es, ms, ns, vs, us, P1, P2, P, h, k, q1, q2, q3 => by
    cases h with
    | @cons _ _ _ _ _ _ _ A B h1 h2 r1 r2 r3 =>
      refine .cons (P1 := A) (P2 := fun b => B b ∨ P2 b) h1 (Ows.append h2 k (fun _ => .inl) (fun _ => .inr) fun b hb => q3 b (r2 b hb)) (fun b hb => q1 b (r1 b hb)) (fun b hb => hb.elim (fun z => q1 b (r2 b z)) (q2 b)) fun b hb z => ?_
      rcases z with z | z
      · exact r3 b hb z
      · exact q3 b (r1 b hb) z
theorem Ext.mut {p : Addr} {o : HO} (e : Ext G H G' H') (hp : H p = none) (hg : G' p = none) : Ext G H G' (L2.upd H' p o) := by
  refine ⟨e.g, fun a u q => ?_, fun a u q => ?_, e.base⟩
  · rw [upd_ne fun z => by rw [z, hp] at q; cases q]
    exact e.h a u q
  · rw [upd_ne fun z => by rw [z, hg] at q; cases q]
    exact e.gh a u q
theorem bind_ok {α β : Type} {r : Rs α} {f : α → Rs β} {b : β} (h : (r >>= f) = .ok b) : ∃ a, r = .ok a ∧ f a = .ok b := by
  cases r with
  | ok a => exact ⟨a, rfl, h⟩
  | ex c => cases h
  | no => cases h
theorem noEx_ok {α : Type} {r : Rs α} {a : α} (h : noEx r = .ok a) : r = .ok a := by
  cases r with
  | ok b => exact h
  | ex c => cases h
  | no => cases h
variable {Fi : Ev → Rs (List Dt)} {wi : TI} {FG : Dt → Ev → Option Ev} {g : TG} {Ft : Ev → Rs Bool} {tt : TT} {Fe : Ev → Rs Dt}
/-- what is walked, from here on -/
structure WalkX (K : PySem.W.Frag) (ca : Str → Addr) (it : It) (G H : Hp) (ds : List Dt) : Prop where
  go : ∀ i d G1 H1, ds[i]? = some d → Ext G H G1 H1 → it.go i H1 ∧ ∀ x H2, it.yld i H1 x H2 → ∃ G2, Ext G1 H1 G2 H2 ∧ Rp K ca G2 d x
  stop : ∀ G1 H1, Ext G H G1 H1 → it.stop ds.length H1
def SemIX (J : Jc) (Γ : List Mode) (F : Ev → Rs (List Dt)) (wi : TI) : Prop := ∀ ⦃G0 H0 G H : Hp⦄ ⦃ρ : Ev⦄ ⦃σ : L2.St⦄ ⦃R : It → Hp → Prop⦄, Wd J G0 H0 Γ ρ σ G H →
  Rs.Post (fun ds => ∀ it G' H', Ext G H G' H' → WalkX J.K J.ca it G' H' ds → R it H') (fun c => ∀ H' dx, Same H H' → XR c dx H' → J.W (.ref (J.ca c.1)) dx σ H') (F ρ) → wi σ H R
theorem six (h : SemI J Γ Fi wi) : SemIX J Γ Fi wi := fun {G0 H0 G H ρ σ R} w p => h w (p.imp (fun ds _ q it G1 H1 e1 wk => q it G1 H1 e1 ⟨fun i d G2 H2 e E => wk.go i d G2 H2 e E.g E.gh, fun G2 H2 E => wk.stop G2 H2 E.g E.gh⟩) fun _ q => q)
theorem se_comp (hi : SemIX J Γ Fi wi) (hg : SemG J.nw Γ vs FG g) (ht : SemT J.nw Γ Ft tt) (he : SemE J.nw Γ (.o m) Fe te) : SemE J Γ (.o (.L m)) (compE Fi vs FG Ft Fe) (tLc wi g tt te vs) := fun {G0 H0 G H ρ σ Q} w p => by
  refine hi w (p.bind.imp (fun ds _ q it G1 H1 e1 wk D hD => ?_) fun _ q => q)
  by_cases c : lenSz ds.length = true
  case neg => rw [if_neg c] at q; cases q
  rw [if_pos c] at q
  have c := lenSz_le c
  cases hn : noEx (compL FG Ft Fe (wipeE ρ vs) ds) with
  | ex z => rw [hn] at q; cases hz : compL FG Ft Fe (wipeE ρ vs) ds <;> rw [hz] at hn <;> cases hn
  | no => rw [hn] at q; cases q
  | ok total =>
  rw [hn, ok_bind] at q
  have hn := noEx_ok hn
  have fin := q.of_ok
  let St : Nat → Hp → Prop := fun i Hi => ∃ (G2 : Hp) (aD : List Dt) (aV : List V) (P : Addr → Prop) (ys : List Dt), Ext G1 H1 G2 Hi ∧ Hi D = some (.lst aV) ∧ G2 D = none ∧ Ows J.K J.ca G2 Hi (List.replicate aD.length m) aD aV P ∧ (∀ b, P b → G2 b = none ∧ H1 b = none ∧ Hi b ≠ none ∧ b ≠ D) ∧
    aD.length ≤ i ∧ compL FG Ft Fe (wipeE ρ vs) (ds.drop i) = .ok ys ∧ aD ++ ys = total
  refine ⟨fun i n Hi => n = ds.length - i ∧ i ≤ ds.length ∧ St i Hi, ⟨ds.length, by simp, Nat.zero_le _, G1, [], [], Pno, total, ?_, upd_same, e1.gh.free hD, .nil, fun _ z => z.elim, Nat.le_refl _, by simpa using hn, rfl⟩, ?_⟩
  · exact (Ext.refl e1.gh).mut hD (e1.gh.free hD)
  rintro i n Hi ⟨rfl, hi, G2, aD, aV, P, ys, E, hDi, gD, own, pr, la, hc, tot⟩
  by_cases hlt : i < ds.length
  case neg =>
    have ei : i = ds.length := by omega
    subst ei
    refine .inl ⟨wk.stop G2 Hi E, ?_⟩
    have z : compL FG Ft Fe (wipeE ρ vs) (ds.drop ds.length) = .ok [] := by rw [List.drop_length]; rfl
    rw [z] at hc
    cases hc
    rw [List.append_nil] at tot
    subst tot
    refine fin _ G2 Hi (fun b => b = D ∨ P b) (e1.trans E) (fun b hb => ?_) (.L hDi gD (.inl rfl) (own.weaken fun b hb => ⟨.inr hb, (pr b hb).2.2.2⟩))
    rcases hb with rfl | hb
    · exact ⟨gD, e1.h.free hD, by rw [hDi]; exact fun z => by cases z⟩
    · exact ⟨(pr b hb).1, e1.h.free (pr b hb).2.1, (pr b hb).2.2.1⟩
  obtain ⟨go, step⟩ := wk.go i ds[i] G2 Hi (by simp [hlt]) E
  refine .inr ⟨go, fun H' => ∃ m', m' < ds.length - i ∧ (m' = ds.length - (i + 1) ∧ i + 1 ≤ ds.length ∧ St (i + 1) H'), fun H' z => z, fun x H3 y => ?_⟩
  obtain ⟨G3, e3, rx⟩ := step x H3 y
  have hdrop : ds.drop i = ds[i] :: ds.drop (i + 1) := List.drop_eq_getElem_cons hlt
  rw [hdrop] at hc
  have hc : (match FG ds[i] (wipeE ρ vs) with
    | none => Rs.no
    | some ρ1 => Ft ρ1 >>= fun b => if b = true then Fe ρ1 >>= fun y => compL FG Ft Fe (wipeE ρ vs) (ds.drop (i + 1)) >>= fun ys => .ok (y :: ys) else compL FG Ft Fe (wipeE ρ vs) (ds.drop (i + 1))) = .ok ys := hc
  cases hF : FG ds[i] (wipeE ρ vs) with
  | none => rw [hF] at hc; cases hc
  | some ρ1 =>
  rw [hF] at hc
  obtain ⟨b, hb, hc⟩ := bind_ok hc
  have w3 : Wd J.nw G0 H0 Γ (wipeE ρ vs) (L2.wipe σ vs) G3 H3 := ((w.ext e1).ext (E.trans e3)).nw.wipe vs rfl
  refine hg w3 rx hF fun σ2 hw w4 => ⟨hw.trans wipe_wipe, ?_⟩
  refine ht w4 ?_
  rw [hb]
  refine .ok fun G4 H4 e4 => ?_
  have E4 : Ext G1 H1 G4 H4 := (E.trans e3).trans e4
  have carry : ∀ {G5 H5 : Hp}, Ext G2 Hi G5 H5 → Ows J.K J.ca G5 H5 (List.replicate aD.length m) aD aV P ∧ (∀ b, P b → G5 b = none ∧ H1 b = none ∧ H5 b ≠ none ∧ b ≠ D) := fun {G5 H5} e5 =>
    ⟨own.carry e5.g fun b hb => ⟨e5.h.at (pr b hb).2.2.1, by rw [e5.base b (pr b hb).2.2.1]; exact (pr b hb).1⟩, fun b hb => ⟨by rw [e5.base b (pr b hb).2.2.1]; exact (pr b hb).1, (pr b hb).2.1, e5.h.nn (pr b hb).2.2.1, (pr b hb).2.2.2⟩⟩
  have hDi0 : Hi D ≠ none := by rw [hDi]; exact fun z => by cases z
  cases b with
  | false =>
    obtain ⟨o4, p4⟩ := carry (e3.trans e4)
    show ∃ m', _
    refine ⟨ds.length - (i + 1), by omega, rfl, hlt, G4, aD, aV, P, ys, E4, (e3.trans e4).h _ _ hDi, by rw [(e3.trans e4).base D hDi0]; exact gD, o4, p4, by omega, hc, tot⟩
  | true =>
    show te σ2 H4 _
    have hc : (Fe ρ1 >>= fun y => compL FG Ft Fe (wipeE ρ vs) (ds.drop (i + 1)) >>= fun ys => .ok (y :: ys)) = .ok ys := hc
    obtain ⟨yD, hy, hc⟩ := bind_ok hc
    obtain ⟨ys2, hys, hc⟩ := bind_ok hc
    cases hc
    refine he (w4.ext e4) ?_
    rw [hy]
    refine .ok fun v G5 H5 P5 e5 f5 o5 => ?_
    have e25 := (e3.trans e4).trans e5
    obtain ⟨o6, p6⟩ := carry e25
    have hD5 : H5 D = some (.lst aV) := e25.h _ _ hDi
    have gD5 : G5 D = none := by rw [e25.base D hDi0]; exact gD
    refine ⟨aV, hD5, ?_, ds.length - (i + 1), by omega, rfl, hlt, G5, aD ++ [yD], aV ++ [v], fun b => P b ∨ P5 b, ys2, (E.trans e25).mut hD gD5, upd_same, gD5, ?_, fun b hb => ?_, by rw [List.length_append, List.length_singleton]; omega, hys, by rw [List.append_assoc]; exact tot⟩
    · rw [← own.len.1]
      exact Nat.lt_of_lt_of_le (Nat.lt_of_le_of_lt la hlt) (sz1000000 c)
    · rw [List.length_append, List.length_singleton, List.replicate_succ']
      have nD5 : ∀ b, P5 b → b ≠ D := fun b hb z => by
        have := (f5 b hb).2.1
        rw [z, (e3.trans e4).h _ _ hDi] at this
        cases this
      refine Ows.append (P1 := P) (P2 := P5) (o6.carry (Same.refl _) fun b hb => ⟨upd_ne (p6 b hb).2.2.2, (p6 b hb).1⟩) (.cons (P1 := P5) (P2 := Pno) (o5.carry (Same.refl _) fun b hb => ⟨upd_ne (nD5 b hb), (f5 b hb).1⟩) .nil (fun _ z => z) (fun _ z => z.elim) (fun _ _ z => z)) (fun _ => .inl) (fun _ => .inr) fun b h1 h2 => ?_
      exact (pr b h1).2.2.1 ((e3.trans e4).h.free (f5 b h2).2.1)
    · rcases hb with hb | hb
      · obtain ⟨a1, a2, a3, a4⟩ := p6 b hb
        exact ⟨a1, a2, by rw [upd_ne a4]; exact a3, a4⟩
      · have nb : b ≠ D := fun z => by
          have := (f5 b hb).2.1
          rw [z, (e3.trans e4).h _ _ hDi] at this
          cases this
        exact ⟨(f5 b hb).1, E4.h.free (f5 b hb).2.1, by rw [upd_ne nb]; exact (f5 b hb).2.2, nb⟩
end
end Pm
namespace Pm
open PySem PySem.Spec PyProof.Rows L2
open Classical
/-! ### statements -/
inductive Ot where
  | nx (ρ : Ev) | rt (d : Dt) | bk (ρ : Ev) | ct (ρ : Ev) | ex (c : Xn) (ρ : Ev) | no
/-- what is told at a return: the value; where objects are lent, these too -/
def RtR (J : Jc) (G H : Hp) (d : Dt) (v : V) (P : Addr → Prop) : Prop := match J.ln with
  | [] => Ow J.K J.ca G H J.mr d v P
  | x :: l => ∃ r ds, d = .tup (r :: ds) ∧ Ows J.K J.ca G H (J.mr :: (x :: l).map fun y => y.2.1) (r :: ds) (v :: (x :: l).map fun y => y.2.2) P
theorem RtR.of {J : Jc} {G H : Hp} {d : Dt} {v : V} {P : Addr → Prop} (h : J.ln = []) (o : Ow J.K J.ca G H J.mr d v P) : RtR J G H d v P := by
  unfold RtR
  rw [h]
  exact o
inductive PostS (J : Jc) (G0 H0 Gs : Hp) (Γ' : List Mode) (D : Ends) : Ot → Prop where
  | nx {ρ' : Ev} : (∀ σ' G' H', Same Gs G' → Wd J G0 H0 Γ' ρ' σ' G' H' → D.nx σ' H') → PostS J G0 H0 Gs Γ' D (.nx ρ')
  | rt {d : Dt} : (∀ v G' H' P, Ext G0 H0 G' H' → Fr G' H0 H' P → RtR J G' H' d v P → D.rt v H') → PostS J G0 H0 Gs Γ' D (.rt d)
  | bk {ρ' : Ev} : (∀ σ' G' H', Same Gs G' → Wd J G0 H0 J.gb ρ' σ' G' H' → D.bk σ' H') → PostS J G0 H0 Gs Γ' D (.bk ρ')
  | ct {ρ' : Ev} : (∀ σ' G' H', Same Gs G' → Wd J G0 H0 J.gb ρ' σ' G' H' → D.ct σ' H') → PostS J G0 H0 Gs Γ' D (.ct ρ')
  | ex {c : Xn} {ρ' : Ev} : (∀ dx σ' H', Same H0 H' → XR c dx H' → (∀ Γ1, J.gx = some Γ1 → ∃ G', Same Gs G' ∧ Wd J G0 H0 Γ1 ρ' σ' G' H') → J.W (.ref (J.ca c.1)) dx σ' H') → PostS J G0 H0 Gs Γ' D (.ex c ρ')
def SemS (J : Jc) (Γ Γ' : List Mode) (F : Ev → Ot) (ts : TS) : Prop := ∀ ⦃G0 H0 G H : Hp⦄ ⦃ρ : Ev⦄ ⦃σ : L2.St⦄ ⦃D : Ends⦄, Wd J G0 H0 Γ ρ σ G H → PostS J G0 H0 G Γ' D (F ρ) → ts D σ H
def bindS {α : Type} (r : Rs α) (ρ : Ev) (k : α → Ot) : Ot := match r with
  | .ok a => k a
  | .ex c => .ex c ρ
  | .no => .no
theorem bindS_ok {α : Type} {a : α} {ρ : Ev} {k : α → Ot} : bindS (.ok a) ρ k = k a := rfl
def Gx (J : Jc) (Γ : List Mode) : Prop := J.gx = none ∨ J.gx = some Γ
section
variable {J : Jc} {Γ Γ' Γ1 Γ2 : List Mode} {em : EM} {m : Mode} {ms : List Mode} {Fe Fa Fb : Ev → Rs Dt} {Fs : List (Ev → Rs Dt)} {te ta tb : TE} {tr : TA} {G0 H0 Gs G H G' H' : Hp} {ρ : Ev} {σ : L2.St} {vs : List Nat}
  {F F1 F2 : Ev → Ot} {ts t1 t2 : TS} {D : Ends}
theorem exS {c : Xn} (w : Wd J G0 H0 Γ ρ σ G H) (hx : Gx J Γ) (p : PostS J G0 H0 G Γ' D (.ex c ρ)) : ∀ H1 dx, Same H H1 → XR c dx H1 → J.W (.ref (J.ca c.1)) dx σ H1 := fun H1 dx s xr => by
  cases p with
  | ex p =>
    refine p dx σ H1 (w.x.h.trans s) xr fun Γ1 z => ?_
    rcases hx with h | h
    · rw [h] at z; cases z
    · rw [h] at z
      cases z
      exact ⟨G, Same.refl _, w.heap s⟩
theorem PostS.bind {α : Type} {r : Rs α} {k : α → Ot} (w : Wd J G0 H0 Γ ρ σ G H) (hx : Gx J Γ) (p : PostS J G0 H0 G Γ' D (bindS r ρ k)) : Rs.Post (fun a => PostS J G0 H0 G Γ' D (k a)) (fun c => ∀ H1 dx, Same H H1 → XR c dx H1 → J.W (.ref (J.ca c.1)) dx σ H1) r := by
  cases r with
  | ok a => exact .ok p
  | ex c => exact .ex (exS w hx p)
  | no => cases p
theorem PostS.up {o : Ot} (e : Same Gs G') (p : PostS J G0 H0 Gs Γ' D o) : PostS J G0 H0 G' Γ' D o := by
  cases p with
  | nx p => exact .nx fun a b c d => p a b c (e.trans d)
  | rt p => exact .rt p
  | bk p => exact .bk fun a b c d => p a b c (e.trans d)
  | ct p => exact .ct fun a b c d => p a b c (e.trans d)
  | ex p => exact .ex fun a b c d x k => p a b c d x fun Γ1 z => (k Γ1 z).imp fun _ q => ⟨e.trans q.1, q.2⟩
theorem PostS.of_nx {ρ' : Ev} (p : PostS J G0 H0 Gs Γ' D (.nx ρ')) : ∀ σ' G' H', Same Gs G' → Wd J G0 H0 Γ' ρ' σ' G' H' → D.nx σ' H' := by
  cases p with
  | nx p => exact p
theorem PostS.of_rt {d : Dt} (p : PostS J G0 H0 Gs Γ' D (.rt d)) : ∀ v G' H' P, Ext G0 H0 G' H' → Fr G' H0 H' P → RtR J G' H' d v P → D.rt v H' := by
  cases p with
  | rt p => exact p
def nextS (ρ : Ev) : Ot := .nx ρ
def seqS (F1 F2 : Ev → Ot) (ρ : Ev) : Ot := match F1 ρ with
  | .nx ρ1 => F2 ρ1
  | o => o
theorem ss_next : SemS J Γ Γ nextS tNext := fun {G0 H0 G H ρ σ D} w p => p.of_nx σ G H (Same.refl _) w
theorem ss_seq (h : SemS J Γ Γ1 F1 t1) (k : SemS J Γ1 Γ2 F2 t2) : SemS J Γ Γ2 (seqS F1 F2) (tSeq t1 t2) := fun {G0 H0 G H ρ σ D} w p => by
  refine h (D := { D with nx := t2 D }) w ?_
  unfold seqS at p
  cases q : F1 ρ with
  | nx ρ1 =>
    rw [q] at p
    exact .nx fun σ' G' H' sg w' => k w' (p.up sg)
  | rt d =>
    rw [q] at p
    cases p with
    | rt p => exact .rt p
  | bk r =>
    rw [q] at p
    cases p with
    | bk p => exact .bk p
  | ct r =>
    rw [q] at p
    cases p with
    | ct p => exact .ct p
  | ex c r =>
    rw [q] at p
    cases p with
    | ex p => exact .ex p
  | no => rw [q] at p; cases p
/-- from here on a name is frozen -/
theorem ss_frz {i : Nat} (h : SemS J (Γ.set i .F) Γ' F ts) : SemS J Γ Γ' F ts := fun {G0 H0 G H ρ σ D} w p => by
  obtain ⟨Pf, h1, h2, h3⟩ := w.env
  have sg : Same G (fun b => if Pf i b then H b else G b) := fun a u q => by
    show (if Pf i a then H a else G a) = some u
    by_cases z : Pf i a
    · rw [if_pos z]; exact w.gh a u q
    · rw [if_neg z]; exact q
  refine h (G := fun b => if Pf i b then H b else G b) ⟨⟨w.x.g.trans sg, w.x.h, fun a u q => ?_, fun a q => ?_⟩, by rw [List.length_set]; exact w.lg, w.lr, ⟨fun j a => j ≠ i ∧ Pf j a, fun j k a q r s => h1 j k a q r.2 s.2, fun j a q => ?_, fun j d q => ?_⟩, w.pn, w.xk⟩ (p.up sg)
  · have q : (if Pf i a then H a else G a) = some u := q
    by_cases z : Pf i a
    · rw [if_pos z] at q; exact q
    · rw [if_neg z] at q; exact w.gh a u q
  · show (if Pf i a then H a else G a) = G0 a
    rw [if_neg fun z => q (h2 i a z).2.1]
    exact w.x.base a q
  · obtain ⟨q0, q⟩ := q
    refine ⟨?_, (h2 j a q).2⟩
    show (if Pf i a then H a else G a) = none
    rw [if_neg (h1 j i a q0 q)]
    exact (h2 j a q).1
  · obtain ⟨v, m, s1, s2, s3⟩ := h3 j d q
    by_cases hj : j = i
    · subst hj
      refine ⟨v, .F, s1, List.getElem?_set_self (List.getElem?_eq_some_iff.mp s2).1, .F (s3.freeze sg fun b hb => if_pos hb)⟩
    · refine ⟨v, m, s1, by rw [List.getElem?_set_ne (Ne.symm hj)]; exact s2, (s3.carry sg fun b hb => ⟨rfl, ?_⟩).weaken fun b hb => ⟨hj, hb⟩⟩
      show (if Pf i b then H b else G b) = none
      rw [if_neg (h1 j i b hj hb)]
      exact (h2 j b hb).1
def asgS (i : Nat) (Fe : Ev → Rs Dt) (ρ : Ev) : Ot := bindS (Fe ρ) ρ fun d => .nx (ρ.set i (some d))
theorem ss_asg {i : Nat} (h : SemE J Γ (.o m) Fe te) (hx : Gx J Γ) (hp : J.free i := by rfl) : SemS J Γ (Γ.set i m) (asgS i Fe) (tAsg te (gName i)) := fun {G0 H0 G H ρ σ D} w p =>
  h w ((p.bind w hx).imp (fun d _ q v G1 H1 P e f o => q.of_nx _ G1 H1 e.g (w.set e o f i hp)) fun _ q => q)
/-- the name frozen before stays frozen -/
theorem ss_asgF {i : Nat} (h : SemE J Γ (.o .F) Fe te) (hx : Gx J Γ) (hm : Γ[i]? = some .F := by rfl) (hp : J.free i := by rfl) : SemS J Γ Γ (asgS i Fe) (tAsg te (gName i)) := by
  have := ss_asg (i := i) h hx hp
  rw [set_same hm] at this
  exact this
def asgG (FG : Dt → Ev → Option Ev) (Fe : Ev → Rs Dt) (ρ : Ev) : Ot := bindS (Fe ρ) ρ fun d => match FG d ρ with
  | some ρ' => .nx ρ'
  | none => .no
theorem ss_asgG {FG : Dt → Ev → Option Ev} {g : TG} (h : SemE J Γ (.o .F) Fe te) (hg : SemG J Γ vs FG g) (hx : Gx J Γ) : SemS J Γ Γ (asgG FG Fe) (tAsg te g) := fun {G0 H0 G H ρ σ D} w p =>
  h w ((p.bind w hx).imp (fun d _ q v G1 H1 P e f o => by
    cases o with
    | F o =>
      cases z : FG d ρ with
      | none => rw [z] at q; cases q
      | some ρ' =>
        rw [z] at q
        exact hg (w.ext e) o z fun σ' _ w' => q.of_nx σ' G1 H1 e.g w') fun _ q => q)
def dropS (Fe : Ev → Rs Dt) (ρ : Ev) : Ot := bindS (Fe ρ) ρ fun _ => .nx ρ
def retS (Fe : Ev → Rs Dt) (ρ : Ev) : Ot := bindS (Fe ρ) ρ fun d => .rt d
theorem ss_ret (h : SemE J Γ (.o J.mr) Fe te) (hx : Gx J Γ) (hln : J.ln = [] := by rfl) : SemS J Γ Γ' (retS Fe) (tRet te) := fun {G0 H0 G H ρ σ D} w p =>
  h w ((p.bind w hx).imp (fun d _ q v G1 H1 P e f o => q.of_rt v G1 H1 P (w.x.trans e) (fun b hb => ⟨(f b hb).1, w.x.h.free (f b hb).2.1, (f b hb).2.2⟩) (.of hln o)) fun _ q => q)
def retN (_ : Ev) : Ot := .rt .non
def ifS (Ft : Ev → Rs Bool) (F1 F2 : Ev → Ot) (ρ : Ev) : Ot := bindS (Ft ρ) ρ fun b => if b = true then F1 ρ else F2 ρ
theorem ss_if {Ft : Ev → Rs Bool} {tt : TT} (h : SemT J Γ Ft tt) (k : SemS J Γ Γ' F1 t1) (l : SemS J Γ Γ' F2 t2) (hx : Gx J Γ) : SemS J Γ Γ' (ifS Ft F1 F2) (tIfS tt t1 t2) := fun {G0 H0 G H ρ σ D} w p =>
  h w ((p.bind w hx).imp (fun b _ q G1 H1 e => by
    cases b with
    | true => exact k (w.ext e) (PostS.up e.g q)
    | false => exact l (w.ext e) (PostS.up e.g q)) fun _ q => q)
def brkS (ρ : Ev) : Ot := .bk ρ
def cntS (ρ : Ev) : Ot := .ct ρ
def raiS (c : Str) (ρ : Ev) : Ot := .ex (c, none) ρ
theorem ss_rai {c : Str} (hx : Gx J Γ) : SemS J Γ Γ' (raiS c) (fun _ σ H => J.W (.ref (J.ca c)) none σ H) := fun {G0 H0 G H ρ σ D} w p => exS w hx p H none (Same.refl _) rfl
/-! ### for -/
def forL (FG : Dt → Ev → Option Ev) (Fb : Ev → Ot) : List Dt → Ev → Ot
  | [], ρ => .nx ρ
  | d :: ds, ρ => match FG d ρ with
    | none => .no
    | some ρ1 => match Fb ρ1 with
      | .nx ρ2 => forL FG Fb ds ρ2
      | .ct ρ2 => forL FG Fb ds ρ2
      | .bk ρ2 => .nx ρ2
      | o => o
def forS (Fi : Ev → Rs (List Dt)) (FG : Dt → Ev → Option Ev) (Fb : Ev → Ot) (ρ : Ev) : Ot := bindS (Fi ρ) ρ fun ds => forL FG Fb ds ρ
abbrev Jc.lp (J : Jc) (Γ : List Mode) : Jc := { J with gb := Γ }
theorem Wd.lp {Γb : List Mode} (w : Wd J G0 H0 Γ ρ σ G H) : Wd (J.lp Γb) G0 H0 Γ ρ σ G H := ⟨w.x, w.lg, w.lr, w.env, w.pn, w.xk⟩
theorem Wd.unlp {Γb : List Mode} (w : Wd (J.lp Γb) G0 H0 Γ ρ σ G H) : Wd J G0 H0 Γ ρ σ G H := ⟨w.x, w.lg, w.lr, w.env, w.pn, w.xk⟩
theorem ss_for {Fi : Ev → Rs (List Dt)} {wi : TI} {FG : Dt → Ev → Option Ev} {g : TG} (hi : SemI J Γ Fi wi) (hg : SemG (J.lp Γ) Γ vs FG g) (hb : SemS (J.lp Γ) Γ Γ F ts) (hx : Gx J Γ) : SemS J Γ Γ (forS Fi FG F) (tFor wi g ts) := fun {G0 H0 G H ρ σ D} w p => by
  refine hi w ((p.bind w hx).imp (fun ds _ q it G1 H1 e1 wk => ?_) fun _ q => q)
  refine ⟨fun i n σ' Hi => n = ds.length - i ∧ i ≤ ds.length ∧ ∃ G' ρ', Wd J G0 H0 Γ ρ' σ' G' Hi ∧ Same G1 G' ∧ PostS J G0 H0 G' Γ D (forL FG F (ds.drop i) ρ'), ⟨ds.length, by simp, Nat.zero_le _, G1, ρ, w.ext e1, Same.refl _, by simpa using PostS.up e1.g q⟩, ?_⟩
  rintro i n σ' Hi ⟨rfl, hi', G', ρ', w', sg, q'⟩
  by_cases hlt : i < ds.length
  case neg =>
    have ei : i = ds.length := by omega
    subst ei
    rw [List.drop_length] at q'
    exact .inl ⟨wk.stop G' Hi sg w'.gh, PostS.of_nx q' σ' G' Hi (Same.refl _) w'⟩
  obtain ⟨go, step⟩ := wk.go i ds[i] G' Hi (by simp [hlt]) sg w'.gh
  have hdrop : ds.drop i = ds[i] :: ds.drop (i + 1) := List.drop_eq_getElem_cons hlt
  rw [hdrop] at q'
  have q' : PostS J G0 H0 G' Γ D (match FG ds[i] ρ' with
    | none => .no
    | some ρ1 => match F ρ1 with
      | .nx ρ2 => forL FG F (ds.drop (i + 1)) ρ2
      | .ct ρ2 => forL FG F (ds.drop (i + 1)) ρ2
      | .bk ρ2 => .nx ρ2
      | o => o) := q'
  refine .inr ⟨go, fun σ2 H2 => ∃ m', m' < ds.length - i ∧ (m' = ds.length - (i + 1) ∧ i + 1 ≤ ds.length ∧ ∃ G' ρ', Wd J G0 H0 Γ ρ' σ2 G' H2 ∧ Same G1 G' ∧ PostS J G0 H0 G' Γ D (forL FG F (ds.drop (i + 1)) ρ')), fun σ2 H2 z => z, fun x H3 y => ?_⟩
  obtain ⟨G3, e3, rx⟩ := step x H3 y
  cases hF : FG ds[i] ρ' with
  | none => rw [hF] at q'; cases q'
  | some ρ1 =>
  rw [hF] at q'
  refine hg (w'.ext e3).lp rx hF fun σ2 _ w4 => ?_
  refine hb w4 ?_
  have q' : PostS J G0 H0 G' Γ D (match F ρ1 with
      | .nx ρ2 => forL FG F (ds.drop (i + 1)) ρ2
      | .ct ρ2 => forL FG F (ds.drop (i + 1)) ρ2
      | .bk ρ2 => .nx ρ2
      | o => o) := q'
  have q' := q'.up e3.g
  have nxt : ∀ ρ2, PostS J G0 H0 G3 Γ D (forL FG F (ds.drop (i + 1)) ρ2) → ∀ σ5 G5 H5, Same G3 G5 → Wd (J.lp Γ) G0 H0 Γ ρ2 σ5 G5 H5 → ∃ m', m' < ds.length - i ∧ (m' = ds.length - (i + 1) ∧ i + 1 ≤ ds.length ∧ ∃ G' ρ', Wd J G0 H0 Γ ρ' σ5 G' H5 ∧ Same G1 G' ∧ PostS J G0 H0 G' Γ D (forL FG F (ds.drop (i + 1)) ρ')) := fun ρ2 p σ5 G5 H5 s5 w5 =>
    ⟨ds.length - (i + 1), by omega, rfl, hlt, G5, ρ2, w5.unlp, (sg.trans e3.g).trans s5, p.up s5⟩
  cases hB : F ρ1 with
  | nx r =>
    rw [hB] at q'
    exact .nx (nxt r q')
  | rt d =>
    rw [hB] at q'
    cases q' with
    | rt p => exact .rt p
  | bk r =>
    rw [hB] at q'
    exact .bk fun σ5 G5 H5 s5 w5 => PostS.of_nx q' σ5 G5 H5 s5 w5.unlp
  | ct r =>
    rw [hB] at q'
    exact .ct (nxt r q')
  | ex c r =>
    rw [hB] at q'
    cases q' with
    | ex p => exact .ex fun dx σ5 H5 s5 x5 k5 => p dx σ5 H5 s5 x5 fun Γ1 z => (k5 Γ1 z).imp fun _ w5 => ⟨w5.1, w5.2.unlp⟩
  | no => rw [hB] at q'; cases q'
/-! ### while -/
def whlL (Ft : Ev → Rs Bool) (Fb : Ev → Ot) : Nat → Ev → Ot
  | 0, _ => .no
  | n + 1, ρ => bindS (Ft ρ) ρ fun b => if b = true then (match Fb ρ with
    | .nx ρ2 => whlL Ft Fb n ρ2
    | .ct ρ2 => whlL Ft Fb n ρ2
    | .bk ρ2 => .nx ρ2
    | o => o) else .nx ρ
end
end Pm
namespace Pm
open PySem PySem.Spec PyProof.Rows L2
open Classical
/-! ### places: an owned part of a name -/
structure EnvR (J : Jc) (H0 : Hp) (Γ : List Mode) (ρ : Ev) (σ : L2.St) (G H : Hp) : Prop where
  lg : Γ.length = ρ.length
  lr : ρ.length = σ.length
  env : ∃ Pf : Nat → Addr → Prop, (∀ i j a, i ≠ j → Pf i a → ¬ Pf j a) ∧ (∀ i a, Pf i a → G a = none ∧ H0 a = none ∧ H a ≠ none) ∧
    ∀ i d, ρ[i]? = some (some d) → ∃ v m, σ[i]? = some (some v) ∧ Γ[i]? = some m ∧ Ow J.K J.ca G H m d v (Pf i)
/-- the part stands at v, is d, owns P; what takes its place is put by put -/
structure Foc (J : Jc) (H0 : Hp) (Γ : List Mode) (σ : L2.St) (G H : Hp) (m : Mode) (d : Dt) (v : V) (put : Dt → Ev) : Prop where
  ex : ∃ P : Addr → Prop, Ow J.K J.ca G H m d v P ∧ (∀ b, P b → G b = none ∧ H0 b = none ∧ H b ≠ none) ∧
    ∀ G2 H2 d2 P2, Same G G2 → (∀ b, H b ≠ none → ¬ P b → H2 b = H b ∧ G2 b = G b) → Ow J.K J.ca G2 H2 m d2 v P2 → (∀ b, P2 b → (P b ∨ H b = none) ∧ G2 b = none ∧ H0 b = none ∧ H2 b ≠ none) → EnvR J H0 Γ (put d2) σ G2 H2
def SemP (J : Jc) (Γ : List Mode) (F : Ev → Rs (Dt × (Dt → Ev))) (m : Mode) (te : TE) : Prop := ∀ ⦃G0 H0 G H : Hp⦄ ⦃ρ : Ev⦄ ⦃σ : L2.St⦄ ⦃Q : VK⦄, Wd J G0 H0 Γ ρ σ G H →
  Rs.Post (fun x => ∀ v G' H', Ext G H G' H' → Foc J H0 Γ σ G' H' m x.1 v x.2 → Q v H') (fun c => ∀ H' dx, Same H H' → XR c dx H' → J.W (.ref (J.ca c.1)) dx σ H') (F ρ) → te σ H Q
section
variable {J : Jc} {Γ Γ' Γ1 Γ2 : List Mode} {em : EM} {m : Mode} {ms : List Mode} {Fe Fa Fb : Ev → Rs Dt} {Fs : List (Ev → Rs Dt)} {te ta tb : TE} {tr : TA} {G0 H0 Gs G H G' H' : Hp} {ρ : Ev} {σ : L2.St} {vs : List Nat}
  {F F1 F2 : Ev → Ot} {ts t1 t2 : TS} {D : Ends} {d : Dt} {v : V} {put : Dt → Ev}
theorem Foc.ext (f : Foc J H0 Γ σ G H m d v put) (e : Ext G H G' H') : Foc J H0 Γ σ G' H' m d v put := by
  obtain ⟨P, o, r, k⟩ := f.ex
  refine ⟨P, o.carry e.g fun b hb => ⟨e.h.at (r b hb).2.2, by rw [e.base b (r b hb).2.2]; exact (r b hb).1⟩, fun b hb => ⟨by rw [e.base b (r b hb).2.2]; exact (r b hb).1, (r b hb).2.1, e.h.nn (r b hb).2.2⟩, fun G2 H2 d2 P2 sg h1 o2 h2 => ?_⟩
  refine k G2 H2 d2 P2 (e.g.trans sg) (fun b hb hn => ?_) o2 fun b hb => ?_
  · obtain ⟨a1, a2⟩ := h1 b (e.h.nn hb) hn
    exact ⟨a1.trans (e.h.at hb), a2.trans (e.base b hb)⟩
  · obtain ⟨a1, a2⟩ := h2 b hb
    exact ⟨a1.imp id fun z => e.h.free z, a2⟩
def varP (i : Nat) (ρ : Ev) : Rs (Dt × (Dt → Ev)) := match ρ[i]? with
  | some (some d) => .ok (d, fun x => ρ.set i (some x))
  | _ => .no
theorem sp_var {i : Nat} (hm : Γ[i]? = some m) : SemP J Γ (varP i) m (tVar i) := fun {G0 H0 G H ρ σ Q} w p => by
  unfold varP at p
  cases hq : ρ[i]? with
  | none => rw [hq] at p; cases p
  | some o =>
  cases o with
  | none => rw [hq] at p; cases p
  | some d =>
  rw [hq] at p
  obtain ⟨Pf, h1, h2, h3⟩ := w.env
  obtain ⟨v, m', s1, s2, s3⟩ := h3 i d hq
  rw [hm] at s2
  cases s2
  refine ⟨v, s1, p.of_ok v G H (Ext.refl w.gh) ⟨Pf i, s3, h2 i, fun G2 H2 d2 P2 sg k1 o2 k2 => ?_⟩⟩
  have hl : i < ρ.length := (List.getElem?_eq_some_iff.mp hq).1
  refine ⟨by rw [List.length_set]; exact w.lg, by rw [List.length_set]; exact w.lr, fun j => if j = i then P2 else Pf j, fun j k a q r s => ?_, fun j a q => ?_, fun j c q => ?_⟩
  · by_cases hj : j = i
    · by_cases hk : k = i
      · exact q (hj.trans hk.symm)
      · simp only [hj, if_true] at r
        simp only [hk, if_false] at s
        rcases (k2 a r).1 with z | z
        · exact h1 k i a hk s z
        · exact (h2 k a s).2.2 z
    · simp only [hj, if_false] at r
      by_cases hk : k = i
      · simp only [hk, if_true] at s
        rcases (k2 a s).1 with z | z
        · exact h1 j i a hj r z
        · exact (h2 j a r).2.2 z
      · simp only [hk, if_false] at s
        exact h1 j k a q r s
  · by_cases hj : j = i
    · simp only [hj, if_true] at q
      exact (k2 a q).2
    · simp only [hj, if_false] at q
      obtain ⟨a1, a2, a3⟩ := h2 j a q
      obtain ⟨b1, b2⟩ := k1 a a3 (h1 j i a hj q)
      exact ⟨by rw [b2]; exact a1, a2, by rw [b1]; exact a3⟩
  · by_cases hj : j = i
    · subst hj
      rw [List.getElem?_set_self hl] at q
      have hd : d2 = c := by simpa using q
      subst hd
      refine ⟨v, m, s1, hm, ?_⟩
      simp only [if_true]
      exact o2
    · rw [List.getElem?_set_ne (Ne.symm hj)] at q
      obtain ⟨v2, m2, t1, t2, t3⟩ := h3 j c q
      refine ⟨v2, m2, t1, t2, ?_⟩
      simp only [hj, if_false]
      refine t3.carry sg fun b hb => ?_
      obtain ⟨a1, a2, a3⟩ := h2 j b hb
      obtain ⟨b1, b2⟩ := k1 b a3 (h1 j i b hj hb)
      exact ⟨b1, by rw [b2]; exact a1⟩
/-- into the parts of an owned row of parts -/
theorem Ows.focus {K : PySem.W.Frag} {ca : Str → Addr} : ∀ {ds : List Dt} {ms : List Mode} {us : List V} {P : Addr → Prop} {k : Nat} {m : Mode} {d : Dt}, Ows K ca G H ms ds us P → ms[k]? = some m → ds[k]? = some d →
    ∃ v Pk, us[k]? = some v ∧ Ow K ca G H m d v Pk ∧ (∀ b, Pk b → P b) ∧ ∀ G2 H2 d2 P2, Same G G2 → (∀ b, P b → ¬ Pk b → H2 b = H b ∧ G2 b = none) → Ow K ca G2 H2 m d2 v P2 → (∀ b, P2 b → Pk b ∨ ¬ P b) → Ows K ca G2 H2 ms (ds.set k d2) us (fun b => (P b ∧ ¬ Pk b) ∨ P2 b)
  | [], ms, us, P, k, m, d, h, hm, hd => by simp at hd
  | x :: ds, ms, us, P, 0, m, d, h, hm, hd => by
    cases h with
    | @cons m' ms _ _ v us _ P1 P2 h1 h2 q1 q2 q3 =>
      have e1 : m' = m := by simpa using hm
      have e2 : x = d := by simpa using hd
      subst e1 e2
      refine ⟨v, P1, rfl, h1, q1, fun G2 H2 d2 P2' sg c o c2 => ?_⟩
      refine .cons (P1 := P2') (P2 := fun b => P2 b) o (h2.carry sg fun b hb => c b (q2 b hb) fun z => q3 b z hb) (fun b hb => .inr hb) (fun b hb => .inl ⟨q2 b hb, fun z => q3 b z hb⟩) fun b hb z => ?_
      rcases c2 b hb with y | y
      · exact q3 b y z
      · exact y (q2 b z)
  | x :: ds, ms, us, P, k + 1, m, d, h, hm, hd => by
    cases h with
    | @cons m' ms _ _ v us _ P1 P2 h1 h2 q1 q2 q3 =>
      obtain ⟨w, Pk, e1, e2, e3, e4⟩ := Ows.focus (k := k) h2 (by simpa using hm) (by simpa using hd)
      refine ⟨w, Pk, by simpa using e1, e2, fun b hb => q2 b (e3 b hb), fun G2 H2 d2 P2' sg c o c2 => ?_⟩
      have r := e4 G2 H2 d2 (fun b => P2' b) sg (fun b hb hn => c b (q2 b hb) hn) o (fun b hb => (c2 b hb).imp id fun z y => z (q2 b y))
      rw [List.set_cons_succ]
      refine .cons (P1 := P1) (P2 := fun b => (P2 b ∧ ¬ Pk b) ∨ P2' b) (h1.carry sg fun b hb => c b (q1 b hb) fun z => q3 b hb (e3 b z)) r (fun b hb => .inl ⟨q1 b hb, fun z => q3 b hb (e3 b z)⟩) (fun b hb => hb.imp (fun z => ⟨q2 b z.1, z.2⟩) id) fun b hb z => ?_
      rcases z with z | z
      · exact q3 b hb z.1
      · rcases c2 b z with y | y
        · exact q3 b hb (e3 b y)
        · exact y (q1 b hb)
def ixP (Fp : Ev → Rs (Dt × (Dt → Ev))) (Fi : Ev → Rs Dt) (ρ : Ev) : Rs (Dt × (Dt → Ev)) := Fp ρ >>= fun x => Fi ρ >>= fun k => match x.1, k with
  | .lst ds, .int i => (match ixN ds.length i with
    | some j => (match ds[j]? with
      | some e => .ok (e, fun y => x.2 (.lst (ds.set j y)))
      | none => .no)
    | none => .no)
  | _, _ => .no
variable {Fp : Ev → Rs (Dt × (Dt → Ev))}
theorem Foc.item {ds : List Dt} {j : Nat} {e : Dt} (f : Foc J H0 Γ σ G H (.L m) (.lst ds) v put) (hj : ds[j]? = some e) : ∃ a us u, v = .ref a ∧ H a = some (.lst us) ∧ us[j]? = some u ∧ ds.length = us.length ∧ Foc J H0 Γ σ G H m e u (fun y => put (.lst (ds.set j y))) := by
  obtain ⟨P, o, r, k⟩ := f.ex
  cases o with
  | @L _ a us _ _ h1 h2 h3 h4 =>
    obtain ⟨u, Pk, q1, q2, q3, q4⟩ := h4.focus (k := j) (m := m) (by
      rw [List.getElem?_replicate, if_pos (List.getElem?_eq_some_iff.mp hj).1]) hj
    refine ⟨a, us, u, rfl, h1, q1, h4.len.1, Pk, q2, fun b hb => r b (q3 b hb).1, fun G2 H2 d2 P2 sg c o2 c2 => ?_⟩
    have ha : ¬ Pk a := fun z => (q3 a z).2 rfl
    have hna : H a ≠ none := by rw [h1]; exact fun z => by cases z
    have p2a : ∀ b, P2 b → b ≠ a := fun b hb z => by
      rcases (c2 b hb).1 with y | y
      · exact ha (z ▸ y)
      · exact hna (z ▸ y)
    have rest := q4 G2 H2 d2 P2 sg (fun b hb hn => ⟨(c b (r b hb.1).2.2 hn).1, by rw [(c b (r b hb.1).2.2 hn).2]; exact (r b hb.1).1⟩) o2 fun b hb => (c2 b hb).1.imp id fun z y => (r b y.1).2.2 z
    refine k G2 H2 (.lst (ds.set j d2)) (fun b => (P b ∧ ¬ Pk b) ∨ P2 b) sg (fun b hb hn => c b hb fun z => hn (q3 b z).1) (.L (by rw [(c a hna ha).1]; exact h1) (by rw [(c a hna ha).2]; exact h2) (.inl ⟨h3, ha⟩) ?_) fun b hb => ?_
    · rw [List.length_set]
      refine rest.weaken fun b hb => ?_
      rcases hb with ⟨⟨z1, z2⟩, z3⟩ | z
      · exact ⟨.inl ⟨z1, z3⟩, z2⟩
      · exact ⟨.inr z, p2a b z⟩
    · rcases hb with ⟨z1, z2⟩ | z
      · obtain ⟨a1, a2, a3⟩ := r b z1
        obtain ⟨b1, b2⟩ := c b a3 z2
        exact ⟨.inl z1, by rw [b2]; exact a1, a2, by rw [b1]; exact a3⟩
      · exact ⟨(c2 b z).1.imp (fun y => (q3 b y).1) id, (c2 b z).2⟩
/-- an owned list is changed -/
theorem Foc.chg {ds : List Dt} (f : Foc J H0 Γ σ G H (.L m) (.lst ds) v put) (w : Wd J G0 H0 Γ ρ σ G H) (e : Ext G H G' H') : ∃ a us Pin, v = .ref a ∧ H' a = some (.lst us) ∧ Ows J.K J.ca G' H' (List.replicate ds.length m) ds us Pin ∧ (∀ b, Pin b → H b ≠ none ∧ b ≠ a ∧ G' b = none ∧ H' b ≠ none) ∧
    ∀ ds' us' Px, Ows J.K J.ca G' H' (List.replicate ds'.length m) ds' us' Px → (∀ b, Px b → b ≠ a ∧ (Pin b ∨ (H b = none ∧ G' b = none ∧ H' b ≠ none))) → Wd J G0 H0 Γ (put (.lst ds')) σ G' (upd H' a (.lst us')) := by
  obtain ⟨P, o, r, k⟩ := f.ex
  cases o with
  | @L _ a us _ _ h1 h2 h3 h4 =>
    have hna : H a ≠ none := by rw [h1]; exact fun z => by cases z
    have gpa : G' a = none := by rw [e.base a hna]; exact h2
    have c4 : Ows J.K J.ca G' H' (List.replicate ds.length m) ds us (fun b => P b ∧ b ≠ a) := h4.carry e.g fun b hb => ⟨e.h.at (r b hb.1).2.2, by rw [e.base b (r b hb.1).2.2]; exact (r b hb.1).1⟩
    refine ⟨a, us, fun b => P b ∧ b ≠ a, rfl, e.h _ _ h1, c4, fun b hb => ⟨(r b hb.1).2.2, hb.2, by rw [e.base b (r b hb.1).2.2]; exact (r b hb.1).1, e.h.nn (r b hb.1).2.2⟩, fun ds' us' Px o' c => ?_⟩
    have reg : ∀ b, (b = a ∨ Px b) → (P b ∨ H b = none) ∧ G' b = none ∧ H0 b = none ∧ (upd H' a (.lst us')) b ≠ none := fun b hb => by
      by_cases z : b = a
      · subst z
        exact ⟨.inl h3, gpa, (r b h3).2.1, by rw [upd_same]; exact fun z => by cases z⟩
      · rcases hb with hb | hb
        · exact absurd hb z
        · rw [upd_ne z]
          rcases (c b hb).2 with y | ⟨y1, y2, y3⟩
          · exact ⟨.inl y.1, by rw [e.base b (r b y.1).2.2]; exact (r b y.1).1, (r b y.1).2.1, e.h.nn (r b y.1).2.2⟩
          · exact ⟨.inr y1, y2, w.x.h.free y1, y3⟩
    have en := k G' (upd H' a (.lst us')) (.lst ds') (fun b => b = a ∨ Px b) e.g (fun b hb hn => ⟨by rw [upd_ne fun z => hn (by rw [z]; exact h3)]; exact e.h.at hb, e.base b hb⟩) (.L upd_same gpa (.inl rfl) ((o'.carry (Same.refl _) fun b hb => ⟨upd_ne (c b hb).1, ?_⟩).weaken fun b hb => ⟨.inr hb, (c b hb).1⟩)) reg
    · exact ⟨(w.x.trans e).mut (r a h3).2.1 gpa, en.lg, en.lr, en.env, w.pn, w.xk⟩
    · rcases (c b hb).2 with y | ⟨y1, y2, y3⟩
      · rw [e.base b (r b y.1).2.2]; exact (r b y.1).1
      · exact y2
/-! ### statements that change a list -/
def lstOf (d : Dt) : Rs (List Dt) := match d with
  | .lst ds => .ok ds
  | _ => .no
/-- P.append(e) -/
def appS (Fp : Ev → Rs (Dt × (Dt → Ev))) (Fe : Ev → Rs Dt) (ρ : Ev) : Ot := bindS (Fp ρ) ρ fun x => match x.1 with
  | .lst ds => bindS (Fe ρ) ρ fun y => if lenSz ds.length = true then .nx (x.2 (.lst (ds ++ [y]))) else .no
  | _ => .no
theorem lenSz_lt {n : Nat} (h : lenSz n = true) : n < sizeLine := Nat.lt_of_le_of_lt (lenSz_le h) (by decide)
theorem ss_app (h : SemP J Γ Fp (.L m) te) (k : SemE J Γ (.o m) Fe ta) (hx : Gx J Γ) : SemS J Γ Γ (appS Fp Fe) (tDrop (tBM J.K "list" rAppend te (tCons ta tNil))) := fun {G0 H0 G H ρ σ D} w p => by
  refine h w ((PostS.bind w hx p).imp (fun x _ q v G1 H1 e1 f1 => ?_) fun _ q => q)
  obtain ⟨xd, xp⟩ := x
  have w1 := w.ext e1
  cases xd with
  | lst ds =>
    have q : PostS J G0 H0 G1 Γ D (bindS (Fe ρ) ρ fun y => if lenSz ds.length = true then .nx (xp (.lst (ds ++ [y]))) else .no) := q.up e1.g
    obtain ⟨a, us, Pin, rfl, hu, _⟩ := f1.chg w1 (Ext.refl w1.gh)
    refine ⟨.inl ⟨rfl, us, .of hu⟩, ?_⟩
    refine k w1 ((PostS.bind w1 hx q).imp (fun y _ q y' G2 H2 P2 e2 f2 o2 => ?_) fun _ q => q)
    obtain ⟨a', us', Pin', ea, hu', own, pr, fin⟩ := f1.chg w1 e2
    cases ea
    have q : PostS J G0 H0 G1 Γ D (if lenSz ds.length = true then .nx (xp (.lst (ds ++ [y]))) else .no) := q
    by_cases c : lenSz ds.length = true
    case neg => rw [if_neg c] at q; cases q
    rw [if_pos c] at q
    refine ⟨a, us', y', rfl, rfl, hu', by rw [← own.len.1]; exact lenSz_lt c, ?_⟩
    refine q.of_nx σ G2 _ e2.g (fin (ds ++ [y]) (us' ++ [y']) (fun b => Pin' b ∨ P2 b) ?_ fun b hb => ?_)
    · rw [List.length_append, List.length_singleton, List.replicate_succ']
      refine Ows.append (P1 := Pin') (P2 := P2) own (.cons (P1 := P2) (P2 := Pno) o2 .nil (fun _ z => z) (fun _ z => z.elim) (fun _ _ z => z)) (fun _ => .inl) (fun _ => .inr) fun b h1 h2 => ?_
      exact (pr b h1).1 (f2 b h2).2.1
    · rcases hb with hb | hb
      · exact ⟨(pr b hb).2.1, .inl hb⟩
      · refine ⟨fun z => ?_, .inr ⟨(f2 b hb).2.1, (f2 b hb).1, (f2 b hb).2.2⟩⟩
        have := (f2 b hb).2.1
        rw [z] at this
        exact absurd (e1.h.free this) (by
          intro _
          rw [hu] at this
          cases this)
  | _ => cases q
end
end Pm
namespace Pm
open PySem PySem.Spec PyProof.Rows L2
open Classical
/-! ### P[e] = v, v frozen -/
def setS (Fe : Ev → Rs Dt) (Fp : Ev → Rs (Dt × (Dt → Ev))) (Fi : Ev → Rs Dt) (ρ : Ev) : Ot := bindS (Fe ρ) ρ fun y => bindS (Fp ρ) ρ fun x => bindS (Fi ρ) ρ fun k => match x.1, k with
  | .lst ds, .int i => (match ixN ds.length i with
    | some j => .nx (x.2 (.lst (ds.set j y)))
    | none => .no)
  | _, _ => .no
section
variable {J : Jc} {Γ Γ' Γ1 Γ2 : List Mode} {em : EM} {m : Mode} {ms : List Mode} {Fe Fa Fb Fi : Ev → Rs Dt} {Fs : List (Ev → Rs Dt)} {te ta tb ti : TE} {tr : TA} {G0 H0 Gs G H G' H' : Hp} {ρ : Ev} {σ : L2.St} {vs : List Nat}
  {F F1 F2 : Ev → Ot} {ts t1 t2 : TS} {D : Ends} {d : Dt} {v : V} {put : Dt → Ev} {Fp : Ev → Rs (Dt × (Dt → Ev))}
theorem Rps.set {K : PySem.W.Frag} {ca : Str → Addr} : ∀ {ds : List Dt} {us : List V} {j : Nat} {d : Dt} {v : V}, Rps K ca H ds us → Rp K ca H d v → Rps K ca H (ds.set j d) (us.set j v)
  | [], _, j, _, _, h, _ => by cases h; exact .nil
  | x :: ds, _, 0, d, v, h, r => by
    cases h with
    | cons h1 h2 => exact .cons r h2
  | x :: ds, _, j + 1, d, v, h, r => by
    cases h with
    | cons h1 h2 => exact .cons h1 (Rps.set h2 r)
theorem ss_set (h : SemE J Γ (.o .F) Fe te) (k : SemP J Γ Fp (.L .F) ta) (l : SemE J Γ .B Fi ti) (hx : Gx J Γ) : SemS J Γ Γ (setS Fe Fp Fi) (tAsg te (gSub ta ti rSetL)) := fun {G0 H0 G H ρ σ D} w p => by
  refine h w ((PostS.bind w hx p).imp (fun y _ q v G1 H1 _ e1 _ o1 => ?_) fun _ q => q)
  have w1 := w.ext e1
  refine k w1 ((PostS.bind w1 hx (PostS.up e1.g q)).imp (fun x _ q v2 G2 H2 e2 f2 => ?_) fun _ q => q)
  have w2 := w1.ext e2
  refine l w2 ((PostS.bind w2 hx (PostS.up e2.g q)).imp (fun i _ q v3 G3 H3 _ e3 _ o3 => ?_) fun _ q => q)
  obtain ⟨xd, xp⟩ := x
  cases o1 with
  | F o1 =>
  cases o3 with
  | int i =>
    cases xd with
    | lst ds =>
      have q : PostS J G0 H0 G2 Γ D (match ixN ds.length i with
        | some j => .nx (xp (.lst (ds.set j y)))
        | none => .no) := q
      cases hj : ixN ds.length i with
      | none => rw [hj] at q; cases q
      | some j =>
        rw [hj] at q
        obtain ⟨a, us, Pin, rfl, hu, own, pr, fin⟩ := f2.chg w2 e3
        refine ⟨a, us, i, j, rfl, rfl, hu, by rw [← own.len.1]; exact hj, ?_⟩
        exact q.of_nx σ G3 _ e3.g (fin (ds.set j y) (us.set j v) Pno (Rps.own ((own.frozen).set (o1.mono (e2.g.trans e3.g)))) fun b z => z.elim)
    | _ => cases q
  | _ => cases xd <;> cases q
/-! ### fields -/
def fix (f : Str) : List Str → Option Nat
  | [] => none
  | g :: r => if f = g then some 0 else (fix f r).map (· + 1)
theorem fix_lookup {f : Str} : ∀ {ns : List Str} {us : List V} {j : Nat} {u : V}, fix f ns = some j → us[j]? = some u → (ns.zip us).lookup f = some u
  | [], _, _, _, h, _ => by cases h
  | g :: r, [], j, u, h, e => by simp at e
  | g :: r, x :: us, j, u, h, e => by
    unfold fix at h
    show (match f == g with | true => some x | false => (r.zip us).lookup f) = some u
    by_cases q : f = g
    · rw [if_pos q] at h
      cases h
      rw [show (f == g) = true from beq_iff_eq.mpr q]
      simpa using e
    · rw [if_neg q] at h
      cases z : fix f r with
      | none => rw [z] at h; cases h
      | some i =>
        rw [z] at h
        cases h
        rw [show (f == g) = false from beq_eq_false_iff_ne.mpr q]
        exact fix_lookup z (by simpa using e)
theorem fix_putN {f : Str} {y : V} : ∀ {ns : List Str} {us : List V}, ns.length = us.length → fix f ns = none → putF f y (ns.zip us) = (ns ++ [f]).zip (us ++ [y])
  | [], [], _, _ => rfl
  | g :: r, x :: us, hl, h => by
    unfold fix at h
    by_cases q : f = g
    · rw [if_pos q] at h; cases h
    · rw [if_neg q] at h
      cases z : fix f r with
      | some i => rw [z] at h; cases h
      | none =>
        show (if g = f then (g, y) :: r.zip us else (g, x) :: putF f y (r.zip us)) = _
        rw [if_neg fun e => q e.symm, fix_putN (by simpa using hl) z]
        rfl
def fldD (C f : Str) (d : Dt) : Rs Dt := match d with
  | .ins C' ns ds => if C' = C then (match fix f ns with
    | some j => (match ds[j]? with | some e => .ok e | none => .no)
    | none => .no) else .no
  | _ => .no
def fldE (C f : Str) := op1E (fldD C f)
theorem fld_run {K : PySem.W.Frag} {ca : Str → Addr} {C f : Str} {d e : Dt} {v : V} (r : Rp K ca H d v) (q : fldD C f d = .ok e) : ∃ a dx fs u, v = .ref a ∧ H a = some (.ins (ca C) dx fs) ∧ fs.lookup f = some u ∧ Rp K ca H e u := by
  cases r with
  | @ins C' a dx ns us ds h1 h2 h3 =>
    replace q : (if C' = C then (match fix f ns with
      | some j => (match ds[j]? with | some e => Rs.ok e | none => .no)
      | none => .no) else .no) = .ok e := q
    split at q
    · rename_i hC
      subst hC
      cases z : fix f ns with
      | none => rw [z] at q; cases q
      | some j =>
        rw [z] at q
        cases z2 : ds[j]? with
        | none => simp only [z2] at q; cases q
        | some e' =>
          simp only [z2] at q
          cases q
          obtain ⟨u, hu, ru⟩ := h3.get z2
          exact ⟨a, dx, _, u, rfl, h1, fix_lookup z hu, ru⟩
    · cases q
  | _ => cases q
theorem nx_fld {C f : Str} : ∀ a c, fldD C f a ≠ .ex c := by
  intro a c
  unfold fldD
  split
  · split
    · split
      · split <;> intro q <;> cases q
      · intro q; cases q
    · intro q; cases q
  · intro q; cases q
theorem se_fld {C f : Str} (cl : Cls J.K (J.ca C)) (na : NoAttr J.K (J.ca C) f) (h : SemE J Γ (.o .F) Fe te) : SemE J Γ (.o .F) (fldE C f Fe) (tFld J.K te f) := fun {G0 H0 G H ρ σ Q} w p => by
  refine h w (p.bind.imp (fun d _ q v G1 H1 _ e1 _ r1 => ?_) fun _ q => q)
  cases r1 with
  | F r1 =>
    cases z : fldD C f d with
    | ok e =>
      rw [z] at q
      obtain ⟨a, dx, fs, u, rfl, h1, h2, h3⟩ := fld_run r1 z
      exact ⟨a, J.ca C, dx, fs, u, rfl, e1.gh _ _ h1, cl, na, h2, q.of_ok u G1 H1 Pno e1 Fr.no (.F h3)⟩
    | ex c => exact absurd z (nx_fld d c)
    | no => rw [z] at q; cases q
/-- a field of the owned self: a frozen one -/
def fldID (C f : Str) (j : Nat) (d : Dt) : Rs Dt := match d with
  | .ins C' ns ds => if C' = C then (if fix f ns = some j then (match ds[j]? with | some e => .ok e | none => .no) else .no) else .no
  | _ => .no
def fldIE (C f : Str) (j i : Nat) (ρ : Ev) : Rs Dt := varE i ρ >>= fldID C f j
theorem Ows.at {K : PySem.W.Frag} {ca : Str → Addr} {ds : List Dt} {us : List V} {P : Addr → Prop} {k : Nat} (h : Ows K ca G H ms ds us P) (hm : ms[k]? = some m) (hd : ds[k]? = some d) : ∃ v Pk, us[k]? = some v ∧ Ow K ca G H m d v Pk := by
  obtain ⟨v, Pk, a, b, _⟩ := h.focus hm hd
  exact ⟨v, Pk, a, b⟩
/-- self.f = e, a new field of the owned self (slot i) -/
def newF0 (f : Str) (i : Nat) (Fe : Ev → Rs Dt) (ρ : Ev) : Ot := bindS (Fe ρ) ρ fun y => bindS (varE i ρ) ρ fun d => match d with
  | .ins C ns ds => if fix f ns = none ∧ ns.length < 100 then .nx (ρ.set i (some (.ins C (ns ++ [f]) (ds ++ [y])))) else .no
  | _ => .no
def newF (C f : Str) (i : Nat) (Fe : Ev → Rs Dt) (ρ : Ev) : Ot := bindS (varE i ρ) ρ fun d => match d with
  | .ins C' _ _ => if C' = C then newF0 f i Fe ρ else .no
  | _ => .no
theorem ss_newF {C f : Str} {i : Nat} (cl : Cls J.K (J.ca C)) (na : NoAttr J.K (J.ca C) f) (hm : Γ[i]? = some (.I ms)) (h : SemE J Γ (.o m) Fe te) (hx : Gx J Γ) :
    SemS J Γ (Γ.set i (.I (ms ++ [m]))) (newF C f i Fe) (sFld J.K (tVar i) te f) := fun {G0 H0 G H ρ σ D} w p => by
  replace p := PostS.bind w hx p
  cases hv : varE i ρ with
  | ex c => unfold varE at hv; split at hv <;> cases hv
  | no => rw [hv] at p; cases p
  | ok d =>
  rw [hv] at p
  replace p := p.of_ok
  have hq := varE_ok hv
  obtain ⟨Pf, h1, h2, h3⟩ := w.env
  obtain ⟨v, m', s1, s2, s3⟩ := h3 i d hq
  rw [hm] at s2
  cases s2
  cases s3 with
  | NI => first | cases q2 | cases q | cases p | cases q5 | cases hq | contradiction
  | @I _ C' a dx ns us ds _ k1 k2 k3 k4 k5 =>
    replace p : PostS J G0 H0 G (Γ.set i (.I (ms ++ [m]))) D (if C' = C then newF0 f i Fe ρ else .no) := p
    by_cases hC : C' = C
    case neg => rw [if_neg hC] at p; cases p
    rw [if_pos hC] at p
    subst hC
    unfold newF0 at p
    refine h w ((PostS.bind w hx p).imp (fun y _ q u G1 H1 P1 e1 f1 o1 => ?_) fun _ q => q)
    replace q : PostS J G0 H0 G (Γ.set i (.I (ms ++ [m]))) D (if fix f ns = none ∧ ns.length < 100 then .nx (ρ.set i (some (.ins C' (ns ++ [f]) (ds ++ [y])))) else .no) := by
      rw [hv] at q
      exact q
    by_cases hf : fix f ns = none ∧ ns.length < 100
    case neg => rw [if_neg hf] at q; cases q
    rw [if_pos hf] at q
    have hna : H a ≠ none := by rw [k1]; exact fun z => by cases z
    have ga : G1 a = none := by rw [e1.base a hna]; exact k2
    have hl : i < ρ.length := (List.getElem?_eq_some_iff.mp hq).1
    have zl : (ns.zip us).length = ns.length := by rw [List.length_zip, k4, Nat.min_self]
    refine ⟨_, s1, a, J.ca C', dx, ns.zip us, rfl, e1.h _ _ k1, cl, na, by rw [zl]; omega, ?_⟩
    rw [fix_putN k4 hf.1]
    have pa : ∀ b, P1 b → b ≠ a := fun b hb z => hna (by rw [← z]; exact (f1 b hb).2.1)
    have carry : ∀ b, H b ≠ none → b ≠ a → G b = none → (upd H1 a (.ins (J.ca C') dx ((ns ++ [f]).zip (us ++ [u])))) b = H b ∧ G1 b = none := fun b hb hn hg => ⟨by rw [upd_ne hn]; exact e1.h.at hb, by rw [e1.base b hb]; exact hg⟩
    refine q.of_nx σ G1 _ e1.g ⟨(w.x.trans e1).mut (h2 i a k3).2.1 ga, by rw [List.length_set, List.length_set]; exact w.lg, by rw [List.length_set]; exact w.lr, ⟨fun j b => if j = i then (Pf i b ∨ P1 b) else Pf j b, fun j k b q r s => ?_, fun j b q => ?_, fun j c q => ?_⟩, w.pn, w.xk⟩
    · by_cases hj : j = i
      · by_cases hk : k = i
        · exact q (hj.trans hk.symm)
        · simp only [hj, if_true] at r
          simp only [hk, if_false] at s
          rcases r with z | z
          · exact h1 k i b hk s z
          · exact (h2 k b s).2.2 (f1 b z).2.1
      · simp only [hj, if_false] at r
        by_cases hk : k = i
        · simp only [hk, if_true] at s
          rcases s with z | z
          · exact h1 j i b hj r z
          · exact (h2 j b r).2.2 (f1 b z).2.1
        · simp only [hk, if_false] at s
          exact h1 j k b q r s
    · have up : ∀ b, H1 b ≠ none → (upd H1 a (.ins (J.ca C') dx ((ns ++ [f]).zip (us ++ [u])))) b ≠ none := fun b hb => by
        by_cases z : b = a
        · rw [z, upd_same]; exact fun z => by cases z
        · rw [upd_ne z]; exact hb
      by_cases hj : j = i
      · simp only [hj, if_true] at q
        rcases q with q | q
        · obtain ⟨a1, a2, a3⟩ := h2 i b q
          exact ⟨by rw [e1.base b a3]; exact a1, a2, up b (e1.h.nn a3)⟩
        · exact ⟨(f1 b q).1, w.x.h.free (f1 b q).2.1, up b (f1 b q).2.2⟩
      · simp only [hj, if_false] at q
        obtain ⟨a1, a2, a3⟩ := h2 j b q
        exact ⟨by rw [e1.base b a3]; exact a1, a2, up b (e1.h.nn a3)⟩
    · by_cases hj : j = i
      · subst hj
        rw [List.getElem?_set_self hl] at q
        have hd : Dt.ins C' (ns ++ [f]) (ds ++ [y]) = c := by simpa using q
        subst hd
        refine ⟨_, .I (ms ++ [m]), s1, List.getElem?_set_self (by rw [w.lg]; exact hl), ?_⟩
        simp only [if_true]
        refine .I upd_same ga (.inl k3) (by rw [List.length_append, List.length_append, k4]; rfl) ?_
        refine Ows.append (P1 := fun b => Pf j b ∧ b ≠ a) (P2 := P1) (k5.carry e1.g fun b hb => carry b (h2 j b hb.1).2.2 hb.2 (h2 j b hb.1).1) (.cons (P1 := P1) (P2 := Pno) (o1.carry (Same.refl _) fun b hb => ⟨upd_ne (pa b hb), (f1 b hb).1⟩) .nil (fun _ z => z) (fun _ z => z.elim) (fun _ _ z => z)) (fun b hb => ⟨.inl hb.1, hb.2⟩) (fun b hb => ⟨.inr hb, pa b hb⟩) fun b q1 q2 => ?_
        exact (h2 j b q1.1).2.2 (f1 b q2).2.1
      · rw [List.getElem?_set_ne (Ne.symm hj)] at q
        obtain ⟨v2, m2, t1, t2, t3⟩ := h3 j c q
        refine ⟨v2, m2, t1, by rw [List.getElem?_set_ne (Ne.symm hj)]; exact t2, ?_⟩
        simp only [hj, if_false]
        exact t3.carry e1.g fun b hb => carry b (h2 j b hb).2.2 (fun z => h1 j i b hj hb (by rw [z]; exact k3)) (h2 j b hb).1
end
end Pm
namespace Pm
open PySem PySem.Spec PyProof.Rows L2
open Classical
/-! ### what a def promises -/
def spM (K : PySem.W.Frag) (ca : Str → Addr) (np : Nat) (m : Mode) (Fn : List Dt → Rs Dt) : Sp := fun vs H Q E => vs.length = np ∧ ∃ G ds, Same G H ∧ Rps K ca G ds vs ∧
  Rs.Post (fun d => ∀ v G' H' P, Ext G H G' H' → Fr G' H H' P → Ow K ca G' H' m d v P → Q v H') (fun c => ∀ dx H', Same H H' → XR c dx H' → E (.ref (ca c.1)) dx H') (Fn ds)
def isF : Mode → Bool
  | .F => true
  | _ => false
def outF (m : Mode) : Ot → Rs Dt
  | .nx _ => if isF m = true then .ok .non else .no
  | .rt d => .ok d
  | .ex c _ => .ex c
  | _ => .no
def defF (np nl : Nat) (m : Mode) (F : Ev → Ot) (ds : List Dt) : Rs Dt := if ds.length = np then outF m (F (ds.map some ++ List.replicate (nl - np) none)) else .no
section
variable {P : Program} {w : World} {K : PySem.W.Frag} {ca : Str → Addr} {mg : Str → Option Value} {base : Heap} {x qual : Str} {params : Arguments} {body : List Stmt} {scope : Scope} {f : Addr} {fd : FuncData} {N ps : List Str} {k : Nat} {m : Mode}
theorem fn_def {Fb : Ev → Ot} {Γ0 Γ1 : List Mode} (F : FunD K x qual params body scope [] [] f fd) (S : FnScope N ps scope) (hg : Γ0.length = N.length) (hp : ∀ i, i < ps.length → Γ0[i]? = some .F)
    (hb : ∀ (cdv : Value) (A : Around) (outer : List Env) (s : Shared) (H : Hp) (E : XK), Room k (A.deeper (envOfC qual scope s.heap.objs.size f cdv)) →
      ∃ t, PSs (cxOf (L2.CX P w) P w K mg base N qual scope f cdv A outer s H E) body t ∧ SemS ⟨K, ca, fun cls d _ H => E cls d H, none, [], m, [], none, []⟩ Γ0 Γ1 Fb t) :
    FnOk P w K mg base (L2.CX P w) (k + 1) f fd ps (spM K ca ps.length m (defF ps.length N.length m Fb)) := by
  refine F.ok S (fun vs H Q E h => h.1) fun cdv A outer s H vs Q E hr h => ?_
  obtain ⟨hl, G, ds, sg, r, p⟩ := h
  obtain ⟨t, ht, hs⟩ := hb cdv A outer s H E hr
  refine ⟨t, ht, ?_⟩
  have hpl : ps.length ≤ N.length := by have := congrArg List.length S.pre; rw [List.length_take] at this; omega
  have hdl : ds.length = ps.length := by rw [r.length]; exact hl
  have lgt : (ds.map some ++ List.replicate (N.length - ps.length) none : Ev).length = N.length := by
    rw [List.length_append, List.length_map, List.length_replicate, hdl]; omega
  refine hs (G0 := G) (H0 := H) (G := G) (H := H) (ρ := ds.map some ++ List.replicate (N.length - ps.length) none) (σ := L2.start N vs) (D := { nx := fun _ H' => Q .non H', rt := Q }) ⟨Ext.refl sg, by rw [lgt]; exact hg, ?_, ⟨fun _ => Pno, fun _ _ _ _ z => z.elim, fun _ _ z => z.elim, fun i d q => ?_⟩, (fun _ _ z => nomatch z), fun _ _ h => nomatch h⟩ ?_
  · unfold L2.start
    rw [lgt, List.length_append, List.length_map, List.length_replicate]
    omega
  · have hi : i < ds.length := by
      by_cases hi : i < ds.length
      · exact hi
      · rw [List.getElem?_append_right (by simpa using hi), List.getElem?_replicate] at q
        split at q <;> cases q
    rw [List.getElem?_append_left (by simpa using hi), List.getElem?_map] at q
    have e : ds[i]? = some d := by
      cases z : ds[i]? with
      | none => rw [z] at q; cases q
      | some e => rw [z] at q; cases q; rfl
    obtain ⟨v, hv, rv⟩ := r.get e
    refine ⟨v, .F, ?_, hp i (by omega), .F rv⟩
    unfold L2.start
    rw [List.getElem?_append_left (by rw [List.length_map]; omega), List.getElem?_map, hv]
    rfl
  · unfold defF at p
    rw [if_pos hdl] at p
    cases q : Fb (ds.map some ++ List.replicate (N.length - ps.length) none) with
    | nx ρ' =>
      rw [q] at p
      refine .nx fun σ' G' H' _ w' => ?_
      replace p : Rs.Post _ _ (if isF m = true then Rs.ok Dt.non else Rs.no) := p
      by_cases c : isF m = true
      · rw [if_pos c] at p
        have hm : m = .F := by cases m <;> first | rfl | cases c
        subst hm
        exact p.of_ok .non G' H' Pno w'.x Fr.no (.F .non)
      · rw [if_neg c] at p; cases p
    | rt d =>
      rw [q] at p
      exact .rt p.of_ok
    | bk _ => rw [q] at p; cases p
    | ct _ => rw [q] at p; cases p
    | ex c ρ' =>
      rw [q] at p
      exact .ex fun dx σ' H' s x _ => p.of_ex dx H' s x
    | no => rw [q] at p; cases p
end
/-! ### calls -/
def tMethS (C : Addr) (m : Str) (sp : Sp) (E : L2.St → XK) (ta : TE) (t : TA) : TE := fun σ H Q => ta σ H fun x H1 => ∃ a dx fs, x = .ref a ∧ H1 a = some (.ins C dx fs) ∧ fs.lookup m = none ∧ t σ H1 fun vs H2 => sp (x :: vs) H2 Q (E σ)
def tMakeS (C : Addr) (sp : Sp) (E : L2.St → XK) (t : TA) : TE := fun σ H Q => t σ H fun vs H1 => ∀ x dx, H1 x = none → H1 dx = none → dx ≠ x →
  sp (.ref x :: vs) (upd (upd H1 dx (.own x)) x (.ins C dx [])) (fun v H2 => v = .non ∧ Q (.ref x) H2) (E σ)
section
variable {X : Cx} {CX : CXT} {k : Nat} {f C : Addr} {fd : FuncData} {ps : List Str} {sp : Sp} {E : L2.St → XK} {x m : Str} {p pos apos : Pos} {e o : Expr} {es : List Expr} {ta : TE} {t : TA}
theorem pe_methS0 {pl : Sem Bool} (he : PE X o ta) (c : Cls X.K C) (hm : Meth X.K C m f) (F : FnOk X.prog X.w X.K X.mg X.base CX k f fd ps sp) (hr : Room k X.A) (hb : Binds X.K fd ps []) (hx : ∀ σ, PassesAt CX X σ (E σ))
    (ht : eval (.Call (.Attribute o m apos) [] [] pos) X.env = (do
      let ov ← eval o X.env
      standAt apos.atName
      let (f, first) ← holding [ov] (getMethod ov m pl)
      callWith pos f first (backTo pos (starEach [] X.env)) (backToKw pos (keywordEach [] X.env))) := by rfl) :
    PE X (.Call (.Attribute o m apos) [] [] pos) (tMethS C m sp E ta tNil) := by
  refine ⟨fun pins s σ H Q I h => ?_⟩
  refine PySem.W.methodCall_KW (pl := pl) (thn (he.run pins s σ H _ I h) fun u s1 ⟨x, H1, I1, rx, a, dx, fs, ex, ea, l, q⟩ => ?_) ht
  subst ex
  obtain rfl : u = Value.ref a := rx
  refine getmeth_ok I1 ea c hm l ?_
  exact PySem.W.callWith_K0 (first := [.ref a]) I1.kIn hm.kp (run_fnS (us := [.ref a]) (vs := [.ref a]) F hr hb (hx σ) I1 (.cons rfl .nil) q)
theorem run_makeS {pins : List (Addr × Obj)} {σ : L2.St} {H : Hp} {s : Shared} {Q : VK} {us : List Value} {vs : List V} (M : Mk X.K C f) (F : FnOk X.prog X.w X.K X.mg X.base CX k f fd ps sp) (hr : Room (k + 1) X.A) (hb : Binds X.K fd ps []) (hx : PassesAt CX X σ (E σ))
    (I : Inv X pins σ H s) (r : Vals vs us)
    (h : ∀ x dx, H x = none → H dx = none → dx ≠ x → sp (.ref x :: vs) (upd (upd H dx (.own x)) x (.ins C dx [])) (fun v H2 => v = .non ∧ Q (.ref x) H2) (E σ)) :
    wpAny (model X.prog X.w) X.A (call (.ref C) us) (EP X pins σ Q) X.xe s := by
  have hq := h (s.heap.objs.size + 1) s.heap.objs.size (I.hok.fresh (Nat.le_succ _)) (I.hok.fresh (Nat.le_refl _)) (Nat.ne_of_lt (Nat.lt_succ_self _))
  have I2 := Inv.made (C := C) I
  have r2 : Vals (V.ref (s.heap.objs.size + 1) :: vs) (Value.ref (s.heap.objs.size + 1) :: us) := .cons rfl r
  have hl : (Value.ref (s.heap.objs.size + 1) :: us).length = ps.length := by
    have e := r2.length
    rw [F.len _ _ _ _ hq] at e
    exact e.symm
  have b := hb _ (Value.ref (s.heap.objs.size + 1) :: us) I2.kIn (by rw [List.append_nil]; exact hl)
  rw [List.append_nil] at b
  refine wpAny_call (make_map (f := f) I.kIn M.makes M.init (beq_iff_eq.mp M.fn) (codeAny_mono (F.run _ X.stack _ _ ⟨Value.ref (s.heap.objs.size + 1) :: us, []⟩ (Value.ref (s.heap.objs.size + 1) :: us) _ _ (E σ) (hr.make C us [])
    (I2.env0.make C us []) b r2 hq) fun r s' hq' => ?_))
  cases r with
  | error e => exact hx pins _ _ e s' I2 hq'
  | ok fl =>
    cases fl with
    | ret u =>
      obtain ⟨v, H', I3, rv, ev, q3⟩ := I2.after hq'
      subst ev
      exact ⟨rv, ⟨V.ref (s.heap.objs.size + 1), H', I3, rfl, q3⟩⟩
    | next => exact False.elim hq'
    | brk => exact False.elim hq'
    | cont => exact False.elim hq'
theorem pe_makeS (M : Mk X.K C f) (F : FnOk X.prog X.w X.K X.mg X.base CX k f fd ps sp) (hr : Room (k + 1) X.A) (hg : Gl X x) (hm : X.mg x = some (.ref C)) (hb : Binds X.K fd ps []) (hx : ∀ σ, PassesAt CX X σ (E σ))
    (ha : PA X (e :: es) t) (hdb : (x == ("__debug__" : Str)) = false := by decide) (he : starEach (e :: es) X.env = (false, eval e X.env) :: starEach es X.env := by rfl) (hpl : (backTo pos (starEach es X.env)).any (·.1) = false := by rfl) :
    PE X (.Call (.Name x p) (e :: es) [] pos) (tMakeS C sp E t) := by
  refine ⟨fun pins s σ H Q I h => ?_⟩
  refine wpAny_Call_Name_kw (ld_glob I hg hm ?_ hdb)
  refine PySem.W.callWith_K (h₀ := X.base) I.ok.mod.kin M.kp (thn (ha.run pos pins s σ H _ I h) fun us s1 ⟨vs, H1, I1, r, q⟩ => ⟨I1.kIn, ?_⟩) he hpl
  exact run_makeS M F hr hb (hx σ) I1 r q
end
section
variable {J : Jc} {Γ Γ' Γ1 Γ2 : List Mode} {em : EM} {m : Mode} {ms : List Mode} {Fe Fa Fb Fi : Ev → Rs Dt} {Fs : List (Ev → Rs Dt)} {te ta tb ti : TE} {tr : TA} {G0 H0 Gs G H G' H' : Hp} {ρ : Ev} {σ : L2.St} {vs : List Nat} {Fn : List Dt → Rs Dt} {np : Nat}
def callE (Fn : List Dt → Rs Dt) (Fs : List (Ev → Rs Dt)) (ρ : Ev) : Rs Dt := argsE Fs ρ >>= Fn
theorem se_call (h : SemZ J Γ ms Fs tr) (hF : allF ms = true := by rfl) (hl : Fs.length = np := by rfl) : SemE J Γ (.o m) (callE Fn Fs) (tCallS (spM J.K J.ca np m Fn) (WE J.W) tr) := fun {G0 H0 G H ρ σ Q} w p => by
  refine h w (p.bind.imp (fun ds hd q us G1 H1 P1 e1 f1 o1 => ?_) fun _ q => q)
  have r := o1.allF hF
  refine ⟨by rw [← r.length, argsE_len hd]; exact hl, G1, ds, e1.gh, r, q.imp (fun d _ q v G2 H2 P2 e2 f2 o2 => ?_) fun c q dx H2 s => q H2 dx (e1.h.trans s)⟩
  exact q v G2 H2 P2 (e1.trans e2) (fun b hb => ⟨(f2 b hb).1, e1.h.free (f2 b hb).2.1, (f2 b hb).2.2⟩) o2
/-- arguments looked at alone, a scalar handed back -/
def scalR (r : Rs Dt) : Rs Dt := r >>= fun d => if scal d = true then .ok d else .no
def callBE (Fn : List Dt → Rs Dt) (Fs : List (Ev → Rs Dt)) (ρ : Ev) : Rs Dt := argsE Fs ρ >>= fun ds => scalR (Fn ds)
/-- o.m(..), o frozen -/
def noMeth (C m : Str) (d : Dt) : Rs Dt := match d with
  | .ins C' ns ds => if C' = C ∧ fix m ns = none then .ok d else .no
  | _ => .no
def methE (C m : Str) (Fn : List Dt → Rs Dt) (Fo : Ev → Rs Dt) (Fs : List (Ev → Rs Dt)) (ρ : Ev) : Rs Dt := Fo ρ >>= fun s => noMeth C m s >>= fun _ => argsE Fs ρ >>= fun ds => Fn (s :: ds)
def methBE (C m : Str) (Fn : List Dt → Rs Dt) (Fo : Ev → Rs Dt) (Fs : List (Ev → Rs Dt)) (ρ : Ev) : Rs Dt := Fo ρ >>= fun s => noMeth C m s >>= fun _ => argsE Fs ρ >>= fun ds => scalR (Fn (s :: ds))
theorem fix_none {f : Str} : ∀ {ns : List Str} {us : List V}, fix f ns = none → (ns.zip us).lookup f = none
  | [], _, _ => rfl
  | g :: r, [], _ => rfl
  | g :: r, x :: us, h => by
    unfold fix at h
    by_cases q : f = g
    · rw [if_pos q] at h; cases h
    · rw [if_neg q] at h
      cases z : fix f r with
      | some i => rw [z] at h; cases h
      | none =>
        show (match f == g with | true => some x | false => (r.zip us).lookup f) = none
        rw [show (f == g) = false from beq_eq_false_iff_ne.mpr q]
        exact fix_none z
theorem noMeth_run {K : PySem.W.Frag} {ca : Str → Addr} {C m : Str} {d e : Dt} {v : V} (r : Rp K ca H d v) (q : noMeth C m d = .ok e) : ∃ a dx fs, v = .ref a ∧ H a = some (.ins (ca C) dx fs) ∧ fs.lookup m = none := by
  cases r with
  | @ins C' a dx ns us ds h1 h2 h3 =>
    replace q : (if C' = C ∧ fix m ns = none then Rs.ok (Dt.ins C' ns ds) else .no) = .ok e := q
    split at q
    · rename_i hC
      obtain ⟨hC, hf⟩ := hC
      subst hC
      exact ⟨a, dx, _, rfl, h1, fix_none hf⟩
    · cases q
  | _ => cases q
theorem nx_noMeth {C m : Str} {d : Dt} {c : Xn} : noMeth C m d ≠ .ex c := by
  unfold noMeth
  split
  · split <;> intro q <;> cases q
  · intro q; cases q
theorem se_meth {C mm : Str} (ho : SemE J Γ (.o .F) Fa ta) (h : SemZ J Γ ms Fs tr) (hF : allF ms = true := by rfl) (hl : Fs.length + 1 = np := by rfl) : SemE J Γ (.o m) (methE C mm Fn Fa Fs) (tMethS (J.ca C) mm (spM J.K J.ca np m Fn) (WE J.W) ta tr) := fun {G0 H0 G H ρ σ Q} w p => by
  refine ho w (p.bind.imp (fun s _ q v G1 H1 _ e1 _ o1 => ?_) fun _ q => q)
  cases o1 with
  | F o1 =>
  cases z : noMeth C mm s with
  | ex c => exact absurd z nx_noMeth
  | no => rw [z] at q; cases q
  | ok s' =>
    rw [z] at q
    obtain ⟨a, dx, fs, rfl, h1, h2⟩ := noMeth_run o1 z
    refine ⟨a, dx, fs, rfl, e1.gh _ _ h1, h2, h (w.ext e1) ((Rs.Post.bind (r := argsE Fs ρ) q).imp (fun ds hd q us G2 H2 P2 e2 f2 o2 => ?_) fun _ q H' dx s => q H' dx (e1.h.trans s))⟩
    have r := o2.allF hF
    have e := e1.trans e2
    refine ⟨by rw [List.length_cons, ← r.length, argsE_len hd]; exact hl, G2, s :: ds, e2.gh, .cons (o1.mono e2.g) r, Rs.Post.imp q (fun d _ q v G3 H3 P3 e3 f3 o3 => ?_) fun c q dx H2 s => q H2 dx (e.h.trans s)⟩
    exact q v G3 H3 P3 (e.trans e3) (fun b hb => ⟨(f3 b hb).1, e.h.free (f3 b hb).2.1, (f3 b hb).2.2⟩) o3
theorem se_methB {C mm : Str} (ho : SemE J Γ .B Fa ta) (h : SemBs J Γ Fs tr) (hl : Fs.length + 1 = np := by rfl) : SemE J Γ (.o .F) (methBE C mm Fn Fa Fs) (tMethS (J.ca C) mm (spM J.K J.ca np .F Fn) (WE J.W) ta tr) := fun {G0 H0 G H ρ σ Q} w p => by
  refine ho w (p.bind.imp (fun s _ q v G1 H1 _ e1 _ o1 => ?_) fun _ q => q)
  cases z : noMeth C mm s with
  | ex c => exact absurd z nx_noMeth
  | no => rw [z] at q; cases q
  | ok s' =>
    rw [z] at q
    obtain ⟨a, dx, fs, rfl, h1, h2⟩ := noMeth_run o1 z
    refine ⟨a, dx, fs, rfl, h1, h2, h (w.ext e1) ((Rs.Post.bind (r := argsE Fs ρ) q).imp (fun ds hd q us G2 H2 e2 r => ?_) fun _ q H' dx s => q H' dx (e1.h.trans s))⟩
    have e := e1.trans e2
    refine ⟨by rw [List.length_cons, ← r.length, argsE_len hd]; exact hl, H2, s :: ds, Same.refl _, .cons (Rp.mono e2.h o1) r, (Rs.Post.bind q).imp (fun d _ q v G3 H3 P3 e3 f3 o3 => ?_) fun c q dx H2 s => q H2 dx (e.h.trans s)⟩
    cases c : scal d with
    | false =>
      rw [c] at q
      cases q
    | true =>
      rw [c] at q
      cases o3 with
      | F o3 => exact q.of_ok v G2 H3 Pno (e.trans (Ext.heap e.gh e3.h)) Fr.no (.F (scal_rp c o3))
/-! ### __init__, C(..) -/
def spI (K : PySem.W.Frag) (ca : Str → Addr) (C : Str) (np : Nat) (ms : List Mode) (Fn : List Dt → Rs Dt) : Sp := fun vs H Q E => vs.length = np ∧ ∃ (Hb G : Hp) (ds : List Dt) (x dx : Addr) (us : List V), vs = .ref x :: us ∧ Same Hb H ∧ Hb x = none ∧ H x = some (.ins (ca C) dx []) ∧ Same G Hb ∧ Rps K ca G ds us ∧
  Rs.Post (fun d => ∀ G' H' P, Ext G Hb G' H' → Fr G' Hb H' P → Ow K ca G' H' (.I ms) d (.ref x) P → Q .non H') (fun c => ∀ dx H', Same Hb H' → XR c dx H' → E (.ref (ca c.1)) dx H') (Fn ds)
def outI : Ot → Rs Dt
  | .nx ρ => (match ρ[0]? with
    | some (some d) => .ok d
    | _ => .no)
  | .ex c _ => .ex c
  | _ => .no
def initF (C : Str) (np nl : Nat) (F : Ev → Ot) (ds : List Dt) : Rs Dt := if ds.length + 1 = np then outI (F (some (.ins C [] []) :: ds.map some ++ List.replicate (nl - np) none)) else .no
end
section
variable {P : Program} {w : World} {K : PySem.W.Frag} {ca : Str → Addr} {mg : Str → Option Value} {base : Heap} {x qual : Str} {params : Arguments} {body : List Stmt} {scope : Scope} {f : Addr} {fd : FuncData} {N ps : List Str} {k : Nat} {ms : List Mode}
theorem fn_init {C : Str} {Fb : Ev → Ot} {Γ0 Γ1 : List Mode} (F : FunD K x qual params body scope [] [] f fd) (S : FnScope N ps scope) (hg : (Mode.I [] :: Γ0).length = N.length) (hp : ∀ i, i + 1 < ps.length → Γ0[i]? = some .F) (h1 : Γ1[0]? = some (.I ms))
    (hb : ∀ (cdv : Value) (A : Around) (outer : List Env) (s : Shared) (H : Hp) (E : XK) (xv : V), Room k (A.deeper (envOfC qual scope s.heap.objs.size f cdv)) →
      ∃ t, PSs (cxOf (L2.CX P w) P w K mg base N qual scope f cdv A outer s H E) body t ∧ SemS ⟨K, ca, fun cls d _ H => E cls d H, none, [], .F, [(0, xv)], none, []⟩ (.I [] :: Γ0) Γ1 Fb t) :
    FnOk P w K mg base (L2.CX P w) (k + 1) f fd ps (spI K ca C ps.length ms (initF C ps.length N.length Fb)) := by
  refine F.ok S (fun vs H Q E h => h.1) fun cdv A outer s H vs Q E hr h => ?_
  obtain ⟨hl, Hb, G, ds, x, dx, us, rfl, sh, hx, hX, sg, r, p⟩ := h
  obtain ⟨t, ht, hs⟩ := hb cdv A outer s H E (.ref x) hr
  refine ⟨t, ht, ?_⟩
  have hpl : ps.length ≤ N.length := by have := congrArg List.length S.pre; rw [List.length_take] at this; omega
  have hdl : ds.length + 1 = ps.length := by rw [r.length]; exact hl
  have lgt : (some (.ins C [] []) :: ds.map some ++ List.replicate (N.length - ps.length) none : Ev).length = N.length := by
    rw [List.length_append, List.length_cons, List.length_map, List.length_replicate]; omega
  refine hs (G0 := G) (H0 := Hb) (G := G) (H := H) (ρ := some (.ins C [] []) :: ds.map some ++ List.replicate (N.length - ps.length) none) (σ := L2.start N (.ref x :: us)) (D := { nx := fun _ H' => Q .non H', rt := Q })
    ⟨⟨Same.refl _, sh, sg.trans sh, fun _ _ => rfl⟩, by rw [lgt]; exact hg, ?_, ⟨fun i b => i = 0 ∧ b = x, fun i j a q z1 z2 => q (z1.1.trans z2.1.symm), fun i a z => ?_, fun i d q => ?_⟩, (fun i v z => by cases (List.mem_singleton.mp z); rfl), fun _ _ h => nomatch h⟩ ?_
  · unfold L2.start
    rw [lgt, List.length_append, List.length_map, List.length_replicate]
    omega
  · rw [z.2]
    exact ⟨sg.free hx, hx, by rw [hX]; exact fun z => by cases z⟩
  · cases i with
    | zero =>
      have e : Dt.ins C [] [] = d := by simpa using q
      subst e
      exact ⟨.ref x, .I [], rfl, rfl, .I (vs := []) hX (sg.free hx) ⟨rfl, rfl⟩ rfl .nil⟩
    | succ i =>
      have q : (ds.map some ++ List.replicate (N.length - ps.length) none : Ev)[i]? = some (some d) := by simpa using q
      have hi : i < ds.length := by
        by_cases hi : i < ds.length
        · exact hi
        · rw [List.getElem?_append_right (by simpa using hi), List.getElem?_replicate] at q
          split at q <;> cases q
      rw [List.getElem?_append_left (by simpa using hi), List.getElem?_map] at q
      have e : ds[i]? = some d := by
        cases z : ds[i]? with
        | none => rw [z] at q; cases q
        | some e => rw [z] at q; cases q; rfl
      obtain ⟨v, hv, rv⟩ := r.get e
      have hlu : i < us.length := by rw [← r.length]; exact hi
      refine ⟨v, .F, ?_, hp i (by omega), .F rv⟩
      show (some (V.ref x) :: us.map some ++ List.replicate (N.length - (V.ref x :: us).length) none : L2.St)[i + 1]? = _
      rw [List.cons_append, List.getElem?_cons_succ, List.getElem?_append_left (by rw [List.length_map]; exact hlu), List.getElem?_map, hv]
      rfl
  · unfold initF at p
    rw [if_pos hdl] at p
    cases q : Fb (some (.ins C [] []) :: ds.map some ++ List.replicate (N.length - ps.length) none) with
    | nx ρ' =>
      rw [q] at p
      refine .nx fun σ' G' H' _ w' => ?_
      cases z : ρ'[0]? with
      | none => simp only [outI, z] at p; cases p
      | some o =>
      cases o with
      | none => simp only [outI, z] at p; cases p
      | some d =>
        simp only [outI, z] at p
        obtain ⟨Pf, k1, k2, k3⟩ := w'.env
        obtain ⟨v, m, s1, s2, s3⟩ := k3 0 d z
        rw [w'.pn 0 (.ref x) List.mem_cons_self] at s1
        cases s1
        rw [h1] at s2
        cases s2
        exact p.of_ok G' H' (Pf 0) w'.x (fun b hb => k2 0 b hb) s3
    | rt d => rw [q] at p; cases p
    | bk _ => rw [q] at p; cases p
    | ct _ => rw [q] at p; cases p
    | ex c ρ' =>
      rw [q] at p
      exact .ex fun dx σ' H' s x _ => p.of_ex dx H' s x
    | no => rw [q] at p; cases p
end
section
variable {J : Jc} {Γ : List Mode} {ms : List Mode} {ns : List Mode} {Fs : List (Ev → Rs Dt)} {tr : TA} {Fn : List Dt → Rs Dt} {np : Nat}
theorem se_make {C : Str} (h : SemZ J Γ ms Fs tr) (hF : allF ms = true := by rfl) (hl : Fs.length + 1 = np := by rfl) : SemE J Γ (.o (.I ns)) (callE Fn Fs) (tMakeS (J.ca C) (spI J.K J.ca C np ns Fn) (WE J.W) tr) := fun {G0 H0 G H ρ σ Q} w p => by
  refine h w (p.bind.imp (fun ds hd q us G1 H1 P1 e1 f1 o1 => ?_) fun _ q => q)
  have r := o1.allF hF
  intro x dx hx hdx ne
  have s1 : Same H1 (upd (upd H1 dx (.own x)) x (.ins (J.ca C) dx [])) := fun b o e => by
    rw [upd_ne (ne_of_none e hx), upd_ne (ne_of_none e hdx)]
    exact e
  refine ⟨by rw [List.length_cons, ← r.length, argsE_len hd]; exact hl, H1, G1, ds, x, dx, us, rfl, s1, hx, upd_same, e1.gh, r, q.imp (fun d _ q G2 H2 P2 e2 f2 o2 => ⟨rfl, ?_⟩) fun c q dx H2 s => q H2 dx (e1.h.trans s)⟩
  exact q (.ref x) G2 H2 P2 (e1.trans e2) (fun b hb => ⟨(f2 b hb).1, e1.h.free (f2 b hb).2.1, (f2 b hb).2.2⟩) o2
end
end Pm
namespace Pm
open PySem PySem.Spec PyProof.Rows L2
open Classical
/-! ### small helpers for the printed texts -/
theorem hpF : ∀ {Γ : List Mode} {n : Nat}, allF (Γ.take n) = true → n ≤ Γ.length → ∀ i, i < n → Γ[i]? = some .F
  | [], n, _, h, i, hi => by simp at h; omega
  | m :: Γ, 0, _, _, i, hi => by omega
  | m :: Γ, n + 1, h, hl, i, hi => by
    rw [List.take_succ_cons] at h
    cases m with
    | F =>
      cases i with
      | zero => rfl
      | succ i => rw [List.getElem?_cons_succ]; exact hpF (n := n) h (by simpa using hl) i (by omega)
    | _ => cases h
theorem pe_globI {X : Cx} {x : Str} {i : Int} {pos : Pos} (h : ∃ t, X.mg x = some (.int i t)) (hg : Gl X x := by rfl) (hd : (x == ("__debug__" : Str)) = false := by decide) : PE X (.Name x pos) (tC (.int i)) := by
  obtain ⟨t, h⟩ := h
  exact pe_glob (v := .int i) hg h ⟨t, rfl⟩ hd
/-- lists of bools, of ints -/
def blsOf : List Dt → Option (List Bool)
  | [] => some []
  | .bl b :: ds => (blsOf ds).map (b :: ·)
  | _ => none
def intsOf : List Dt → Option (List Int)
  | [] => some []
  | .int i :: ds => (intsOf ds).map (i :: ·)
  | _ => none
section
variable {K : PySem.W.Frag} {ca : Str → Addr} {H : Hp}
end
def lisD : Dt → Option (List Dt)
  | .lst ds => some ds
  | .scr ds => some ds
  | _ => none
def allD (d : Dt) : Rs Dt := match lisD d with
  | some ds => (match blsOf ds with | some bs => .ok (.bl (bs.all id)) | none => .no)
  | none => .no
def anyD (d : Dt) : Rs Dt := match lisD d with
  | some ds => (match blsOf ds with | some bs => .ok (.bl (bs.any id)) | none => .no)
  | none => .no
def sumD (d : Dt) : Rs Dt := match lisD d with
  | some ds => (match intsOf ds with | some bs => .ok (.int bs.sum) | none => .no)
  | none => .no
def maxL : List Int → Int
  | [] => 0
  | a :: r => r.foldl max a
def maxD (d : Dt) : Rs Dt := match lisD d with
  | some ds => (match intsOf ds with | some (a :: r) => .ok (.int (maxL (a :: r))) | _ => .no)
  | none => .no
def allE := op1E allD
def anyE := op1E anyD
def sumE := op1E sumD
section
variable {J : Jc} {Γ : List Mode} {Fa Fb : Ev → Rs Dt} {ta tb : TE}
/-- max(a, b), min(a, b) of ints -/
def max2E := op2E (i2 fun i j => .ok (.int (if j > i then j else i)))
def min2E := op2E (i2 fun i j => .ok (.int (if j < i then j else i)))
end
end Pm
namespace Pm
open PySem PySem.Spec PyProof.Rows L2
open Classical
/-! ### try .. except X -/
abbrev Jc.tr (J : Jc) (W : WX) (Γ : List Mode) : Jc := { J with W := W, gx := some Γ }
/-- in the suite nothing is raised -/
abbrev Jc.nx (J : Jc) (p : List (Nat × V)) : Jc := { J with W := fun _ _ _ _ => False, pin := p }
def noX : Ot → Ot
  | .ex _ _ => .no
  | o => o
def tryS (subs : List (Str × Bool)) (Fb Fh : Ev → Ot) (ρ : Ev) : Ot := match Fb ρ with
  | .ex c ρ' => (match subs.lookup c.1 with
    | some true => noX (Fh ρ')
    | some false => .ex c ρ'
    | none => .no)
  | o => o
section
variable {X : Cx} {x n : Str} {c : Value} {i : Nat} {body suite : List Stmt} {b₀ : Stmt} {np pos pos' : Pos} {tb : WX → TS} {ts : Addr → Value → Option Addr → TS} {Wout : WX}
end
section
variable {J : Jc} {Γ Γ' Γx : List Mode} {G0 H0 Gs G H G' H' : Hp} {ρ : Ev} {σ : L2.St} {W : WX} {Fb Fh : Ev → Ot} {tb : WX → TS} {th : TS} {D : Ends}
theorem Wd.tr (w : Wd J G0 H0 Γ ρ σ G H) : Wd (J.tr W Γx) G0 H0 Γ ρ σ G H := ⟨w.x, w.lg, w.lr, w.env, w.pn, w.xk⟩
theorem Wd.untr (w : Wd (J.tr W Γx) G0 H0 Γ ρ σ G H) : Wd J G0 H0 Γ ρ σ G H := ⟨w.x, w.lg, w.lr, w.env, w.pn, w.xk⟩
theorem Wd.unnx {p : List (Nat × V)} (hp : J.pin = p ∨ J.pin = []) (w : Wd (J.nx p) G0 H0 Γ ρ σ G H) : Wd J G0 H0 Γ ρ σ G H := ⟨w.x, w.lg, w.lr, w.env, (fun i v h => by
  rcases hp with hp | hp
  · exact w.pn i v (by rw [← hp]; exact h)
  · rw [hp] at h; cases h), w.xk⟩
theorem PostS.tr {o : Ot} (hn : ∀ c ρ', o ≠ .ex c ρ') (p : PostS J G0 H0 Gs Γ' D o) : PostS (J.tr W Γx) G0 H0 Gs Γ' D o := by
  cases p with
  | nx p => exact .nx fun a b c d e => p a b c d e.untr
  | rt p => exact .rt p
  | bk p => exact .bk fun a b c d e => p a b c d e.untr
  | ct p => exact .ct fun a b c d e => p a b c d e.untr
  | @ex c ρ' p => exact absurd rfl (hn c ρ')
end
/-! ### try .. except X as n -/
def clrO (i : Nat) : Ot → Ot
  | .nx ρ => .nx (ρ.set i none)
  | .bk ρ => .bk (ρ.set i none)
  | .ct ρ => .ct (ρ.set i none)
  | .rt d => .rt d
  | _ => .no
def tryA (i : Nat) (subs : List (Str × Bool)) (Fb : Ev → Ot) (Fh : Str → Ev → Ot) (ρ : Ev) : Ot := match Fb ρ with
  | .ex c ρ' => (match subs.lookup c.1 with
    | some true => (match c.2 with
      | none => clrO i (Fh c.1 (ρ'.set i none))
      | some _ => .no)
    | some false => .ex c ρ'
    | none => .no)
  | o => o
section
variable {J : Jc} {Γ Γ' Γx : List Mode} {G0 H0 Gs G H G' H' : Hp} {ρ : Ev} {σ : L2.St} {W : WX} {Fb : Ev → Ot} {Fh : Str → Ev → Ot} {tb : WX → TS} {th : Addr → Str → TS} {D : Ends}
theorem Wd.clr {i : Nat} (w : Wd J G0 H0 Γ ρ σ G H) (x : Option V) (hi : J.free i) : Wd J G0 H0 Γ (ρ.set i none) (σ.set i x) G H := by
  obtain ⟨Pf, h1, h2, h3⟩ := w.env
  refine ⟨w.x, by rw [List.length_set]; exact w.lg, by rw [List.length_set, List.length_set]; exact w.lr, ⟨Pf, h1, h2, fun j c q => ?_⟩, fun k v hv => ?_, w.xk⟩
  · by_cases hj : j = i
    · subst hj
      by_cases hl : j < ρ.length
      · rw [List.getElem?_set_self hl] at q; cases q
      · rw [List.getElem?_eq_none (by rw [List.length_set]; omega)] at q; cases q
    · rw [List.getElem?_set_ne (Ne.symm hj)] at q
      obtain ⟨v, m, s1, s2, s3⟩ := h3 j c q
      exact ⟨v, m, by rw [List.getElem?_set_ne (Ne.symm hj)]; exact s1, s2, s3⟩
  · have ne : k ≠ i := by
      exact pinB_ne hi hv
    rw [List.getElem?_set_ne (Ne.symm ne)]
    exact w.pn k v hv
theorem Wd.pinned {i : Nat} {a : Addr} (w : Wd J G0 H0 Γ ρ σ G H) (hi : i < ρ.length) (hp : J.pin = []) : Wd (J.nx [(i, .ref a)]) G0 H0 Γ (ρ.set i none) (σ.set i (some (.ref a))) G H := by
  have w2 := w.clr (some (.ref a)) (show pinB J.pin i = true by rw [hp]; rfl)
  refine ⟨w2.x, w2.lg, w2.lr, w2.env, fun k v h => ?_, w2.xk⟩
  have e : (k, v) = (i, V.ref a) := List.mem_singleton.mp h
  cases e
  exact List.getElem?_set_self (by rw [← w.lr]; exact hi)
theorem PostS.clr {i : Nat} {a : Addr} {o : Ot} (hp : J.pin = []) (p : PostS J G0 H0 Gs Γ' D (clrO i o)) : PostS (J.nx [(i, .ref a)]) G0 H0 Gs Γ' { nx := fun σ' H' => D.nx (σ'.set i none) H', rt := D.rt, bk := fun σ' H' => D.bk (σ'.set i none) H', ct := fun σ' H' => D.ct (σ'.set i none) H' } o := by
  have fr : J.free i := by show pinB J.pin i = true; rw [hp]; rfl
  cases o with
  | nx r => cases p with | nx p => exact .nx fun a b c d e => p _ b c d ((e.unnx (.inr hp)).clr none fr)
  | rt r => cases p with | rt p => exact .rt p
  | bk r => cases p with | bk p => exact .bk fun a b c d e => p _ b c d ((e.unnx (.inr hp)).clr none fr)
  | ct r => cases p with | ct p => exact .ct fun a b c d e => p _ b c d ((e.unnx (.inr hp)).clr none fr)
  | ex c r => cases p
  | no => cases p
end
/-! ### isinstance of the caught exception -/
def Isx (K : PySem.W.Frag) (ca : Str → Addr) (cv : Value) (tab : List (Str × Bool)) : Prop := ∀ c b, tab.lookup c = some b → PySem.W.kitOne K (.ref (ca c)) cv = some b
/-! the facts, as Bools -/
end Pm
namespace Pm
open PySem PySem.Spec PyProof.Rows L2
open Classical
/-! ### more changes of a list -/
section
variable {J : Jc} {Γ Γ' Γ1 Γ2 : List Mode} {em : EM} {m : Mode} {ms : List Mode} {Fe Fa Fb Fi : Ev → Rs Dt} {Fs : List (Ev → Rs Dt)} {te ta tb ti : TE} {tr : TA} {G0 H0 Gs G H G' H' : Hp} {ρ : Ev} {σ : L2.St} {vs : List Nat}
  {F F1 F2 : Ev → Ot} {ts t1 t2 : TS} {D : Ends} {d : Dt} {v : V} {put : Dt → Ev} {Fp : Ev → Rs (Dt × (Dt → Ev))}
theorem Ows.split {K : PySem.W.Frag} {ca : Str → Addr} : ∀ {ds : List Dt} {us : List V} {P : Addr → Prop} (n : Nat), Ows K ca G H (List.replicate ds.length m) ds us P → ∃ P1 P2 : Addr → Prop, Ows K ca G H (List.replicate (ds.take n).length m) (ds.take n) (us.take n) P1 ∧ Ows K ca G H (List.replicate (ds.drop n).length m) (ds.drop n) (us.drop n) P2 ∧ (∀ b, P1 b → P b) ∧ (∀ b, P2 b → P b) ∧ ∀ b, P1 b → ¬ P2 b
  | [], us, P, n, h => by
    cases h
    simp
    exact ⟨Pno, .nil, Pno, .nil, fun _ z => z.elim, fun _ z => z.elim, fun _ z => z.elim⟩
  | d :: ds, us, P, 0, h => ⟨Pno, P, .nil, h, fun _ z => z.elim, fun _ z => z, fun _ z => z.elim⟩
  | d :: ds, us, P, n + 1, h => by
    rw [List.length_cons, List.replicate_succ] at h
    cases h with
    | @cons _ _ _ _ v us _ A B h1 h2 q1 q2 q3 =>
      obtain ⟨P1, P2, o1, o2, r1, r2, r3⟩ := Ows.split n h2
      refine ⟨fun b => A b ∨ P1 b, P2, ?_, o2, fun b hb => hb.elim (q1 b) fun z => q2 b (r1 b z), fun b hb => q2 b (r2 b hb), fun b hb z => ?_⟩
      · rw [List.take_succ_cons, List.length_cons, List.replicate_succ, List.take_succ_cons]
        exact .cons h1 o1 (fun _ => .inl) (fun _ => .inr) fun b ha hp => q3 b ha (r1 b hp)
      · rcases hb with hb | hb
        · exact q3 b hb (r2 b z)
        · exact r3 b hb z
/-- P.insert(i, e) -/
def insD (ds : List Dt) (as : List Dt) : Option (List Dt) := match as with
  | [.int i, y] => if (lenSz ds.length && (decide (0 ≤ i) && intSz i)) = true then some (ds.take i.toNat ++ [y] ++ ds.drop i.toNat) else none
  | _ => none
def chgS (f : List Dt → List Dt → Option (List Dt)) (Fp : Ev → Rs (Dt × (Dt → Ev))) (Fs : List (Ev → Rs Dt)) (ρ : Ev) : Ot := bindS (Fp ρ) ρ fun x => match x.1 with
  | .lst ds => bindS (argsE Fs ρ) ρ fun as => match f ds as with
    | some es => .nx (x.2 (.lst es))
    | none => .no
  | _ => .no
abbrev insS := chgS insD
/-- P.extend(e), e's parts frozen -/
def extD (ds : List Dt) (e : Dt) : Option (List Dt) := match e with
  | .lst es => if lenSz (ds.length + es.length) = true then some (ds ++ es) else none
  | _ => none
def chg1S (f : List Dt → Dt → Option (List Dt)) (Fp : Ev → Rs (Dt × (Dt → Ev))) (Fe : Ev → Rs Dt) (ρ : Ev) : Ot := bindS (Fp ρ) ρ fun x => match x.1 with
  | .lst ds => bindS (Fe ρ) ρ fun e => match f ds e with
    | some es => .nx (x.2 (.lst es))
    | none => .no
  | _ => .no
abbrev extS := chg1S extD
/-- P.reverse(), P.clear() -/
def chg0S (f : List Dt → List Dt) (Fp : Ev → Rs (Dt × (Dt → Ev))) (ρ : Ev) : Ot := bindS (Fp ρ) ρ fun x => match x.1 with
  | .lst ds => .nx (x.2 (.lst (f ds)))
  | _ => .no
abbrev clrS := chg0S fun _ => []
theorem ss_clr (h : SemP J Γ Fp (.L m) te) (hx : Gx J Γ) : SemS J Γ Γ (clrS Fp) (tDrop (tBM0 J.K "list" rClear te)) := fun {G0 H0 G H ρ σ D} w p => by
  refine h w ((PostS.bind w hx p).imp (fun x _ q v G1 H1 e1 f1 => ?_) fun _ q => q)
  obtain ⟨xd, xp⟩ := x
  have w1 := w.ext e1
  cases xd with
  | lst ds =>
    obtain ⟨a, us, Pin, rfl, hu, own, pr, fin⟩ := f1.chg w1 (Ext.refl w1.gh)
    refine ⟨.inl ⟨rfl, us, .of hu⟩, a, us, rfl, rfl, hu, ?_⟩
    exact PostS.of_nx q σ G1 _ e1.g (fin [] [] Pno .nil fun b hb => hb.elim)
  | _ => cases q
end
end Pm
namespace Pm
open PySem PySem.Spec PyProof.Rows L2
open Classical
/-! ### sorted -/
def sortI (ns : List Int) : List Int := ns.mergeSort fun a b => decide (a ≤ b)
def leP (p q : Int × Int) : Bool := decide (p.1 < q.1 ∨ (p.1 = q.1 ∧ p.2 ≤ q.2))
def sortP (ps : List (Int × Int)) : List (Int × Int) := ps.mergeSort leP
def prD (p : Int × Int) : Dt := .tup [.int p.1, .int p.2]
def prsOf : List Dt → Option (List (Int × Int))
  | [] => some []
  | .tup [.int i, .int j] :: ds => (prsOf ds).map ((i, j) :: ·)
  | _ => none
def sortID (d : Dt) : Rs Dt := match lisD d with
  | some ds => (match intsOf ds with
    | some ns => .ok (.lst ((sortI ns).map .int))
    | none => .no)
  | none => .no
def sortIE := op1E sortID
def sortPD (d : Dt) : Rs Dt := match d with
  | .lst ds => (match prsOf ds with
    | some ps => .ok (.lst ((sortP ps).map prD))
    | none => .no)
  | _ => .no
def sortPE := op1E sortPD
section
variable {J : Jc} {Γ : List Mode} {F : Ev → Rs Dt} {te : TE} {G0 H0 G H G' H' : Hp} {ρ : Ev} {σ : L2.St}
end
end Pm
namespace RT
open PySem PySem.Spec PyProof.Rows
open AutoSeq1 (wpAny_loadPart')
/-! ### list(reversed(a list)) -/
section
variable {prog : Program} {w : World} {A : Around} {E : Value → Shared → Prop} {s : Shared}
end
end RT
namespace Pm
open PySem PySem.Spec PyProof.Rows L2 RT
section
variable {X : Cx}
end
/-! readings -/
section
variable {J : Jc} {Γ : List Mode} {em : EM} {m : Mode} {Fs : List (Ev → Rs Dt)} {F Fa Fb : Ev → Rs Dt} {te ta tb : TE} {tr : TA} {G0 H0 G H G' H' : Hp} {ρ : Ev} {σ : L2.St}
def lrevD (d : Dt) : Rs Dt := match lisD d with
  | some ds => .ok (.lst ds.reverse)
  | none => .no
def lrevE := op1E lrevD
def trevD (d : Dt) : Rs Dt := match lisD d with
  | some ds => .ok (.tup ds.reverse)
  | none => .no
def tupRevE := op1E trevD
/-- list(range(..)) -/
def lrng1E (F : Ev → Rs Dt) (ρ : Ev) : Rs Dt := F ρ >>= fun d => match d with
  | .int j => if intSz j = true then (if lenSz j.toNat = true then .ok (.lst (rangeL 0 j.toNat)) else .no) else .no
  | _ => .no
/-- divmod -/
@[irreducible] def dvmOk (j : Int) : Bool := decide (0 < j) && decide (j < 1073741824)
def dvmD : Dt → Dt → Rs Dt
  | .int i, .int j => if dvmOk j = true then .ok (.tup [.int (i / j), .int (i % j)]) else .no
  | _, _ => .no
def divmodE := op2E dvmD
end
end Pm
namespace Pm
open PySem PySem.Spec PyProof.Rows L2
open Classical
/-! ### dicts whose values are frozen -/
section
variable {κ : Type} [DecidableEq κ] {α β : Type}
def lookK (ks : List κ) (ds : List α) (k : κ) : Option α := ((ks.zip ds).find? fun q => decide (q.1 = k)).map (·.2)
def hasK (ks : List κ) (k : κ) : Bool := ks.any fun q => decide (q = k)
def putKs (ks : List κ) (k : κ) : List κ := if hasK ks k = true then ks else ks ++ [k]
def putDs (ks : List κ) (ds : List α) (k : κ) (d : α) : List α := if hasK ks k = true then (ks.zip ds).map (fun q => if q.1 = k then d else q.2) else ds ++ [d]
variable {K : PySem.W.Frag} {ca : Str → Addr} {H : Hp}
end
def flatKs : List Dt → Option (List Key)
  | [] => some []
  | .int i :: ds => (flatKs ds).map (.inl i :: ·)
  | .str x :: ds => (flatKs ds).map (.inr x :: ·)
  | _ => none
def keyD : Dt → Option (Key ⊕ List Key)
  | .int i => some (.inl (.inl i))
  | .str x => some (.inl (.inr x))
  | .tup ds => (flatKs ds).map .inr
  | _ => none
section
variable {K : PySem.W.Frag} {ca : Str → Addr} {H : Hp}
def dgetD (d k : Dt) : Rs (Option Dt) := match d, keyD k with
  | .dic ks ds, some (.inl x) => .ok (lookK ks ds x)
  | .dit ks ds, some (.inr x) => .ok (lookK ks ds x)
  | _, _ => .no
end
section
variable {J : Jc} {Γ Γ' Γ1 : List Mode} {em : EM} {m : Mode} {ms : List Mode} {F Fa Fb Fk Fd : Ev → Rs Dt} {te ta tb : TE} {G0 H0 Gs G H G' H' : Hp} {ρ : Ev} {σ : L2.St} {D : Ends} {v : V} {put : Dt → Ev} {Fp : Ev → Rs (Dt × (Dt → Ev))} {ts : TS} {Fs : Ev → Ot}
def dnewE (_ : Ev) : Rs Dt := .ok (.dic [] [])
def dnewTE (_ : Ev) : Rs Dt := .ok (.dit [] [])
def dinE (neg : Bool) (Fk Fd : Ev → Rs Dt) (ρ : Ev) : Rs Dt := Fk ρ >>= fun k => Fd ρ >>= fun d => dgetD d k >>= fun o => .ok (.bl (if neg = true then !o.isSome else o.isSome))
def dgetE (Fd Fk : Ev → Rs Dt) (ρ : Ev) : Rs Dt := Fd ρ >>= fun d => Fk ρ >>= fun k => dgetD d k >>= fun o => match o with
  | some e => .ok e
  | none => .no
/-- something looked at that has no parts -/
def scalE (F : Ev → Rs Dt) (ρ : Ev) : Rs Dt := F ρ >>= fun d => if scal d = true then .ok d else .no
def dlenD (d : Dt) : Rs Dt := match d with
  | .dic ks _ => .ok (.int ks.length)
  | _ => .no
def dlenTD (d : Dt) : Rs Dt := match d with
  | .dit ks _ => .ok (.int ks.length)
  | _ => .no
def dlenE := op1E dlenD
def dlenTE := op1E dlenTD
/-! the place of a dict -/
def dputD (d k y : Dt) : Option Dt := match d, keyD k with
  | .dic ks ds, some (.inl x) => if lenSz ks.length = true then some (.dic (putKs ks x) (putDs ks ds x y)) else none
  | .dit ks ds, some (.inr x) => if lenSz ks.length = true then some (.dit (putKs ks x) (putDs ks ds x y)) else none
  | _, _ => none
def dputS (Fv : Ev → Rs Dt) (Fp : Ev → Rs (Dt × (Dt → Ev))) (Fk : Ev → Rs Dt) (ρ : Ev) : Ot := bindS (Fv ρ) ρ fun y => bindS (Fp ρ) ρ fun x => bindS (Fk ρ) ρ fun k => match dputD x.1 k y with
  | some d => .nx (x.2 d)
  | none => .no
end
end Pm
namespace Pm
open PySem PySem.Spec PyProof.Rows L2
open Classical
/-! ### the place of a field, of a tuple's item -/
section
variable {J : Jc} {Γ Γ' Γ1 : List Mode} {em : EM} {m : Mode} {ms : List Mode} {F Fa Fb Fi : Ev → Rs Dt} {te ta tb ti : TE} {G0 H0 Gs G H G' H' : Hp} {ρ : Ev} {σ : L2.St} {D : Ends} {v : V} {put : Dt → Ev} {Fp : Ev → Rs (Dt × (Dt → Ev))} {ts : TS} {Fs : Ev → Ot}
def fldP (C f : Str) (j : Nat) (Fp : Ev → Rs (Dt × (Dt → Ev))) (ρ : Ev) : Rs (Dt × (Dt → Ev)) := Fp ρ >>= fun x => match x.1 with
  | .ins C' ns ds => if C' = C ∧ fix f ns = some j then (match ds[j]? with
    | some e => .ok (e, fun y => x.2 (.ins C' ns (ds.set j y)))
    | none => .no) else .no
  | _ => .no
def tixP (j : Nat) (Fp : Ev → Rs (Dt × (Dt → Ev))) (ρ : Ev) : Rs (Dt × (Dt → Ev)) := Fp ρ >>= fun x => match x.1 with
  | .tup ds => (match ds[j]? with
    | some e => .ok (e, fun y => x.2 (.tup (ds.set j y)))
    | none => .no)
  | _ => .no
/-! ### a field is frozen -/
end
end Pm
namespace Pm
open PySem PySem.Spec PyProof.Rows L2
open Classical
/-! ### names that are read no more -/
section
variable {J : Jc} {Γ Γ' : List Mode} {G0 H0 G H : Hp} {ρ : Ev} {σ : L2.St} {F : Ev → Ot} {ts : TS} {vs : List Nat}
theorem Wd.fgt (w : Wd J G0 H0 Γ ρ σ G H) (vs : List Nat) : Wd J G0 H0 Γ (wipeE ρ vs) σ G H := by
  obtain ⟨Pf, h1, h2, h3⟩ := w.env
  exact ⟨w.x, by rw [wipeE_length]; exact w.lg, by rw [wipeE_length]; exact w.lr, ⟨Pf, h1, h2, fun i d q => h3 i d (wipeE_some q).1⟩, w.pn, w.xk⟩
def fgtS (vs : List Nat) (F : Ev → Ot) (ρ : Ev) : Ot := F (wipeE ρ vs)
theorem ss_fgt (h : SemS J Γ Γ' F ts) : SemS J Γ Γ' (fgtS vs F) ts := fun {G0 H0 G H ρ σ D} w p => h (w.fgt vs) p
end
end Pm
namespace Pm
open PySem PySem.Spec PyProof.Rows L2 C8
open Classical
/-! ### int(x), isinstance of own classes, of tuples of classes -/
def intD : Dt → Rs Dt
  | .int i => .ok (.int i)
  | .bl b => .ok (.int (if b = true then 1 else 0))
  | _ => .no
def intE := op1E intD
def isCD (C : Str) : Dt → Rs Dt
  | .ins C' _ _ => if C' = C then .ok (.bl true) else .no
  | _ => .no
def isCE (C : Str) := op1E (isCD C)
section
variable {J : Jc} {Γ Γ' Γ1 Γ2 : List Mode} {em : EM} {m : Mode} {ms : List Mode} {Fe Fa Fb Fi : Ev → Rs Dt} {Fs : List (Ev → Rs Dt)} {te ta tb ti : TE} {tr : TA} {G0 H0 Gs G H G' H' : Hp} {ρ : Ev} {σ : L2.St} {vs : List Nat}
  {F F1 F2 : Ev → Ot} {ts t1 t2 : TS} {D : Ends} {d : Dt} {v : V} {put : Dt → Ev} {Fp : Ev → Rs (Dt × (Dt → Ev))}
/-! ### index, count -/
def ixOf (y : Dt) : List Dt → Option Nat
  | [] => none
  | d :: ds => if deq d y = true then some 0 else (ixOf y ds).map (· + 1)
def indexD (ds : List Dt) (b : Dt) : Rs Dt := if (scal b && ds.all scal) = true then (match ixOf b ds with
    | some j => .ok (.int (j : Nat))
    | none => .no) else .no
def countD (ds : List Dt) (b : Dt) : Rs Dt := if (scal b && ds.all scal) = true then .ok (.int ((ds.countP fun d => deq d b : Nat) : Int)) else .no
def bm1E (g : List Dt → Dt → Rs Dt) (Fa Fb : Ev → Rs Dt) (ρ : Ev) : Rs Dt := Fa ρ >>= fun a => lstOf a >>= fun ds => Fb ρ >>= fun b => g ds b
def indexE := bm1E indexD
def countE := bm1E countD
/-! ### pop of frozen items -/
theorem Rps.erase {K : PySem.W.Frag} {ca : Str → Addr} : ∀ {ds : List Dt} {us : List V} (j : Nat), Rps K ca H ds us → Rps K ca H (ds.eraseIdx j) (us.eraseIdx j)
  | [], _, j, h => by cases h; simp; exact .nil
  | d :: ds, _, 0, h => by
    cases h with
    | cons h1 h2 => simpa using h2
  | d :: ds, _, j + 1, h => by
    cases h with
    | cons h1 h2 => simpa using Rps.cons h1 (Rps.erase j h2)
/-- P.pop(e): what goes, what is left -/
def popD (ds : List Dt) (k : Dt) : Rs (Dt × List Dt) := match k with
  | .int i => (match ixN ds.length i with
    | some j => (match ds[j]? with
      | some y => if intSz i = true then .ok (y, ds.eraseIdx j) else .no
      | none => .no)
    | none => .no)
  | _ => .no
/-- P.pop(e) as a statement -/
def popS (Fp : Ev → Rs (Dt × (Dt → Ev))) (Fe : Ev → Rs Dt) (ρ : Ev) : Ot := bindS (Fp ρ) ρ fun x => bindS (lstOf x.1) ρ fun ds => bindS (Fe ρ) ρ fun k => bindS (popD ds k) ρ fun y => .nx (x.2 (.lst y.2))
/-- n = P.pop(e) -/
def asgPopS (i : Nat) (Fp : Ev → Rs (Dt × (Dt → Ev))) (Fe : Ev → Rs Dt) (ρ : Ev) : Ot := bindS (Fp ρ) ρ fun x => bindS (lstOf x.1) ρ fun ds => bindS (Fe ρ) ρ fun k => bindS (popD ds k) ρ fun y => .nx ((x.2 (.lst y.2)).set i (some y.1))
/-- P.append(n.pop(e)), n a name -/
def appPopS (Fp : Ev → Rs (Dt × (Dt → Ev))) (j : Nat) (Fe : Ev → Rs Dt) (ρ : Ev) : Ot := bindS (Fp ρ) ρ fun x => bindS (lstOf x.1) ρ fun ds => bindS (varE j ρ) ρ fun q => bindS (lstOf q) ρ fun xs => bindS (Fe ρ) ρ fun k => bindS (popD xs k) ρ fun y =>
  bindS (varE j (x.2 (.lst (ds ++ [y.1])))) ρ fun q2 => bindS (lstOf q2) ρ fun xs2 => bindS (popD xs2 k) ρ fun y2 => if (lenSz ds.length && decide (xs2.length = xs.length)) = true then .nx ((x.2 (.lst (ds ++ [y.1]))).set j (some (.lst y2.2))) else .no
/-! ### results owned, arguments looked at -/
mutual
def leafOk : Mode → Dt → Bool
  | .F, d => scal d
  | .L _, .non => true
  | .T _, .non => true
  | .L m, .lst ds => leafAll m ds
  | .T ms, .tup ds => leafsOk ms ds
  | .T ms, .lst ds => leafsOk ms ds
  | .K m, .dic _ ds => leafAll m ds
  | .K m, .dit _ ds => leafAll m ds
  | .I ms, .ins _ _ ds => leafsOk ms ds
  | _, _ => false
def leafAll (m : Mode) : List Dt → Bool
  | [] => true
  | d :: ds => leafOk m d && leafAll m ds
def leafsOk : List Mode → List Dt → Bool
  | [], [] => true
  | m :: ms, d :: ds => leafOk m d && leafsOk ms ds
  | _, _ => false
end
def leafR (m : Mode) (r : Rs Dt) : Rs Dt := r >>= fun d => if leafOk m d = true then .ok d else .no
def callLE (m : Mode) (Fn : List Dt → Rs Dt) (Fs : List (Ev → Rs Dt)) (ρ : Ev) : Rs Dt := argsE Fs ρ >>= fun ds => leafR m (Fn ds)
variable {Fn : List Dt → Rs Dt} {np : Nat}
def methLE (m : Mode) (C mm : Str) (Fn : List Dt → Rs Dt) (Fo : Ev → Rs Dt) (Fs : List (Ev → Rs Dt)) (ρ : Ev) : Rs Dt := Fo ρ >>= fun s => noMeth C mm s >>= fun _ => argsE Fs ρ >>= fun ds => leafR m (Fn (s :: ds))
/-! ### isinstance(e, (A, B, ..)) of the caught exception -/
def isxTE (tabs : List (List (Str × Bool))) (c : Str) (_ : Ev) : Rs Dt := match tabs.mapM fun t => t.lookup c with
  | some bs => .ok (.bl (bs.any id))
  | none => .no
/-- classes, their values, what they are to whom -/
inductive IsxT (K : PySem.W.Frag) (ca : Str → Addr) : List V → List Value → List (List (Str × Bool)) → Prop
  | nil : IsxT K ca [] [] []
  | cons {v : V} {cv : Value} {tab : List (Str × Bool)} {vs : List V} {us : List Value} {ts : List (List (Str × Bool))} : ClsV v cv → Isx K ca cv tab → IsxT K ca vs us ts → IsxT K ca (v :: vs) (cv :: us) (tab :: ts)
theorem IsxT.any {K : PySem.W.Frag} {ca : Str → Addr} {c : Str} : ∀ {vs : List V} {us : List Value} {ts : List (List (Str × Bool))} {bs : List Bool}, IsxT K ca vs us ts → (ts.mapM fun t => t.lookup c) = some bs → PySem.W.kitAny K (.ref (ca c)) us = some (bs.any id)
  | _, _, _, bs, .nil, e => by
    have e : some ([] : List Bool) = some bs := e
    cases e
    rfl
  | _, _, _, bs, .cons (tab := tab) (ts := ts) h k t, e => by
    rw [List.mapM_cons] at e
    cases z : tab.lookup c with
    | none => rw [z] at e; cases e
    | some b =>
      rw [z] at e
      cases z2 : (ts.mapM fun t => t.lookup c) with
      | none => rw [z2] at e; cases e
      | some cs =>
        rw [z2] at e
        have e : some (b :: cs) = some bs := e
        cases e
        refine kitAny_cons (k c b z) (fun hb => ?_) fun hb => ?_
        · rw [IsxT.any t z2, hb]; rfl
        · rw [hb]; rfl
/-! ### x is True, False -/
def isBD (c : Bool) : Dt → Rs Dt
  | .bl b => .ok (.bl (decide (b = c)))
  | _ => .no
def isBE (c : Bool) := op1E (isBD c)
end
/-! the facts of a class whose instances are asked -/
end Pm
/-! ### sorted of pairs of tuples of ints -/
namespace SrtO
open PySem PyProof.Rows Srt L2
/-- x before y: by the first tuples, then by the second ones -/
def lexN (p q : List Int × List Int) : Bool := if p.1 = q.1 then HT.lexLt p.2 q.2 else HT.lexLt p.1 q.1
def IsNest (h : Heap) (v : Value) (k : List Int × List Int) : Prop := ∃ a o fa wa n fi wi, v = Value.ref a ∧ h.get? a = some o ∧ o.cls = .type "tuple" ∧ o.data = .seq #[.ref fa, .ref wa] n ∧ IsTup h fa fi ∧ IntsAre fi.toList k.1 ∧ IsTup h wa wi ∧ IntsAre wi.toList k.2
theorem IsNest.keeps {h h' : Heap} {v : Value} {k : List Int × List Int} (p : IsNest h v k) (kp : ∀ b o, h.get? b = some o → o.cls = .type "tuple" → h'.get? b = some o) : IsNest h' v k := by
  obtain ⟨a, o, fa, wa, n, fi, wi, e, ho, hc, hd, ⟨o1, h1, c1, d1⟩, i1, ⟨o2, h2, c2, d2⟩, i2⟩ := p
  exact ⟨a, o, fa, wa, n, fi, wi, e, kp _ _ ho hc, hc, hd, ⟨o1, kp _ _ h1 c1, c1, d1⟩, i1, ⟨o2, kp _ _ h2 c2, c2, d2⟩, i2⟩
section
variable {prog : Program} {w : World} {A : Around} {E : Value → Shared → Prop} {s : Shared}
end
end SrtO
namespace L2
open PySem PySem.Spec PyProof.Rows
section
variable {X : Cx}
end
end L2
namespace Pm
open PySem PySem.Spec PyProof.Rows L2
open Classical
abbrev Nst := List Int × List Int
def leN (p q : Nst) : Bool := !SrtO.lexN q p
def sortN (ps : List Nst) : List Nst := ps.mergeSort leN
def nsD (p : Nst) : Dt := .tup [.tup (p.1.map .int), .tup (p.2.map .int)]
def nstsOf : List Dt → Option (List Nst)
  | [] => some []
  | .tup [.tup a, .tup b] :: ds => (match intsOf a, intsOf b with
    | some ns, some ms => (nstsOf ds).map ((ns, ms) :: ·)
    | _, _ => none)
  | _ => none
def sortND (d : Dt) : Rs Dt := match d with
  | .lst ds => (match nstsOf ds with
    | some ps => .ok (.lst ((sortN ps).map nsD))
    | none => .no)
  | _ => .no
def sortNE := op1E sortND
section
variable {J : Jc} {Γ : List Mode} {F Fa Fb : Ev → Rs Dt} {te ta tb : TE} {G0 H0 G H G' H' : Hp} {ρ : Ev} {σ : L2.St}
/-! ### a < b of tuples of ints -/
def tupLtD (a b : Dt) : Rs Dt := match a, b with
  | .tup xs, .tup ys => (match intsOf xs, intsOf ys with
    | some ns, some ms => .ok (.bl (HT.lexLt ns ms))
    | _, _ => .no)
  | _, _ => .no
def ltTE := op2E tupLtD
def tupGtD (a b : Dt) : Rs Dt := tupLtD b a
def gtTE := op2E tupGtD
end
/-! ### x in a list, by data -/
section
open PySem PySem.Spec PyProof.Rows
end
section
variable {J : Jc} {Γ : List Mode} {Fa Fb : Ev → Rs Dt} {ta tb : TE}
def inDD (a b : Dt) : Rs Dt := match b with
  | .lst ds => if (eqOK a && eqOK (.lst ds)) = true then .ok (.bl (inD a ds)) else .no
  | _ => .no
def inDE := op2E inDD
end
end Pm
namespace Pm
open PySem PySem.Spec PyProof.Rows L2
open Classical
/-! ### more readings -/
section
variable {J : Jc} {Γ Γ' Γ1 Γ2 Γb : List Mode} {em : EM} {m M : Mode} {ms : List Mode} {F Fe Fa Fb Fd Fk Fi : Ev → Rs Dt} {Fs : List (Ev → Rs Dt)} {te ta tb ti : TE} {tr : TA} {G0 H0 Gs G H G' H' : Hp} {ρ : Ev} {σ : L2.St} {vs : List Nat}
  {ts t1 t2 : TS} {D : Ends} {d : Dt} {v : V} {put : Dt → Ev} {Fp : Ev → Rs (Dt × (Dt → Ev))}
/-! x is not True, False -/
def notBD (c : Bool) : Dt → Rs Dt
  | .bl b => .ok (.bl (!decide (b = c)))
  | _ => .no
def notBE (c : Bool) := op1E (notBD c)
/-! an owned item of an owned list -/
/-! what stands in a frozen dict -/
/-! ### d.setdefault(k, []).append(x) -/
def posK : List Key → Key → Option Nat
  | [], _ => none
  | q :: ks, z => if q = z then some 0 else (posK ks z).map (· + 1)
def sdAppD (ks : List Key) (ds : List Dt) (z : Key) (y : Dt) : Option Dt := if lenSz ks.length = true then (match posK ks z with
    | some j => (match ds[j]? with
      | some (.lst es) => if lenSz es.length = true then some (.dic ks (ds.set j (.lst (es ++ [y])))) else none
      | _ => none)
    | none => some (.dic (ks ++ [z]) (ds ++ [.lst [y]]))) else none
def sdAppK (x : Dt × (Dt → Ev)) (ks : List Key) (ds : List Dt) (k y : Dt) : Ot := match keyD k with
  | some (.inl z) => (match sdAppD ks ds z y with
    | some d => .nx (x.2 d)
    | none => .no)
  | _ => .no
def sdAppS (Fp : Ev → Rs (Dt × (Dt → Ev))) (Fk : Ev → Rs Dt) (i : Nat) (ρ : Ev) : Ot := bindS (Fp ρ) ρ fun x => match x.1 with
  | .dic ks ds => bindS (Fk ρ) ρ fun k => bindS (varE i ρ) ρ fun y => sdAppK x ks ds k y
  | _ => .no
/-! sorted(d), whole numbers as keys -/
def intKs : List Key → Option (List Int)
  | [] => some []
  | .inl i :: ks => (intKs ks).map fun l => i :: l
  | _ :: _ => none
def sortDI (d : Dt) : Rs Dt := match d with
  | .dic ks _ => (match intKs ks with
    | some ns => if decide (ns.length < 64) = true then .ok (.lst ((sortI ns).map .int)) else .no
    | none => .no)
  | _ => .no
def sortDIE := op1E sortDI
/-! displays of what is looked at -/
/-! ### for x in P, where x is changed in place: the item is lent to the name -/
def tgetD : Option Nat → Dt → Option Dt
  | none, d => some d
  | some k, .tup ds => ds[k]?
  | some k, .lst ds => ds[k]?
  | some _, _ => none
def tputD : Option Nat → Dt → Dt → Dt
  | none, _, y => y
  | some k, .tup ds, y => .tup (ds.set k y)
  | some k, .lst ds, y => .lst (ds.set k y)
  | some _, d, _ => d
def tmode : Option Nat → Mode → Option Mode
  | none, M => some M
  | some k, .T ms => ms[k]?
  | some _, _ => none
def stQ (H : Hp) (v : V) (a : Addr) (P : Addr → Prop) : Option Nat → Prop
  | none => v = .ref a
  | some k => ∃ b ws, v = .ref b ∧ (H b = some (.tup ws) ∨ H b = some (.lst ws)) ∧ ws[k]? = some (.ref a) ∧ P b
theorem Ow.lensL {K : PySem.W.Frag} {ca : Str → Addr} {G H : Hp} {m : Mode} {v : V} {P : Addr → Prop} {ds : List Dt} {i : Nat} {e : Dt} (o : Ow K ca G H (.L m) (.lst ds) v P) (hi : ds[i]? = some e) :
    ∃ a us u Pk, v = .ref a ∧ H a = some (.lst us) ∧ us[i]? = some u ∧ ds.length = us.length ∧ P a ∧ ¬ Pk a ∧ Ow K ca G H m e u Pk ∧ (∀ b, Pk b → P b) ∧ ∀ G2 H2 d2 P2, Same G G2 → (∀ b, P b → ¬ Pk b → H2 b = H b ∧ G2 b = none) → Ow K ca G2 H2 m d2 u P2 → (∀ b, P2 b → Pk b ∨ ¬ P b) → Ow K ca G2 H2 (.L m) (.lst (ds.set i d2)) v (fun b => (P b ∧ ¬ Pk b) ∨ P2 b) := by
  cases o with
  | @L _ a us _ _ h1 h2 h3 h4 =>
    obtain ⟨u, Pk, q1, q2, q3, q4⟩ := h4.focus (k := i) (m := m) (by rw [List.getElem?_replicate, if_pos (List.getElem?_eq_some_iff.mp hi).1]) hi
    have na : ¬ Pk a := fun z => (q3 a z).2 rfl
    refine ⟨a, us, u, Pk, rfl, h1, q1, h4.len.1, h3, na, q2, fun b hb => (q3 b hb).1, fun G2 H2 d2 P2 sg c o2 c2 => ?_⟩
    have ca2 := c a h3 na
    have p2a : ∀ b, P2 b → b ≠ a := fun b hb z => by
      rcases c2 b hb with y | y
      · exact na (z ▸ y)
      · exact y (z ▸ h3)
    refine .L (by rw [ca2.1]; exact h1) ca2.2 (.inl ⟨h3, na⟩) ?_
    rw [List.length_set]
    refine (q4 G2 H2 d2 P2 sg (fun b hb hn => c b hb.1 hn) o2 fun b hb => (c2 b hb).imp id fun z y => z y.1).weaken fun b hb => ?_
    rcases hb with ⟨⟨z1, z2⟩, z3⟩ | z
    · exact ⟨.inl ⟨z1, z3⟩, z2⟩
    · exact ⟨.inr z, p2a b z⟩
/-- down to the list, then to one of its items -/
theorem Ow.lens {K : PySem.W.Frag} {ca : Str → Addr} {G H : Hp} {m M : Mode} {pth : Option Nat} {d : Dt} {v : V} {P : Addr → Prop} {ds : List Dt} {i : Nat} {e : Dt} (o : Ow K ca G H M d v P) (hM : tmode pth M = some (.L m)) (hd : tgetD pth d = some (.lst ds)) (hi : ds[i]? = some e) :
    ∃ a us u Pk, H a = some (.lst us) ∧ us[i]? = some u ∧ ds.length = us.length ∧ P a ∧ ¬ Pk a ∧ stQ H v a (fun b => P b ∧ ¬ Pk b) pth ∧ Ow K ca G H m e u Pk ∧ (∀ b, Pk b → P b) ∧
      ∀ G2 H2 d2 P2, Same G G2 → (∀ b, P b → ¬ Pk b → H2 b = H b ∧ G2 b = none) → Ow K ca G2 H2 m d2 u P2 → (∀ b, P2 b → Pk b ∨ ¬ P b) → Ow K ca G2 H2 M (tputD pth d (.lst (ds.set i d2))) v (fun b => (P b ∧ ¬ Pk b) ∨ P2 b) := by
  cases pth with
  | none =>
    cases hM
    cases hd
    obtain ⟨a, us, u, Pk, e1, h1, q1, hl, pa, na, q2, q3, q4⟩ := o.lensL hi
    exact ⟨a, us, u, Pk, h1, q1, hl, pa, na, e1, q2, q3, q4⟩
  | some k =>
    cases o with
    | @T ms b ws ds0 _ h1 h2 h3 h4 =>
      have hM : ms[k]? = some (.L m) := hM
      have hd : ds0[k]? = some (.lst ds) := hd
      obtain ⟨w, Pw, r1, r2, r3, r4⟩ := h4.focus (k := k) hM hd
      obtain ⟨a, us, u, Pk, e1, g1, q1, hl, pa, na, q2, q3, q4⟩ := r2.lensL hi
      subst e1
      have nb : ¬ Pk b := fun z => (r3 b (q3 b z)).2 rfl
      refine ⟨a, us, u, Pk, g1, q1, hl, (r3 a pa).1, na, ⟨b, ws, rfl, .inl h1, r1, h3, nb⟩, q2, fun x hx => (r3 x (q3 x hx)).1, fun G2 H2 d2 P2 sg c o2 c2 => ?_⟩
      have cb2 := c b h3 nb
      have inner := q4 G2 H2 d2 P2 sg (fun x hx hn => c x (r3 x hx).1 hn) o2 fun x hx => (c2 x hx).imp id fun z y => z (r3 x y).1
      have p2b : ∀ x, P2 x → x ≠ b := fun x hx z => by
        rcases c2 x hx with y | y
        · exact nb (z ▸ y)
        · exact y (z ▸ h3)
      refine .T (by rw [cb2.1]; exact h1) cb2.2 (.inl ⟨h3, nb⟩) ?_
      refine (r4 G2 H2 (.lst (ds.set i d2)) (fun x => (Pw x ∧ ¬ Pk x) ∨ P2 x) sg (fun x hx hn => c x hx.1 fun z => hn (q3 x z)) inner fun x hx => ?_).weaken fun x hx => ?_
      · rcases hx with z | z
        · exact .inl z.1
        · rcases c2 x z with y | y
          · exact .inl (q3 x y)
          · exact .inr fun t => y t.1
      · rcases hx with ⟨⟨z1, z2⟩, z3⟩ | ⟨z1, z2⟩ | z
        · exact ⟨.inl ⟨z1, fun t => z3 (q3 x t)⟩, z2⟩
        · exact ⟨.inl ⟨(r3 x z1).1, z2⟩, (r3 x z1).2⟩
        · exact ⟨.inr z, p2b x z⟩
    | @TL ms b ws ds0 _ h1 h2 h3 h4 =>
      have hM : ms[k]? = some (.L m) := hM
      have hd : ds0[k]? = some (.lst ds) := hd
      obtain ⟨w, Pw, r1, r2, r3, r4⟩ := h4.focus (k := k) hM hd
      obtain ⟨a, us, u, Pk, e1, g1, q1, hl, pa, na, q2, q3, q4⟩ := r2.lensL hi
      subst e1
      have nb : ¬ Pk b := fun z => (r3 b (q3 b z)).2 rfl
      refine ⟨a, us, u, Pk, g1, q1, hl, (r3 a pa).1, na, ⟨b, ws, rfl, .inr h1, r1, h3, nb⟩, q2, fun x hx => (r3 x (q3 x hx)).1, fun G2 H2 d2 P2 sg c o2 c2 => ?_⟩
      have cb2 := c b h3 nb
      have inner := q4 G2 H2 d2 P2 sg (fun x hx hn => c x (r3 x hx).1 hn) o2 fun x hx => (c2 x hx).imp id fun z y => z (r3 x y).1
      have p2b : ∀ x, P2 x → x ≠ b := fun x hx z => by
        rcases c2 x hx with y | y
        · exact nb (z ▸ y)
        · exact y (z ▸ h3)
      refine .TL (by rw [cb2.1]; exact h1) cb2.2 (.inl ⟨h3, nb⟩) ?_
      refine (r4 G2 H2 (.lst (ds.set i d2)) (fun x => (Pw x ∧ ¬ Pk x) ∨ P2 x) sg (fun x hx hn => c x hx.1 fun z => hn (q3 x z)) inner fun x hx => ?_).weaken fun x hx => ?_
      · rcases hx with z | z
        · exact .inl z.1
        · rcases c2 x z with y | y
          · exact .inl (q3 x y)
          · exact .inr fun t => y t.1
      · rcases hx with ⟨⟨z1, z2⟩, z3⟩ | ⟨z1, z2⟩ | z
        · exact ⟨.inl ⟨z1, fun t => z3 (q3 x t)⟩, z2⟩
        · exact ⟨.inl ⟨(r3 x z1).1, z2⟩, (r3 x z1).2⟩
        · exact ⟨.inr z, p2b x z⟩
    | _ => first | (cases hd; done) | (simp [tmode] at hM; done) | (simp [tgetD] at hd)
/-- an owned list, empty or not, as it stands -/
theorem Ow.lst_at {K : PySem.W.Frag} {ca : Str → Addr} {G H : Hp} {m M : Mode} {pth : Option Nat} {d : Dt} {v : V} {P : Addr → Prop} {ds : List Dt} (o : Ow K ca G H M d v P) (hM : tmode pth M = some (.L m)) (hd : tgetD pth d = some (.lst ds)) :
    ∃ a us, H a = some (.lst us) ∧ ds.length = us.length ∧ stQ H v a (fun _ => True) pth := by
  cases pth with
  | none =>
    cases hM
    cases hd
    cases o with
    | @L _ a us _ _ h1 h2 h3 h4 => exact ⟨a, us, h1, h4.len.1, rfl⟩
  | some k =>
    cases o with
    | @T ms b ws ds0 _ h1 h2 h3 h4 =>
      have hM : ms[k]? = some (.L m) := hM
      have hd : ds0[k]? = some (.lst ds) := hd
      obtain ⟨w, Pw, r1, r2, r3, r4⟩ := h4.focus (k := k) hM hd
      cases r2 with
      | @L _ a us _ _ g1 g2 g3 g4 => exact ⟨a, us, g1, g4.len.1, b, ws, rfl, .inl h1, r1, True.intro⟩
    | @TL ms b ws ds0 _ h1 h2 h3 h4 =>
      have hM : ms[k]? = some (.L m) := hM
      have hd : ds0[k]? = some (.lst ds) := hd
      obtain ⟨w, Pw, r1, r2, r3, r4⟩ := h4.focus (k := k) hM hd
      cases r2 with
      | @L _ a us _ _ g1 g2 g3 g4 => exact ⟨a, us, g1, g4.len.1, b, ws, rfl, .inr h1, r1, True.intro⟩
    | _ => first | (cases hd; done) | (simp [tmode] at hM; done) | (simp [tgetD] at hd)
def tPth (K : PySem.W.Frag) (j : Nat) : Option Nat → TE
  | none => tVar j
  | some k => tOp (rIx K) (tVar j) (tC (.int (k : Nat)))
def forML (j : Nat) (pth : Option Nat) (x : Nat) (Fb : Ev → Ot) : Nat → Nat → Ev → Ot
  | 0, _, ρ => .nx ρ
  | n + 1, i, ρ => match ρ[j]? with
    | some (some d) => match tgetD pth d with
      | some (.lst ds) => match ds[i]? with
        | some e => match Fb ((ρ.set j none).set x (some e)) with
          | .nx ρ2 => (match ρ2[x]? with
            | some (some e') => forML j pth x Fb n (i + 1) ((ρ2.set x none).set j (some (tputD pth d (.lst (ds.set i e')))))
            | _ => .no)
          | .ct ρ2 => (match ρ2[x]? with
            | some (some e') => forML j pth x Fb n (i + 1) ((ρ2.set x none).set j (some (tputD pth d (.lst (ds.set i e')))))
            | _ => .no)
          | .bk ρ2 => (match ρ2[x]? with
            | some (some e') => .nx ((ρ2.set x none).set j (some (tputD pth d (.lst (ds.set i e')))))
            | _ => .no)
          | .rt d => .rt d
          | _ => .no
        | none => .no
      | _ => .no
    | _ => .no
def forM (j : Nat) (pth : Option Nat) (x : Nat) (Fb : Ev → Ot) (ρ : Ev) : Ot := match ρ[j]? with
  | some (some d) => match tgetD pth d with
    | some (.lst ds) => forML j pth x Fb ds.length 0 ρ
    | _ => .no
  | _ => .no
abbrev Jc.lpM (J : Jc) (Γ : List Mode) (p : List (Nat × V)) : Jc := { J with gb := Γ, pin := p }
theorem tput_len {pth : Option Nat} {d y : Dt} {ds : List Dt} (h : tgetD pth d = some (.lst ds)) : tgetD pth (tputD pth d y) = some y := by
  cases pth with
  | none => rfl
  | some k =>
    cases d with
    | tup es =>
      have h : es[k]? = some (.lst ds) := h
      show (es.set k y)[k]? = some y
      exact List.getElem?_set_self (List.getElem?_eq_some_iff.mp h).1
    | lst es =>
      have h : es[k]? = some (.lst ds) := h
      show (es.set k y)[k]? = some y
      exact List.getElem?_set_self (List.getElem?_eq_some_iff.mp h).1
    | _ => cases h
theorem ss_forM {j x : Nat} {pth : Option Nat} {F : Ev → Ot} (hj : Γ[j]? = some M) (hM : tmode pth M = some (.L m)) (hx : j ≠ x) (hxl : x < Γ.length) (hpx : J.pin = []) (hb : ∀ v u, SemS (J.lpM (Γ.set x m) [(j, v), (x, u)]) (Γ.set x m) (Γ.set x m) F ts) :
    SemS J Γ Γ (forM j pth x F) (tFor (iSeqA J.K (tPth J.K j pth)) (gName x) ts) := fun {G0 H0 G H ρ σ D} w p => by
  unfold forM at p
  cases hq : ρ[j]? with
  | none => rw [hq] at p; cases p
  | some o =>
  cases o with
  | none => rw [hq] at p; cases p
  | some d =>
  rw [hq] at p
  dsimp only at p
  cases hd : tgetD pth d with
  | none => rw [hd] at p; cases p
  | some dl =>
  rw [hd] at p
  cases dl with
  | lst ds =>
    have p : PostS J G0 H0 G Γ D (forML j pth x F ds.length 0 ρ) := p
    obtain ⟨v0, m0, P0, s1, s2, s3, s4⟩ := w.get hq
    rw [hj] at s2
    cases s2
    obtain ⟨a, us, ha, hl, hv⟩ := s3.lst_at hM hd
    have rd : ∀ Q : VK, Q (.ref a) H → tPth J.K j pth σ H Q := fun Q q => by
      cases pth with
      | none =>
        have hv : v0 = .ref a := hv
        exact ⟨v0, s1, by rw [hv]; exact q⟩
      | some k =>
        obtain ⟨b, ws, rfl, hb, hw, _⟩ := hv
        rcases hb with hb | hb
        · exact ⟨_, s1, .inr (.inl ⟨b, ws, _, _, rfl, rfl, .of hb, L2.atI_nat hw, q⟩)⟩
        · exact ⟨_, s1, .inl ⟨b, ws, _, _, rfl, rfl, .of hb, L2.atI_nat hw, q⟩⟩
    refine .inl (rd _ ⟨a, rfl, ⟨us, .of ha⟩, ?_⟩)
    refine ⟨fun i n σ' Hi => ∃ G' ρ' d' ds', n = ds'.length - i ∧ i ≤ ds'.length ∧ Wd J G0 H0 Γ ρ' σ' G' Hi ∧ Same G G' ∧ ρ'[j]? = some (some d') ∧ tgetD pth d' = some (.lst ds') ∧ σ'[j]? = some (some v0) ∧ (∃ us', Hi a = some (.lst us') ∧ us'.length = ds'.length) ∧ stQ Hi v0 a (fun _ => True) pth ∧ PostS J G0 H0 G' Γ D (forML j pth x F (ds'.length - i) i ρ'),
      ⟨ds.length, G, ρ, d, ds, by simp, Nat.zero_le _, w, Same.refl _, hq, hd, s1, ⟨us, ha, hl.symm⟩, hv, p⟩, ?_⟩
    rintro i n σ' Hi ⟨G', ρ', d', ds', rfl, hi', w', sg, hq', hd', sj, ⟨us', ha', hl'⟩, hv', q'⟩
    by_cases hlt : i < ds'.length
    case neg =>
      have ei : i = ds'.length := by omega
      subst ei
      rw [Nat.sub_self] at q'
      exact .inl ⟨⟨us', .of ha', by omega⟩, PostS.of_nx q' σ' G' Hi (Same.refl _) w'⟩
    have he : ds'[i]? = some ds'[i] := List.getElem?_eq_getElem hlt
    have hn : ds'.length - i = (ds'.length - (i + 1)) + 1 := by omega
    rw [hn] at q'
    unfold forML at q'
    rw [hq'] at q'
    dsimp only at q'
    rw [hd'] at q'
    dsimp only at q'
    rw [he] at q'
    dsimp only at q'
    obtain ⟨Pf, k1, k2, k3⟩ := w'.env
    obtain ⟨v1, m1, t1, t2, t3⟩ := k3 j d' hq'
    rw [hj] at t2
    cases t2
    rw [sj] at t1
    cases t1
    obtain ⟨a2, us2, u, Pk, g1, g2, g3, g4, g5, g6, g7, g8, g9⟩ := t3.lens hM hd' he
    have ea : a2 = a := by
      cases pth with
      | none =>
        have h1 : v0 = .ref a2 := g6
        have h2 : v0 = .ref a := hv'
        rw [h1] at h2
        exact V.ref.inj h2
      | some k =>
        obtain ⟨b, ws, h1, h2, h3, _⟩ := g6
        obtain ⟨b', ws', h1', h2', h3', _⟩ := hv'
        rw [h1] at h1'
        cases h1'
        have ew : ws = ws' := by
          rcases h2 with h2 | h2 <;> rcases h2' with h2' | h2' <;> (rw [h2] at h2'; first | (cases h2'; done) | (cases h2'; rfl))
        subst ew
        rw [h3] at h3'
        cases h3'
        rfl
    subst ea
    rw [ha'] at g1
    cases g1
    refine .inr ⟨⟨us', u, .of ha', g2⟩, fun σ2 H2 => ∃ m', m' < ds'.length - i ∧ ∃ G' ρ' d' ds', m' = ds'.length - (i + 1) ∧ i + 1 ≤ ds'.length ∧ Wd J G0 H0 Γ ρ' σ2 G' H2 ∧ Same G G' ∧ ρ'[j]? = some (some d') ∧ tgetD pth d' = some (.lst ds') ∧ σ2[j]? = some (some v0) ∧ (∃ us', H2 a2 = some (.lst us') ∧ us'.length = ds'.length) ∧ stQ H2 v0 a2 (fun _ => True) pth ∧ PostS J G0 H0 G' Γ D (forML j pth x F (ds'.length - (i + 1)) (i + 1) ρ'), fun σ2 H2 z => z, ?_⟩
    rintro u2 H3 ⟨rfl, y2⟩
    have eu := y2 us' (.of ha')
    rw [g2] at eu
    cases eu
    show ts _ (σ'.set x (some u)) H3
    -- the world of the body
    have lx : ρ'.length = σ'.length := w'.lr
    have lj : j < ρ'.length := (List.getElem?_eq_some_iff.mp hq').1
    have lxl : x < ρ'.length := by rw [← w'.lg]; exact hxl
    let HF : Hp := fun b => if H0 b ≠ none ∨ (Pf j b ∧ ¬ Pk b) then H3 b else none
    have hf0 : ∀ b, HF b = none → H0 b = none := fun b hb => by
      cases z : H0 b with
      | none => rfl
      | some o =>
        have e1 : HF b = H3 b := if_pos (.inl (by rw [z]; intro h; cases h))
        rw [e1, w'.x.h _ _ z] at hb
        cases hb
    have hfin : ∀ b, HF b ≠ none → H0 b ≠ none ∨ (Pf j b ∧ ¬ Pk b) := fun b hb => by
      by_cases z : H0 b ≠ none ∨ (Pf j b ∧ ¬ Pk b)
      · exact z
      · exact absurd (if_neg z) hb
    have hfE : ∀ b, Pf j b → ¬ Pk b → HF b = H3 b := fun b h1 h2 => if_pos (.inr ⟨h1, h2⟩)
    have sHF : Same HF H3 := fun b o hb => by
      by_cases z : H0 b ≠ none ∨ (Pf j b ∧ ¬ Pk b)
      · have e1 : HF b = H3 b := if_pos z
        rw [← e1]; exact hb
      · have e1 : HF b = none := if_neg z
        rw [e1] at hb; cases hb
    have wb : Wd (J.lpM (Γ.set x m) [(j, v0), (x, u)]) G' HF (Γ.set x m) ((ρ'.set j none).set x (some ds'[i])) (σ'.set x (some u)) G' H3 := by
      refine ⟨⟨Same.refl _, sHF, w'.gh, fun _ _ => rfl⟩, by simp only [List.length_set]; exact w'.lg, by simp only [List.length_set]; exact w'.lr, ⟨fun k => if k = x then Pk else if k = j then Pno else Pf k, fun k l b hkl r s => ?_, fun k b r => ?_, fun k c r => ?_⟩, fun k v h => ?_, fun d n hd => (w'.xk d n hd).imp (fun z => w'.x.g _ _ z) fun z => (if_pos (.inl (by rw [z]; exact fun q => nomatch q)) : HF d = H3 d).trans (w'.x.h _ _ z)⟩
      · by_cases hk : k = x
        · simp only [hk, if_true] at r
          by_cases hl2 : l = x
          · exact hkl (hk.trans hl2.symm)
          · simp only [hl2, if_false] at s
            by_cases hlj : l = j
            · simp only [hlj, if_true] at s; exact s.elim
            · simp only [hlj, if_false] at s
              exact k1 l j b hlj s (g8 b r)
        · simp only [hk, if_false] at r
          by_cases hkj : k = j
          · simp only [hkj, if_true] at r; exact r.elim
          · simp only [hkj, if_false] at r
            by_cases hl2 : l = x
            · simp only [hl2, if_true] at s
              exact k1 k j b hkj r (g8 b s)
            · simp only [hl2, if_false] at s
              by_cases hlj : l = j
              · simp only [hlj, if_true] at s; exact s.elim
              · simp only [hlj, if_false] at s
                exact k1 k l b hkl r s
      · by_cases hk : k = x
        · simp only [hk, if_true] at r
          obtain ⟨a1, a2', a3⟩ := k2 j b (g8 b r)
          refine ⟨a1, ?_, a3⟩
          exact if_neg fun z => by
            rcases z with z | z
            · exact z a2'
            · exact z.2 r
        · simp only [hk, if_false] at r
          by_cases hkj : k = j
          · simp only [hkj, if_true] at r
            exact r.elim
          · simp only [hkj, if_false] at r
            obtain ⟨a1, a2', a3⟩ := k2 k b r
            refine ⟨a1, ?_, a3⟩
            exact if_neg fun z => by
              rcases z with z | z
              · exact z a2'
              · exact k1 k j b hkj r z.1
      · by_cases hk : k = x
        · subst hk
          have hl3 : k < ρ'.length := by
            have z := (List.getElem?_eq_some_iff.mp r).1
            simpa using z
          rw [List.getElem?_set_self (by rw [List.length_set]; exact hl3)] at r
          cases r
          refine ⟨u, m, List.getElem?_set_self (by rw [← lx]; exact hl3), List.getElem?_set_self (by rw [w'.lg]; exact hl3), ?_⟩
          simp only [if_true]
          exact g7
        · rw [List.getElem?_set_ne (Ne.symm hk)] at r
          by_cases hkj : k = j
          · subst hkj
            rw [List.getElem?_set_self lj] at r
            cases r
          · rw [List.getElem?_set_ne (Ne.symm hkj)] at r
            obtain ⟨v2, m2, x1, x2, x3⟩ := k3 k c r
            refine ⟨v2, m2, by rw [List.getElem?_set_ne (Ne.symm hk)]; exact x1, by rw [List.getElem?_set_ne (Ne.symm hk)]; exact x2, ?_⟩
            simp only [hk, hkj, if_false]
            exact x3
      · rcases List.mem_cons.mp h with h | h
        · cases h
          rw [List.getElem?_set_ne (Ne.symm hx)]
          exact sj
        · cases (List.mem_singleton.mp h)
          exact List.getElem?_set_self (by rw [← lx]; exact lxl)
    -- back
    have back : ∀ {ρ2 : Ev} {σ5 : L2.St} {G5 H5 : Hp} {e' : Dt}, ρ2[x]? = some (some e') → Same G' G5 → Wd (J.lpM (Γ.set x m) [(j, v0), (x, u)]) G' HF (Γ.set x m) ρ2 σ5 G5 H5 →
        Wd J G0 H0 Γ ((ρ2.set x none).set j (some (tputD pth d' (.lst (ds'.set i e'))))) σ5 G5 H5 ∧ σ5[j]? = some (some v0) ∧ (∀ b, Pf j b → ¬ Pk b → H5 b = H3 b) ∧ j < ρ2.length := fun {ρ2 σ5 G5 H5 e'} hx2 sg5 w5 => by
      obtain ⟨Qf, r1, r2, r3⟩ := w5.env
      have sj5 : σ5[j]? = some (some v0) := w5.pn j v0 List.mem_cons_self
      have sx5 : σ5[x]? = some (some u) := w5.pn x u (List.mem_cons_of_mem _ List.mem_cons_self)
      obtain ⟨v5, m5, x1, x2, x3⟩ := r3 x e' hx2
      rw [sx5] at x1
      cases x1
      rw [List.getElem?_set_self hxl] at x2
      cases x2
      have fr : ∀ b, Pf j b → ¬ Pk b → H5 b = H3 b ∧ G5 b = none := fun b h1 h2 => by
        have hne : HF b ≠ none := by rw [hfE b h1 h2]; exact (k2 j b h1).2.2
        constructor
        · have := w5.x.h.at hne
          rw [this]; exact hfE b h1 h2
        · rw [w5.x.base b hne]; exact (k2 j b h1).1
      have lj5 : j < ρ2.length := by
        rw [w5.lr]; exact (List.getElem?_eq_some_iff.mp sj5).1
      have q2 : ∀ b, Qf x b → Pk b ∨ ¬ Pf j b := fun b hb => by
        by_cases z : Pk b
        · exact .inl z
        · refine .inr fun y => ?_
          have := (r2 x b hb).2.1
          rw [hfE b y z] at this
          exact (k2 j b y).2.2 this
      have own := g9 G5 H5 e' (Qf x) sg5 fr x3 q2
      have wl : ρ2.length = Γ.length := by have := w5.lg; rw [List.length_set] at this; exact this.symm
      refine ⟨⟨⟨w'.x.g.trans sg5, fun b o hb => ?_, w5.x.gh, fun b hb => ?_⟩, by simp only [List.length_set]; exact wl.symm, by simp only [List.length_set]; exact w5.lr, ⟨fun k b => if k = j then (Pf j b ∧ ¬ Pk b) ∨ Qf x b else if k = x then False else Qf k b, fun k l b hkl r s => ?_, fun k b r => ?_, fun k c r => ?_⟩, (fun k v h => by rw [hpx] at h; cases h), w'.xk⟩, sj5, fun b h1 h2 => (fr b h1 h2).1, lj5⟩
      · have e1 : HF b = H3 b := if_pos (.inl (by rw [hb]; intro h; cases h))
        exact w5.x.h b o (by rw [e1]; exact w'.x.h b o hb)
      · have e1 : HF b ≠ none := by
          have e1 : HF b = H3 b := if_pos (.inl hb)
          rw [e1]; exact w'.x.h.nn hb
        rw [w5.x.base b e1]
        exact w'.x.base b hb
      · have frame : ∀ k b, k ≠ j → k ≠ x → Qf k b → ¬ ((Pf j b ∧ ¬ Pk b) ∨ Qf x b) := fun k b h1 h2 h3 h4 => by
          rcases h4 with h4 | h4
          · have := (r2 k b h3).2.1
            rw [hfE b h4.1 h4.2] at this
            exact (k2 j b h4.1).2.2 this
          · exact r1 k x b h2 h3 h4
        by_cases hk : k = j
        · simp only [hk, if_true] at r
          by_cases hl2 : l = j
          · exact hkl (hk.trans hl2.symm)
          · simp only [hl2, if_false] at s
            by_cases hlx : l = x
            · simp only [hlx, if_true] at s
            · simp only [hlx, if_false] at s
              exact frame l b hl2 hlx s r
        · simp only [hk, if_false] at r
          by_cases hkx : k = x
          · simp only [hkx, if_true] at r
          · simp only [hkx, if_false] at r
            by_cases hl2 : l = j
            · simp only [hl2, if_true] at s
              exact frame k b hk hkx r s
            · simp only [hl2, if_false] at s
              by_cases hlx : l = x
              · simp only [hlx, if_true] at s
              · simp only [hlx, if_false] at s
                exact r1 k l b hkl r s
      · by_cases hk : k = j
        · simp only [hk, if_true] at r
          rcases r with r | r
          · obtain ⟨a1, a2', a3⟩ := k2 j b r.1
            exact ⟨(fr b r.1 r.2).2, a2', by rw [(fr b r.1 r.2).1]; exact a3⟩
          · obtain ⟨a1, a2', a3⟩ := r2 x b r
            exact ⟨a1, hf0 b a2', a3⟩
        · simp only [hk, if_false] at r
          by_cases hkx : k = x
          · simp only [hkx, if_true] at r
          · simp only [hkx, if_false] at r
            obtain ⟨a1, a2', a3⟩ := r2 k b r
            exact ⟨a1, hf0 b a2', a3⟩
      · by_cases hk : k = j
        · subst hk
          rw [List.getElem?_set_self (by rw [List.length_set]; exact lj5)] at r
          cases r
          refine ⟨v0, M, sj5, hj, ?_⟩
          simp only [if_true]
          exact own
        · rw [List.getElem?_set_ne (Ne.symm hk)] at r
          by_cases hkx : k = x
          · subst hkx
            rw [List.getElem?_set_self (by rw [wl]; exact hxl)] at r
            cases r
          · rw [List.getElem?_set_ne (Ne.symm hkx)] at r
            obtain ⟨v2, m2, y1, y2, y3⟩ := r3 k c r
            refine ⟨v2, m2, y1, by rw [List.getElem?_set_ne (Ne.symm hkx)] at y2; exact y2, ?_⟩
            simp only [hk, hkx, if_false]
            exact y3
    have hsj : ∀ (ρ2 : Ev) (e' : Dt), j < ρ2.length → ((ρ2.set x none).set j (some (tputD pth d' (.lst (ds'.set i e')))))[j]? = some (some (tputD pth d' (.lst (ds'.set i e')))) := fun ρ2 e' h => List.getElem?_set_self (by rw [List.length_set]; exact h)
    have nxt : ∀ (ρ2 : Ev), PostS J G0 H0 G' Γ D (match ρ2[x]? with
            | some (some e') => forML j pth x F (ds'.length - (i + 1)) (i + 1) ((ρ2.set x none).set j (some (tputD pth d' (.lst (ds'.set i e')))))
            | _ => .no) → ∀ σ5 G5 H5, Same G' G5 → Wd (J.lpM (Γ.set x m) [(j, v0), (x, u)]) G' HF (Γ.set x m) ρ2 σ5 G5 H5 → ∃ m', m' < ds'.length - i ∧ ∃ G' ρ' d' ds', m' = ds'.length - (i + 1) ∧ i + 1 ≤ ds'.length ∧ Wd J G0 H0 Γ ρ' σ5 G' H5 ∧ Same G G' ∧ ρ'[j]? = some (some d') ∧ tgetD pth d' = some (.lst ds') ∧ σ5[j]? = some (some v0) ∧ (∃ us', H5 a2 = some (.lst us') ∧ us'.length = ds'.length) ∧ stQ H5 v0 a2 (fun _ => True) pth ∧ PostS J G0 H0 G' Γ D (forML j pth x F (ds'.length - (i + 1)) (i + 1) ρ') := fun ρ2 q5 σ5 G5 H5 sg5 w5 => by
      cases hx2 : ρ2[x]? with
      | none => rw [hx2] at q5; cases q5
      | some o =>
      cases o with
      | none => rw [hx2] at q5; cases q5
      | some e' =>
      rw [hx2] at q5
      obtain ⟨w6, sj5, fr, lj5⟩ := back hx2 sg5 w5
      refine ⟨ds'.length - (i + 1), by omega, G5, _, _, ds'.set i e', by rw [List.length_set], by rw [List.length_set]; omega, w6, sg.trans sg5, hsj ρ2 e' lj5, tput_len hd', sj5, ⟨us', by rw [fr a2 g4 g5]; exact ha', by rw [List.length_set]; exact hl'⟩, ?_, by rw [List.length_set]; exact q5.up sg5⟩
      cases pth with
      | none => exact g6
      | some k =>
        obtain ⟨b, ws, h1, h2, h3, h4, h5⟩ := g6
        exact ⟨b, ws, h1, by rw [fr b h4 h5]; exact h2, h3, True.intro⟩
    have cvt : ∀ d, PostS J G0 H0 G' Γ D (.rt d) → ∀ v G5 H5 P, Ext G' HF G5 H5 → Fr G5 HF H5 P → RtR J G5 H5 d v P → D.rt v H5 := fun d p5 v G5 H5 P e5 f5 o5 => by
      refine p5.of_rt v G5 H5 P ⟨w'.x.g.trans e5.g, fun b o hb => ?_, e5.gh, fun b hb => ?_⟩ (fun b hb => ⟨(f5 b hb).1, hf0 b (f5 b hb).2.1, (f5 b hb).2.2⟩) o5
      · have e1 : HF b = H3 b := if_pos (.inl (by rw [hb]; intro h; cases h))
        exact e5.h b o (by rw [e1]; exact w'.x.h b o hb)
      · have e1 : HF b ≠ none := by
          have e1 : HF b = H3 b := if_pos (.inl hb)
          rw [e1]; exact w'.x.h.nn hb
        rw [e5.base b e1]
        exact w'.x.base b hb
    refine hb v0 u wb ?_
    cases hB : F ((ρ'.set j none).set x (some ds'[i])) with
    | nx r => rw [hB] at q'; exact .nx (nxt r q')
    | ct r => rw [hB] at q'; exact .ct (nxt r q')
    | rt r => rw [hB] at q'; exact .rt (cvt r q')
    | bk r =>
      rw [hB] at q'
      refine .bk fun σ5 G5 H5 sg5 w5 => ?_
      have q5 : PostS J G0 H0 G' Γ D (match r[x]? with
            | some (some e') => .nx ((r.set x none).set j (some (tputD pth d' (.lst (ds'.set i e')))))
            | _ => .no) := q'
      cases hx2 : r[x]? with
      | none => rw [hx2] at q5; cases q5
      | some o =>
      cases o with
      | none => rw [hx2] at q5; cases q5
      | some e' =>
      rw [hx2] at q5
      obtain ⟨w6, sj5, fr, lj5⟩ := back hx2 sg5 w5
      exact q5.of_nx σ5 G5 H5 sg5 w6
    | ex c r => rw [hB] at q'; cases q'
    | no => rw [hB] at q'; cases q'
  | _ => cases p
end
/-! ### parts given up at a return -/
section
variable {J : Jc} {Γ Γ' : List Mode} {m : Mode} {ms us : List Mode} {F : Ev → Rs Dt} {Fs : List (Ev → Rs Dt)} {te : TE} {tr : TA} {G0 H0 G H G' H' : Hp} {ρ : Ev} {σ : L2.St}
def EnvP (J : Jc) (H0 : Hp) (Γ : List Mode) (ρ : Ev) (σ : L2.St) (G H : Hp) (Pf : Nat → Addr → Prop) : Prop := (∀ i j a, i ≠ j → Pf i a → ¬ Pf j a) ∧ (∀ i a, Pf i a → G a = none ∧ H0 a = none ∧ H a ≠ none) ∧ ∀ i d, ρ[i]? = some (some d) → ∃ v m, σ[i]? = some (some v) ∧ Γ[i]? = some m ∧ Ow J.K J.ca G H m d v (Pf i)
theorem EnvP.ext {Pf : Nat → Addr → Prop} (w : EnvP J H0 Γ ρ σ G H Pf) (e : Ext G H G' H') : EnvP J H0 Γ ρ σ G' H' Pf := by
  obtain ⟨h1, h2, h3⟩ := w
  refine ⟨h1, fun i a q => ?_, fun i d q => ?_⟩
  · obtain ⟨a1, a2, a3⟩ := h2 i a q
    exact ⟨by rw [e.base a a3]; exact a1, a2, e.h.nn a3⟩
  · obtain ⟨v, m, s1, s2, s3⟩ := h3 i d q
    refine ⟨v, m, s1, s2, s3.carry e.g fun b hb => ?_⟩
    obtain ⟨a1, a2, a3⟩ := h2 i b hb
    exact ⟨e.h.at a3, by rw [e.base b a3]; exact a1⟩
/-! ### a op b op c -/
def chE (g1 g2 : Dt → Dt → Rs Dt) (Fa Fb Fc : Ev → Rs Dt) (ρ : Ev) : Rs Dt := Fa ρ >>= fun a => Fb ρ >>= fun b => g1 a b >>= fun z => match z with
  | .bl true => Fc ρ >>= fun c => g2 b c
  | .bl false => .ok (.bl false)
  | _ => .no
/-! ### a list in an owned tuple, read -/
/-! ### reversed(range(n)) -/
def rrgI (F : Ev → Rs Dt) (ρ : Ev) : Rs (List Dt) := F ρ >>= fun d => match d with
  | .int j => if intSz j = true then .ok (rangeL 0 j.toNat).reverse else .no
  | _ => .no
/-! ### r.append(i), where i is owned and given up -/
def appVS (r i : Nat) (ρ : Ev) : Ot := match ρ[r]?, ρ[i]? with
  | some (some (.lst ds)), some (some y) => if lenSz ds.length = true then .nx ((ρ.set r (some (.lst (ds ++ [y])))).set i none) else .no
  | _, _ => .no
end
/-! ### owned results of calls on owned lists of frozen items -/
mutual
def flatD : Dt → Bool
  | .non => true
  | .bl _ => true
  | .int _ => true
  | .str _ => true
  | .tup ds => flatDs ds
  | _ => false
def flatDs : List Dt → Bool
  | [] => true
  | d :: ds => flatD d && flatDs ds
end
mutual
theorem Rp.flat {K : PySem.W.Frag} {ca : Str → Addr} {G2 G1 : Hp} (hg : ∀ b o, G2 b = some o → (∀ vs, o ≠ .lst vs) → G1 b = some o) : ∀ {d : Dt} {v : V}, flatD d = true → Rp K ca G2 d v → Rp K ca G1 d v
  | .non, _, _, h => by cases h; exact .non
  | .bl b, _, _, h => by cases h; exact .bl b
  | .int i, _, _, h => by cases h; exact .int i
  | .str x, _, _, h => by cases h; exact .str x
  | .tup ds, _, c, h => by
    cases h with
    | tup h1 h2 => exact .tup (hg _ _ h1 fun vs z => by cases z) (Rps.flat hg (by simpa only [flatD] using c) h2)
  | .lst _, _, c, _ => by simp [flatD] at c
  | .scr _, _, c, _ => by simp [flatD] at c
  | .ktp _, _, c, _ => by simp [flatD] at c
  | .ins _ _ _, _, c, _ => by simp [flatD] at c
  | .dic _ _, _, c, _ => by simp [flatD] at c
  | .dit _ _, _, c, _ => by simp [flatD] at c
theorem Rps.flat {K : PySem.W.Frag} {ca : Str → Addr} {G2 G1 : Hp} (hg : ∀ b o, G2 b = some o → (∀ vs, o ≠ .lst vs) → G1 b = some o) : ∀ {ds : List Dt} {vs : List V}, flatDs ds = true → Rps K ca G2 ds vs → Rps K ca G1 ds vs
  | [], _, _, h => by cases h; exact .nil
  | d :: ds, _, c, h => by
    have c : flatD d = true ∧ flatDs ds = true := by simpa only [flatDs, Bool.and_eq_true] using c
    cases h with
    | cons h1 h2 => exact .cons (Rp.flat hg c.1 h1) (Rps.flat hg c.2 h2)
end
/-- a list of flat things, or a flat thing -/
def flatOk : Mode → Dt → Bool
  | .F, d => flatD d
  | .L .F, .lst ds => flatDs ds
  | _, _ => false
theorem Rps.ofF {K : PySem.W.Frag} {ca : Str → Addr} {G1 G2 H2 : Hp} (hg : ∀ b o, G2 b = some o → (∀ vs, o ≠ .lst vs) → G1 b = some o) : ∀ {ds : List Dt} {vs : List V} {P : Addr → Prop}, flatDs ds = true → Ows K ca G2 H2 (List.replicate ds.length .F) ds vs P → Ows K ca G1 H2 (List.replicate ds.length .F) ds vs P
  | [], _, _, _, h => by cases h; exact .nil
  | d :: ds, _, P, c, h => by
    have c : flatD d = true ∧ flatDs ds = true := by simpa only [flatDs, Bool.and_eq_true] using c
    rw [List.length_cons, List.replicate_succ] at h ⊢
    cases h with
    | cons h1 h2 q1 q2 q3 =>
      cases h1 with
      | F h1 => exact .cons (.F (Rp.flat hg c.1 h1)) (Rps.ofF hg c.2 h2) q1 q2 q3
theorem Ow.flat {K : PySem.W.Frag} {ca : Str → Addr} {G1 G2 H2 : Hp} (hg : ∀ b o, G2 b = some o → (∀ vs, o ≠ .lst vs) → G1 b = some o) {m : Mode} {d : Dt} {v : V} {P : Addr → Prop} (c : flatOk m d = true) (hp : ∀ b, P b → G1 b = none) (h : Ow K ca G2 H2 m d v P) : Ow K ca G1 H2 m d v P := by
  cases h with
  | F h => exact .F (Rp.flat hg (by simpa only [flatOk] using c) h)
  | NL => exact .NL
  | NT => exact .NT
  | NI => exact .NI
  | @L m a vs ds _ h1 h2 h3 h4 =>
    cases m with
    | F => exact .L h1 (hp _ h3) h3 (Rps.ofF hg (by simpa only [flatOk] using c) h4)
    | _ => simp [flatOk] at c
  | T => simp [flatOk] at c
  | TL => simp [flatOk] at c
  | I => simp [flatOk] at c
  | K => simp [flatOk] at c
  | KT => simp [flatOk] at c
section
variable {J : Jc} {Γ : List Mode} {m : Mode} {F : Ev → Rs Dt} {Fs : List (Ev → Rs Dt)} {te : TE} {tr : TA} {G0 H0 G H G' H' : Hp} {ρ : Ev} {σ : L2.St}
def lstA (F : Ev → Rs Dt) (ρ : Ev) : Rs Dt := F ρ >>= fun d => match d with
  | .lst ds => .ok (.lst ds)
  | _ => .no
def flatR (m : Mode) (r : Rs Dt) : Rs Dt := r >>= fun d => if flatOk m d = true then .ok d else .no
def callSE (m : Mode) (Fn : List Dt → Rs Dt) (Fs : List (Ev → Rs Dt)) (ρ : Ev) : Rs Dt := argsE Fs ρ >>= fun ds => flatR m (Fn ds)
variable {Fn : List Dt → Rs Dt} {np : Nat}
/-! ### an item of an owned list of lists, read -/
end
end Pm
/-! sorted(set(xs)), xs a list of ints, fewer than 64 -/
namespace L2
open PySem PySem.Spec PyProof.Rows
section
variable {P : Program} {w : World} {A : Around} {E : Value → Shared → Prop} {s : Shared}
end
end L2
namespace Pm
open PySem PySem.Spec PyProof.Rows L2
open Classical
section
variable {X : Cx}
end
/-- the least first, each once -/
def insU (x : Int) : List Int → List Int
  | [] => [x]
  | y :: ys => if x < y then x :: y :: ys else if x = y then y :: ys else y :: insU x ys
def sortU (ns : List Int) : List Int := ns.foldr insU []
def sortUD (d : Dt) : Rs Dt := match lisD d with
  | some ds => (match intsOf ds with
    | some ns => if ns.length < 64 then .ok (.lst ((sortU ns).map .int)) else .no
    | none => .no)
  | none => .no
def sortUE := op1E sortUD
section
variable {J : Jc} {Γ : List Mode} {F : Ev → Rs Dt} {te : TE}
end
theorem v_sortU {Fa : Ev → Rs Dt} {ρ : Ev} : sortUE Fa ρ = (Fa ρ >>= sortUD) := rfl
/-! ### x not in a list, by data -/
section
open PySem PySem.Spec PyProof.Rows
end
section
variable {J : Jc} {Γ : List Mode} {Fa Fb : Ev → Rs Dt} {ta tb : TE} {ρ : Ev}
def ninDD (a b : Dt) : Rs Dt := match b with
  | .lst ds => if (eqOK a && eqOK (.lst ds)) = true then .ok (.bl (!inD a ds)) else .no
  | _ => .no
def ninDE := op2E ninDD
theorem v_ninD : ninDE Fa Fb ρ = (Fa ρ >>= fun a => Fb ρ >>= fun b => ninDD a b) := rfl
end
end Pm
/-! several clauses 'except X as n', all with the same n (turned from the kit's rules for one such clause and for many without a name) -/
namespace L2
open PySem PySem.Spec PyProof.Rows
section
variable {X : Cx} {n : Str} {i : Nat} {body : List Stmt} {h₀ : ExceptHandler} {hds : List ExceptHandler} {l : List (Value × (Addr → Value → Option Addr → TS))} {pos : Pos} {tb : WX → TS} {Wout : WX}
end
end L2
namespace Pm
open PySem PySem.Spec PyProof.Rows L2
open Classical
/-- one clause after the other; a clause raises nothing -/
def goA (i : Nat) : List (List (Str × Bool) × (Str → Ev → Ot)) → Xn → Ev → Ot
  | [], c, ρ => .ex c ρ
  | (subs, Fh) :: r, c, ρ => match subs.lookup c.1 with
    | some true => (match c.2 with
      | none => clrO i (Fh c.1 (ρ.set i none))
      | some _ => .no)
    | some false => goA i r c ρ
    | none => .no
def tryM (i : Nat) (hs : List (List (Str × Bool) × (Str → Ev → Ot))) (Fb : Ev → Ot) (ρ : Ev) : Ot := match Fb ρ with
  | .ex c ρ' => goA i hs c ρ'
  | o => o
section
variable {J : Jc} {Γ Γ' Γx : List Mode} {Fb : Ev → Ot} {tb : WX → TS}
end
section
variable {X : Cx} {n : Str} {i : Nat} {body : List Stmt} {h₀ : ExceptHandler} {hds : List ExceptHandler} {l : List (Value × (Addr → Value → Option Addr → TS))} {pos : Pos} {tb : WX → TS} {Wout : WX}
end
end Pm
namespace Pm
open PySem PySem.Spec PyProof.Rows L2
open Classical
/-! ### a list of unlike parts; names for the parts of an owned tuple -/
section
variable {J : Jc} {Γ Γ' : List Mode} {m : Mode} {ms : List Mode} {F Fe : Ev → Rs Dt} {Fs : List (Ev → Rs Dt)} {te : TE} {tr : TA} {G0 H0 G H G' H' : Hp} {ρ : Ev} {σ : L2.St}
def setsE (Γ : Ev) (l : List Nat) (ms : List Dt) : Ev := match l with
  | [] => Γ
  | i :: l => match ms with
    | [] => Γ
    | m :: ms => setsE (Γ.set i (some m)) l ms
termination_by structural l
theorem EnvP.set {Pf : Nat → Addr → Prop} (en : EnvP J H0 Γ ρ σ G H Pf) (lg : Γ.length = ρ.length) (lr : ρ.length = σ.length) {d : Dt} {v : V} {P : Addr → Prop} (o : Ow J.K J.ca G H m d v P) (f : ∀ b, P b → G b = none ∧ H0 b = none ∧ H b ≠ none) (dis : ∀ k b, Pf k b → ¬ P b) (i : Nat) :
    EnvP J H0 (Γ.set i m) (ρ.set i (some d)) (σ.set i (some v)) G H (fun k => if k = i then P else Pf k) := by
  obtain ⟨h1, h2, h3⟩ := en
  refine ⟨fun j k a q r s => ?_, fun j a q => ?_, fun j c q => ?_⟩
  · by_cases hj : j = i
    · by_cases hk : k = i
      · exact q (hj.trans hk.symm)
      · simp only [hj, if_true] at r
        simp only [hk, if_false] at s
        exact dis k a s r
    · simp only [hj, if_false] at r
      by_cases hk : k = i
      · simp only [hk, if_true] at s
        exact dis j a r s
      · simp only [hk, if_false] at s
        exact h1 j k a q r s
  · by_cases hj : j = i
    · simp only [hj, if_true] at q
      exact f a q
    · simp only [hj, if_false] at q
      exact h2 j a q
  · by_cases hj : j = i
    · subst hj
      have hl : j < ρ.length := by
        have z := (List.getElem?_eq_some_iff.mp q).1
        simpa using z
      rw [List.getElem?_set_self hl] at q
      have hd : d = c := by simpa using q
      subst hd
      refine ⟨v, m, List.getElem?_set_self (by rw [← lr]; exact hl), List.getElem?_set_self (by rw [lg]; exact hl), ?_⟩
      simp only [if_true]
      exact o
    · rw [List.getElem?_set_ne (Ne.symm hj)] at q
      obtain ⟨v2, m2, s1, s2, s3⟩ := h3 j c q
      refine ⟨v2, m2, by rw [List.getElem?_set_ne (Ne.symm hj)]; exact s1, by rw [List.getElem?_set_ne (Ne.symm hj)]; exact s2, ?_⟩
      simp only [hj, if_false]
      exact s3
def asgT (l : List Nat) (Fe : Ev → Rs Dt) (ρ : Ev) : Ot := bindS (Fe ρ) ρ fun d => match d with
  | .tup ds => if ds.length = l.length then .nx (setsE ρ l ds) else .no
  | _ => .no
end
end Pm
/-! max(xs), xs a list of pairs of ints (the kit's proof for max, turned: what the comparisons need is told of the heap) -/
namespace PySem
open Sem (wp)
section
variable {prog : Program} {w : World} {A : Around} {R : Result → Shared → Prop} {I : Addr} {fp wr : List Addr} {n : Nat} {P : Nat → Value → Prop} {St : Nat → Heap → Prop}
end
section
variable {prog : Program} {w : World} {A : Around} {E : Value → Shared → Prop} {s : Shared}
end
end PySem
namespace L2
open PySem PySem.Spec PyProof.Rows
abbrev pltB (p q : Int × Int) : Bool := HT.lexLt [p.1, p.2] [q.1, q.2]
section
variable {X : Cx}
end
end L2
namespace Pm
open PySem PySem.Spec PyProof.Rows L2
open Classical
def bigP (p q : Int × Int) : Int × Int := if pltB p q = true then q else p
def maxPs : List (Int × Int) → Int × Int
  | [] => (0, 0)
  | p :: r => r.foldl bigP p
def maxPD (d : Dt) : Rs Dt := match d with
  | .lst ds => (match prsOf ds with
    | some (p :: r) => .ok (prD (maxPs (p :: r)))
    | _ => .no)
  | _ => .no
def maxPE := op1E maxPD
section
variable {J : Jc} {Γ : List Mode} {F : Ev → Rs Dt} {te : TE}
end
end Pm
namespace Pm
open PySem PySem.Spec PyProof.Rows L2
open Classical
/-! ### owned items of an owned list: left out, put otherwise -/
section
variable {J : Jc} {Γ Γ' : List Mode} {m : Mode} {Fe Fa Fi : Ev → Rs Dt} {Fp : Ev → Rs (Dt × (Dt → Ev))} {te ta ti : TE} {G0 H0 G H G' H' : Hp} {ρ : Ev} {σ : L2.St}
end
end Pm
namespace Pm
open PySem PySem.Spec PyProof.Rows L2
open Classical
/-! ### for k, x in P, where x, a part of an owned pair, is changed in place: the part is lent to the name -/
def pairD : Dt → Option (Dt × Dt)
  | .tup [k, e] => some (k, e)
  | _ => none
def forTL (j : Nat) (pth : Option Nat) (kd x : Nat) (Fb : Ev → Ot) : Nat → Nat → Ev → Ot
  | 0, _, ρ => .nx ρ
  | n + 1, i, ρ => match ρ[j]? with
    | some (some d) => match tgetD pth d with
      | some (.lst ds) => match (ds[i]?).bind pairD with
        | some (k, e) => match Fb (((ρ.set j none).set x (some e)).set kd (some k)) with
          | .nx ρ2 => (match ρ2[x]? with
            | some (some e') => forTL j pth kd x Fb n (i + 1) ((ρ2.set x none).set j (some (tputD pth d (.lst (ds.set i (.tup [k, e']))))))
            | _ => .no)
          | .ct ρ2 => (match ρ2[x]? with
            | some (some e') => forTL j pth kd x Fb n (i + 1) ((ρ2.set x none).set j (some (tputD pth d (.lst (ds.set i (.tup [k, e']))))))
            | _ => .no)
          | .bk ρ2 => (match ρ2[x]? with
            | some (some e') => .nx ((ρ2.set x none).set j (some (tputD pth d (.lst (ds.set i (.tup [k, e']))))))
            | _ => .no)
          | .rt d => .rt d
          | _ => .no
        | none => .no
      | _ => .no
    | _ => .no
def forT (j : Nat) (pth : Option Nat) (kd x : Nat) (Fb : Ev → Ot) (ρ : Ev) : Ot := match ρ[j]? with
  | some (some d) => match tgetD pth d with
    | some (.lst ds) => forTL j pth kd x Fb ds.length 0 ρ
    | _ => .no
  | _ => .no
section
variable {J : Jc} {Γ Γ' Γ1 Γ2 Γb : List Mode} {em : EM} {m M : Mode} {ms : List Mode} {F Fe Fa Fb Fd Fk Fi : Ev → Rs Dt} {Fs : List (Ev → Rs Dt)} {te ta tb ti : TE} {tr : TA} {G0 H0 Gs G H G' H' : Hp} {ρ : Ev} {σ : L2.St} {vs : List Nat}
  {ts t1 t2 : TS} {D : Ends} {d : Dt} {v : V} {put : Dt → Ev} {Fp : Ev → Rs (Dt × (Dt → Ev))}
end
end Pm
namespace Pm
open PySem PySem.Spec PyProof.Rows L2
open Classical
section
variable {J : Jc} {Γ Γ' : List Mode} {m : Mode} {ns : List Mode} {Fe Fa Fi : Ev → Rs Dt} {Fs : List (Ev → Rs Dt)} {Fn : List Dt → Rs Dt} {np : Nat} {Fp : Ev → Rs (Dt × (Dt → Ev))} {te ta ti : TE} {tr : TA} {G0 H0 G H G' H' : Hp} {ρ : Ev} {σ : L2.St}
end
end Pm
/-! min(xs), xs a list of pairs of ints; <= of tuples; xs[::-1] -/
namespace PySem
open Sem (wp)
section
variable {prog : Program} {w : World} {A : Around} {R : Result → Shared → Prop} {I : Addr} {fp wr : List Addr} {n : Nat} {P : Nat → Value → Prop} {St : Nat → Heap → Prop}
end
section
variable {prog : Program} {w : World} {A : Around} {E : Value → Shared → Prop} {s : Shared}
end
end PySem
namespace L2
open PySem PySem.Spec PyProof.Rows
section
variable {X : Cx}
end
end L2
namespace L2
open PySem PySem.Spec PyProof.Rows
section
variable {X : Cx} {e k : Expr} {te : TE} {tk : TO} {pos p2 : Pos}
end
end L2
namespace Pm
open PySem PySem.Spec PyProof.Rows L2
open Classical
def smlP (p q : Int × Int) : Int × Int := if pltB q p = true then q else p
def minPs : List (Int × Int) → Int × Int
  | [] => (0, 0)
  | p :: r => r.foldl smlP p
def minPD (d : Dt) : Rs Dt := match d with
  | .lst ds => (match prsOf ds with
    | some (p :: r) => .ok (prD (minPs (p :: r)))
    | _ => .no)
  | _ => .no
def minPE := op1E minPD
section
variable {J : Jc} {Γ : List Mode} {F : Ev → Rs Dt} {te : TE}
end
/-! <= of tuples of ints -/
def lexLe2 (ns ms : List Int) : Bool := Ob.lexAt (fun j => decide (ns.getD j 0 = ms.getD j 0)) (fun j => decide (ns.getD j 0 ≤ ms.getD j 0)) (decide (ns.length ≤ ms.length)) 0 (min ns.length ms.length)
def tupLeD (a b : Dt) : Rs Dt := match a, b with
  | .tup as, .tup bs => (match intsOf as, intsOf bs with
    | some ns, some ms => .ok (.bl (lexLe2 ns ms))
    | _, _ => .no)
  | _, _ => .no
def leTE := op2E tupLeD
/-! xs[::-1] -/
def revLD (d k : Dt) : Rs Dt := match d, k with
  | .lst ds, .int i => if i = -1 then .ok (.lst ds.reverse) else .no
  | _, _ => .no
def revSE := op2E revLD
section
variable {J : Jc} {Γ : List Mode} {Fa Fb F : Ev → Rs Dt} {ta tb te : TE}
end
end Pm
namespace Pm
open PySem PySem.Spec PyProof.Rows L2
open Classical
/-! ### a dict gone through by its keys -/
section
variable {K : PySem.W.Frag} {ca : Str → Addr} {G H G' H' G2 H2 : Hp} {a : Addr} {o : Obj} {kvs : List (Key × V)}
/- the owned part stays, the frozen parts are carried as told -/
end
section
variable {J : Jc} {Γ Γ' Γ1 : List Mode} {em : EM} {m : Mode} {ms : List Mode} {Fe Fa Fb Fk Fd : Ev → Rs Dt} {F : Ev → Ot} {te ta tb : TE} {G0 H0 Gs G H G' H' : Hp} {ρ : Ev} {σ : L2.St} {D : Ends} {v : V} {vs : List Nat} {ts : TS} {FG : Dt → Ev → Option Ev} {g : TG} {Ft : Ev → Rs Bool} {tt : TT}
/-- nothing is raised -/
abbrev Jc.nq (J : Jc) : Jc := { J with W := fun _ _ _ _ => False, gx := none }
def keyDt : Key → Dt
  | .inl i => .int i
  | .inr x => .str x
def forK (j : Nat) (FG : Dt → Ev → Option Ev) (Fb : Ev → Ot) (ρ : Ev) : Ot := match varE j ρ with
  | .ok (.dic ks _) => (match forL FG Fb (ks.map keyDt) ρ with
    | .nx ρ2 => .nx ρ2
    | _ => .no)
  | _ => .no
def scalL : Dt → Bool
  | .lst ds => ds.all scal
  | _ => false
def compK (j : Nat) (vs : List Nat) (FG : Dt → Ev → Option Ev) (Ft : Ev → Rs Bool) (Fe : Ev → Rs Dt) (ρ : Ev) : Rs Dt := varE j ρ >>= fun d => match d with
  | .dic ks _ => compE (fun _ => .ok (ks.map keyDt)) vs FG Ft Fe ρ >>= fun r => if scalL r = true then .ok r else .no
  | _ => .no
theorem Rps.scal {K : PySem.W.Frag} {ca : Str → Addr} {G G' : Hp} : ∀ {ds : List Dt} {vs : List V}, ds.all scal = true → Rps K ca G ds vs → Rps K ca G' ds vs
  | [], _, _, h => by cases h; exact .nil
  | d :: ds, _, c, h => by
    cases h with
    | cons h1 h2 =>
      rw [List.all_cons, Bool.and_eq_true] at c
      exact .cons (scal_rp c.1 h1) (Rps.scal c.2 h2)
end
/-! the greatest of the values -/
section
variable {X : Cx}
end
section
variable {J : Jc} {Γ : List Mode} {m : Mode} {Fa : Ev → Rs Dt} {ta : TE}
def maxVD (d : Dt) : Rs Dt := match d with
  | .dic _ ds => maxD (.lst ds)
  | _ => .no
def maxVE (j : Nat) (ρ : Ev) : Rs Dt := varE j ρ >>= maxVD
/-! a dict of one written pair -/
def dconE (k : Key) (d : Dt) (_ : Ev) : Rs Dt := .ok (.dic [k] [d])
end
/-! an owned thing handed from name to name -/
section
variable {J : Jc} {Γ : List Mode} {m : Mode}
def mvS (i k : Nat) (ρ : Ev) : Ot := bindS (varE k ρ) ρ fun d => .nx ((ρ.set k none).set i (some d))
end
end Pm
namespace Pm
open PySem PySem.Spec PyProof.Rows L2
open Classical
/-! ### methods that change their self -/
section
variable {G H G' H' : Hp} {K : PySem.W.Frag} {ca : Str → Addr}
theorem Ows.two : ∀ {ds : List Dt} {ms : List Mode} {us : List V} {P : Addr → Prop} {j k : Nat} {m n : Mode} {d e : Dt}, Ows K ca G H ms ds us P → j ≠ k → ms[j]? = some m → ms[k]? = some n → ds[j]? = some d → ds[k]? = some e →
    ∃ v w Pj Pk, us[j]? = some v ∧ us[k]? = some w ∧ Ow K ca G H m d v Pj ∧ Ow K ca G H n e w Pk ∧ (∀ b, Pj b → P b) ∧ (∀ b, Pk b → P b) ∧ ∀ b, Pj b → ¬ Pk b
  | [], ms, us, P, j, k, m, n, d, e, h, ne, a1, a2, b1, b2 => by simp at b1
  | x :: ds, ms, us, P, j, k, m, n, d, e, h, ne, a1, a2, b1, b2 => by
    cases h with
    | @cons _ _ _ _ _ _ _ P1 P2 h1 h2 q1 q2 q3 =>
      cases j with
      | zero =>
        cases k with
        | zero => exact absurd rfl ne
        | succ k =>
          cases a1
          cases b1
          obtain ⟨w, Pk, c1, c2, c3, _⟩ := h2.focus (k := k) (by simpa using a2) (by simpa using b2)
          exact ⟨_, w, P1, Pk, rfl, by simpa using c1, h1, c2, q1, fun b hb => q2 b (c3 b hb), fun b hb z => q3 b hb (c3 b z)⟩
      | succ j =>
        cases k with
        | zero =>
          cases a2
          cases b2
          obtain ⟨w, Pk, c1, c2, c3, _⟩ := h2.focus (k := j) (by simpa using a1) (by simpa using b1)
          exact ⟨w, _, Pk, P1, by simpa using c1, rfl, c2, h1, fun b hb => q2 b (c3 b hb), q1, fun b hb z => q3 b z (c3 b hb)⟩
        | succ k =>
          obtain ⟨v, w, Pj, Pk, c1, c2, c3, c4, c5, c6, c7⟩ := Ows.two (j := j) (k := k) h2 (fun z => ne (by rw [z])) (by simpa using a1) (by simpa using a2) (by simpa using b1) (by simpa using b2)
          exact ⟨v, w, Pj, Pk, by simpa using c1, by simpa using c2, c3, c4, fun b hb => q2 b (c5 b hb), fun b hb => q2 b (c6 b hb), c7⟩
end
section
variable {J : Jc} {Γ Γ' Γ1 : List Mode} {m : Mode} {ms : List Mode} {Fe : Ev → Rs Dt} {te ta : TE} {G0 H0 G H G' H' : Hp} {ρ : Ev} {σ : L2.St} {D : Ends} {v : V} {Fs : List (Ev → Rs Dt)} {tr : TA} {Fn : List Dt → Rs Dt} {np : Nat}
/-- the owned object of a slot is changed -/
theorem Wd.put {i : Nat} {d d' : Dt} {v : V} {Pf : Nat → Addr → Prop} {P : Addr → Prop} (w : Wd J G0 H0 Γ ρ σ G H) (h1 : ∀ i j a, i ≠ j → Pf i a → ¬ Pf j a) (h2 : ∀ i a, Pf i a → G a = none ∧ H0 a = none ∧ H a ≠ none)
    (h3 : ∀ i d, ρ[i]? = some (some d) → ∃ v m, σ[i]? = some (some v) ∧ Γ[i]? = some m ∧ Ow J.K J.ca G H m d v (Pf i)) (hq : ρ[i]? = some (some d)) (hm : Γ[i]? = some m) (hs : σ[i]? = some (some v)) (o : Ow J.K J.ca G' H' m d' v P)
    (e : Ext G0 H0 G' H') (sg : Same G G') (hp : ∀ b, P b → (Pf i b ∨ H b = none) ∧ G' b = none ∧ H0 b = none ∧ H' b ≠ none) (hc : ∀ b, H b ≠ none → ¬ Pf i b → H' b = H b ∧ G' b = G b) : Wd J G0 H0 Γ (ρ.set i (some d')) σ G' H' := by
  have hl : i < ρ.length := (List.getElem?_eq_some_iff.mp hq).1
  refine ⟨e, by rw [List.length_set]; exact w.lg, by rw [List.length_set]; exact w.lr, ⟨fun j b => if j = i then P b else Pf j b, fun j k b n q r => ?_, fun j b q => ?_, fun j c q => ?_⟩, w.pn, w.xk⟩
  · dsimp only at q r
    by_cases q1 : j = i
    · have q2 : k ≠ i := fun z => n (q1.trans z.symm)
      simp only [q1, if_true] at q
      simp only [q2, if_false] at r
      rcases (hp b q).1 with z | z
      · exact h1 k i b q2 r z
      · exact (h2 k b r).2.2 z
    · simp only [q1, if_false] at q
      by_cases q2 : k = i
      · simp only [q2, if_true] at r
        rcases (hp b r).1 with z | z
        · exact h1 j i b q1 q z
        · exact (h2 j b q).2.2 z
      · simp only [q2, if_false] at r
        exact h1 j k b n q r
  · dsimp only at q
    by_cases q1 : j = i
    · simp only [q1, if_true] at q
      exact (hp b q).2
    · simp only [q1, if_false] at q
      obtain ⟨a1, a2, a3⟩ := h2 j b q
      obtain ⟨c1, c2⟩ := hc b a3 (h1 j i b q1 q)
      exact ⟨by rw [c2]; exact a1, a2, by rw [c1]; exact a3⟩
  · by_cases q1 : j = i
    · subst q1
      rw [List.getElem?_set_self hl] at q
      cases q
      refine ⟨v, m, hs, hm, ?_⟩
      simp only [if_true]
      exact o
    · rw [List.getElem?_set_ne (Ne.symm q1)] at q
      obtain ⟨v2, m2, t1, t2, t3⟩ := h3 j c q
      refine ⟨v2, m2, t1, t2, ?_⟩
      simp only [q1, if_false]
      refine t3.carry sg fun b hb => ?_
      obtain ⟨a1, a2, a3⟩ := h2 j b hb
      obtain ⟨c1, c2⟩ := hc b a3 (h1 j i b q1 hb)
      exact ⟨c1, by rw [c2]; exact a1⟩
/-- self.f = e, a field that is there -/
def setFld (C f : Str) (i j : Nat) (Fe : Ev → Rs Dt) (ρ : Ev) : Ot := bindS (Fe ρ) ρ fun y => bindS (varE i ρ) ρ fun d => match d with
  | .ins C' ns ds => if C' = C ∧ fix f ns = some j ∧ ns.length < 100 then .nx (ρ.set i (some (.ins C' ns (ds.set j y)))) else .no
  | _ => .no
/-- self.f.append(self.g.pop(e)) -/
def appPopF (C f g : Str) (i j k : Nat) (Fe : Ev → Rs Dt) (ρ : Ev) : Ot := bindS (varE i ρ) ρ fun d => match d with
  | .ins C' ns ds => if C' = C ∧ fix f ns = some j ∧ fix g ns = some k then bindS (lstOf (ds.getD j .non)) ρ fun as => bindS (lstOf (ds.getD k .non)) ρ fun xs => bindS (Fe ρ) ρ fun y => bindS (popD xs y) ρ fun z => if lenSz as.length = true then .nx (ρ.set i (some (.ins C' ns ((ds.set j (.lst (as ++ [z.1]))).set k (.lst z.2))))) else .no else .no
  | _ => .no
/-! the spec of such a method, its call -/
def outL : Ot → Rs Dt
  | .nx ρ => (match ρ[0]? with
    | some (some d) => .ok d
    | _ => .no)
  | _ => .no
end
section
variable {P : Program} {w : World} {K : PySem.W.Frag} {ca : Str → Addr} {mg : Str → Option Value} {base : Heap} {x qual : Str} {params : Arguments} {body : List Stmt} {scope : Scope} {f : Addr} {fd : FuncData} {N ps : List Str} {k : Nat} {ms : List Mode}
end
section
variable {J : Jc} {Γ : List Mode} {ms mz : List Mode} {Fs : List (Ev → Rs Dt)} {tr : TA} {Fn : List Dt → Rs Dt} {np : Nat}
def lendS (C mm : Str) (i : Nat) (Fn : List Dt → Rs Dt) (Fs : List (Ev → Rs Dt)) (ρ : Ev) : Ot := bindS (varE i ρ) ρ fun d => bindS (noMeth C mm d) ρ fun _ => bindS (argsE Fs ρ) ρ fun ds => match Fn (d :: ds) with
  | .ok d' => .nx (ρ.set i (some d'))
  | _ => .no
/-- a field of an owned object handed back -/
def retFld (C f : Str) (i j : Nat) (ρ : Ev) : Ot := bindS (fldIE C f j i ρ) ρ fun d => .rt d
end
end Pm
namespace Pm
open PySem PySem.Spec PyProof.Rows L2
open Classical
/-! ### a < b of lists of ints -/
def lstLtD (a b : Dt) : Rs Dt := match a, b with
  | .lst xs, .lst ys => (match intsOf xs, intsOf ys with
    | some ns, some ms => .ok (.bl (HT.lexLt ns ms))
    | _, _ => .no)
  | _, _ => .no
def ltLE := op2E lstLtD
theorem v_ltL : ltLE Fa Fb ρ = (Fa ρ >>= fun a => Fb ρ >>= fun b => lstLtD a b) := rfl
end Pm
theorem L2H.RoomH.units {k : Nat} {A : PySem.Around} (r : L2H.RoomH k A) : A.units + 64 < PySem.cLine := by have := r.un; omega
namespace Pm
open PySem PySem.Spec PyProof.Rows L2
open Classical
/-! ### a caught exception handed to a helper: the helper runs over the base with the exception in it -/
section
variable {X : Cx} {pins : List (Addr × Obj)} {σ : L2.St} {H : Hp} {s : Shared}
end
section
variable {X : Cx} {a D : Addr} {oe : Obj}
end
section
variable {P : Program} {w : World} {K : PySem.W.Frag} {ca : Str → Addr} {mg : Str → Option Value} {base : Heap} {x qual : Str} {params : Arguments} {body : List Stmt} {scope : Scope} {f : Addr} {fd : FuncData} {N : List Str} {p0 : Str} {k : Nat} {m : Mode} {a : Addr}
end
section
variable {X : Cx} {CX : CXT} {k : Nat} {f : Addr} {fd : FuncData} {ps : List Str} {sp : Sp} {E : L2.St → XK} {x : Str} {p pos : Pos} {e : Expr} {es : List Expr} {t : TA} {a : Addr} {oe : Obj}
end
/-- the call of such a helper -/
def callX (r : Rs Dt) (_ : Ev) : Rs Dt := noEx r
theorem v_callX {r : Rs Dt} {ρ : Ev} : callX r ρ = noEx r := rfl
end Pm
namespace L2
open PySem PySem.Spec PyProof.Rows
open PySem.AutoSeq1 PySem.SeqAt HT Builtin.List
section
variable {prog : Program} {w : World} {A : Around} {E : Value → Shared → Prop} {s : Shared}
end
end L2
namespace L2
open PySem PySem.Spec PyProof.Rows
open PySem.AutoSeq1 PySem.SeqAt HT Builtin.List
end L2
namespace Pm
open PySem PySem.Spec PyProof.Rows L2
open Classical
/-- the pure reading -/
def setSlO (x : Dt × (Dt → Ev)) (y k : Dt) : Option Ev := match x.1, y, k with
  | .lst ds, .lst es, .int c => if 0 ≤ c ∧ c ≤ ds.length ∧ lenSz (ds.length + es.length) = true then some (x.2 (.lst (es ++ ds.drop c.toNat))) else none
  | _, _, _ => none
def someO (rest : Ev → Ot) : Option Ev → Ot
  | some ρ => rest ρ
  | none => .no
def setSlS (Fe : Ev → Rs Dt) (Fp : Ev → Rs (Dt × (Dt → Ev))) (Fi : Ev → Rs Dt) (ρ : Ev) : Ot := bindS (Fe ρ) ρ fun y => bindS (Fp ρ) ρ fun x => bindS (Fi ρ) ρ fun k => someO Ot.nx (setSlO x y k)
section
variable {J : Jc} {Γ : List Mode} {Fe Fi : Ev → Rs Dt} {te ta ti : TE} {Fp : Ev → Rs (Dt × (Dt → Ev))}
end
end Pm
namespace Pm
open PySem PySem.Spec PyProof.Rows L2
open Classical
/-! ### return [(c, D[c], e) for c in sorted(D)]: the parts of an owned dict of lists move out -/
section
variable {K : PySem.W.Frag} {ca : Str → Addr} {G H G' H' : Hp}
theorem Ows.parts : ∀ {ds : List Dt} {ms : List Mode} {us : List V} {P : Addr → Prop}, Ows K ca G H ms ds us P → ∃ Q : Nat → Addr → Prop, (∀ t d u m, ds[t]? = some d → us[t]? = some u → ms[t]? = some m → Ow K ca G H m d u (Q t)) ∧ (∀ t b, Q t b → P b) ∧ ∀ s t b, s ≠ t → Q s b → ¬ Q t b
  | [], ms, us, P, h => ⟨fun _ => Pno, fun t d u m e => by simp at e, fun _ _ z => z.elim, fun _ _ _ _ z => z.elim⟩
  | d :: ds, ms, us, P, h => by
    cases h with
    | @cons m ms _ _ v vs _ P1 P2 h1 h2 q1 q2 q3 =>
      obtain ⟨Q, a, b, c⟩ := Ows.parts h2
      refine ⟨fun t => match t with
        | 0 => P1
        | t + 1 => Q t, fun t d' u m' e1 e2 e3 => ?_, fun t x z => ?_, fun s t x n z => ?_⟩
      · cases t with
        | zero => cases e1; cases e2; cases e3; exact h1
        | succ t => exact a t d' u m' e1 e2 e3
      · cases t with
        | zero => exact q1 x z
        | succ t => exact q2 x (b t x z)
      · cases s with
        | zero =>
          cases t with
          | zero => exact absurd rfl n
          | succ t => exact fun y => q3 x z (b t x y)
        | succ s =>
          cases t with
          | zero => exact fun y => q3 x y (b s x z)
          | succ t => exact c s t x (fun e => n (by rw [e])) z
/-- a new tuple of a key, the part there, and a third -/
def MvP (ks : List Key) (ds : List Dt) (us : List V) (y : Dt) (v : V) (H : Hp) : Prop := ∃ (q : Addr) (c : Int) (t : Nat) (u f : V) (es : List Dt) (fd : Dt), v = .ref q ∧ y = .tup [.int c, .lst es, fd] ∧ H q = some (.tup [.int c, u, f]) ∧ ks[t]? = some (Sum.inl c) ∧ us[t]? = some u ∧ ds[t]? = some (.lst es)
theorem MvP.mono {ks : List Key} {ds : List Dt} {us : List V} {y : Dt} {v : V} (h : MvP ks ds us y v H) (s : Same H H') : MvP ks ds us y v H' := by
  obtain ⟨q, c, t, u, f, es, fd, a1, a2, a3, a4⟩ := h
  exact ⟨q, c, t, u, f, es, fd, a1, a2, s _ _ a3, a4⟩
theorem MvP.upd {ks : List Key} {ds : List Dt} {us : List V} {y : Dt} {v : V} {D : Addr} {o : HO} {aV : List V} (h : MvP ks ds us y v H) (hD : H D = some (.lst aV)) : MvP ks ds us y v (L2.upd H D o) := by
  obtain ⟨q, c, t, u, f, es, fd, a1, a2, a3, a4⟩ := h
  refine ⟨q, c, t, u, f, es, fd, a1, a2, ?_, a4⟩
  have n : q ≠ D := fun z => by rw [z, hD] at a3; cases a3
  rw [upd_ne n]
  exact a3
end
section
variable {J : Jc} {Γ Γ' : List Mode} {Fe : Ev → Rs Dt} {te : TE} {G0 H0 G H : Hp} {ρ : Ev} {σ : L2.St} {Q : VK}
end
section
variable {K : PySem.W.Frag} {ca : Str → Addr} {G G0 G3 H H' : Hp}
end
section
variable {J : Jc} {Γ Γ' : List Mode} {Fe : Ev → Rs Dt} {te : TE} {Fi : Ev → Rs (List Dt)} {wi : TI} {g : TG} {G0 H0 G H : Hp} {ρ : Ev} {σ : L2.St} {D : Ends}
end
end Pm
namespace Pm
open PySem PySem.Spec PyProof.Rows L2 TL
open Classical
/-! ### texts -/
section
variable {J : Jc} {Γ : List Mode} {F Fa Fb : Ev → Rs Dt} {Fs : List (Ev → Rs Dt)} {te ta tb : TE} {tr : TA} {G0 H0 G H G' H' : Hp} {ρ : Ev} {σ : L2.St}
/-! one sign in a text -/
def inSD : Dt → Dt → Rs Dt
  | .str x, .str z => (match x.cps.toList with
    | [c] => .ok (.bl (decide (c ∈ z.cps.toList)))
    | _ => .no)
  | _, _ => .no
def ninSD : Dt → Dt → Rs Dt
  | .str x, .str z => (match x.cps.toList with
    | [c] => .ok (.bl (!decide (c ∈ z.cps.toList)))
    | _ => .no)
  | _, _ => .no
def inSE := op2E inSD
def ninSE := op2E ninSD
/-! the signs of a text, walked -/
def signsD (x : Str) : List Dt := x.cps.toList.map fun c => Dt.str ⟨#[c]⟩
def strI (F : Ev → Rs Dt) (ρ : Ev) : Rs (List Dt) := F ρ >>= fun d => match d with
  | .str x => .ok (signsD x)
  | _ => .no
/-! str(int), int(text) -/
@[irreducible] def numSz (i : Int) : Bool := decide (i.natAbs.log2 < 1920)
def strD : Dt → Rs Dt
  | .int i => if numSz i = true then .ok (.str (toString i)) else .no
  | _ => .no
def strE := op1E strD
@[irreducible] def txtSz (x : Str) : Bool := decide (x.length ≤ 640)
@[irreducible] def txtNum (x : Str) : Option Int := PySem.intText? x
def intTD : Dt → Rs Dt
  | .str x => if txtSz x = true then (match txtNum x with
    | some n => .ok (.int n)
    | none => .no) else .no
  | _ => .no
def intTE := op1E intTD
/-! methods of texts -/
def strsOf : List Dt → Option (List Str)
  | [] => some []
  | .str x :: ds => (strsOf ds).map (x :: ·)
  | _ => none
theorem strsOf_map (ys : List Str) : strsOf (ys.map Dt.str) = some ys := by
  induction ys with
  | nil => rfl
  | cons b bs ih => rw [List.map_cons, strsOf, ih]; rfl
@[irreducible] def joinSz (a : Str) (ys : List Str) : Bool := decide ((ys.map (·.length)).sum + ys.length * a.length ≤ 1000000)
def strOf : Dt → Rs Str
  | .str x => .ok x
  | _ => .no
/-- a method of a text, one argument -/
def m1E (g : Str → Dt → Rs Dt) (Fa Fb : Ev → Rs Dt) (ρ : Ev) : Rs Dt := Fa ρ >>= fun a => strOf a >>= fun x => Fb ρ >>= fun b => g x b
def joinSD (x : Str) (ds : List Dt) : Rs Dt := match strsOf ds with
  | some ys => if joinSz x ys = true then .ok (.str (Txt.join x ys)) else .no
  | none => .no
def joinD (x : Str) (b : Dt) : Rs Dt := match seqD b with
  | some ds => joinSD x ds
  | none => .no
def joinE := m1E joinD
@[irreducible] def txt0 (x : Str) : Bool := x.length == 0
def splitD (x : Str) : Dt → Rs Dt
  | .str y => if (strSz x && !txt0 y) = true then .ok (.lst ((Txt.split x y).map Dt.str)) else .no
  | _ => .no
def splitE := m1E splitD
def partD (x : Str) : Dt → Rs Dt
  | .str y => if (strSz x && !txt0 y) = true then .ok (.tup [.str (Txt.partition x y).1, .str (Txt.partition x y).2.1, .str (Txt.partition x y).2.2]) else .no
  | _ => .no
def partE := m1E partD
def swD (x : Str) : Dt → Rs Dt
  | .str y => .ok (.bl (Txt.startswith x y))
  | _ => .no
def swE := m1E swD
/-! range with a step -/
def stepL (lo c : Int) (n : Nat) : List Dt := (List.range n).map fun i => Dt.int (lo + (i : Nat) * c)
def stepN (i j c : Int) : Nat := (Builtin.Range.rangeSize i j c).toNat
def rng3I (Fs : List (Ev → Rs Dt)) (ρ : Ev) : Rs (List Dt) := argsE Fs ρ >>= fun ds => match ds with
  | [.int i, .int j, .int c] => if (intSz i && intSz j && intSz c && decide (0 < c)) = true then .ok (stepL i c (stepN i j c)) else .no
  | _ => .no
/-! text * int -/
def repSt (x : Str) (n : Nat) : Str := ⟨((List.replicate n x.cps.toList).flatten).toArray⟩
@[irreducible] def repSz (x : Str) (n : Int) : Bool := decide (0 ≤ n ∧ n ≤ 1000 ∧ x.length ≤ 1000)
def mulSD : Dt → Dt → Rs Dt
  | .str x, .int n => if repSz x n = true then .ok (.str (repSt x n.toNat)) else .no
  | _, _ => .no
def mulSE := op2E mulSD
end
end Pm
namespace Pm
open PySem PySem.Spec PyProof.Rows L2
open Classical
/-! ### an exception that bears a number: class X(MillError) with __init__(self, row) -/
section
variable {X : Cx} {e : Expr} {es : List Expr} {ta : TA} {p1 p2 pos : Pos} {x : Str} {B : Addr}
end
section
variable {P : Program} {w : World} {K : PySem.W.Frag} {mg : Str → Option Value} {base : Heap} {qual : Str} {params : Arguments} {body : List Stmt} {scope : Scope} {f : Addr} {fd : FuncData} {C B : Addr} {z : Str}
end
/-! the raise -/
def raiNS (c : Str) (F : Ev → Rs Dt) (ρ : Ev) : Ot := bindS (F ρ) ρ fun d => match d with
  | .int n => .ex (c, some n) ρ
  | _ => .no
section
variable {J : Jc} {Γ Γ' : List Mode} {F : Ev → Rs Dt} {te : TE} {c : Str}
end
end Pm
/-! ### sorted of pairs (tuple of ints, text) -/
namespace SrtO
open PySem PyProof.Rows Srt L2
def codes (z : PySem.Str) : List Int := z.cps.toList.map fun (n : Nat) => (n : Int)
abbrev keyT (p : List Int × PySem.Str) : List Int × List Int := (p.1, codes p.2)
def IsNestT (h : Heap) (v : Value) (k : List Int × PySem.Str) : Prop := ∃ a o fa t n fi, v = Value.ref a ∧ h.get? a = some o ∧ o.cls = .type "tuple" ∧ o.data = .seq #[.ref fa, .str k.2 t] n ∧ IsTup h fa fi ∧ IntsAre fi.toList k.1
theorem IsNestT.keeps {h h' : Heap} {v : Value} {k : List Int × PySem.Str} (p : IsNestT h v k) (kp : ∀ b o, h.get? b = some o → o.cls = .type "tuple" → h'.get? b = some o) : IsNestT h' v k := by
  obtain ⟨a, o, fa, t, n, fi, e, ho, hc, hd, ⟨o1, h1, c1, d1⟩, i1⟩ := p
  exact ⟨a, o, fa, t, n, fi, e, kp _ _ ho hc, hc, hd, ⟨o1, kp _ _ h1 c1, c1, d1⟩, i1⟩
section
variable {prog : Program} {w : World} {A : Around} {E : Value → Shared → Prop} {s : Shared}
end
end SrtO
namespace L2
open PySem PySem.Spec PyProof.Rows
end L2
namespace Pm
open PySem PySem.Spec PyProof.Rows L2
open Classical
abbrev Tst := List Int × Str
def leT (p q : Tst) : Bool := leN (SrtO.keyT p) (SrtO.keyT q)
def sortT (ps : List Tst) : List Tst := ps.mergeSort leT
def tsD (p : Tst) : Dt := .tup [.tup (p.1.map .int), .str p.2]
def tstsOf : List Dt → Option (List Tst)
  | [] => some []
  | .tup [.tup a, .str z] :: ds => (match intsOf a with
    | some ns => (tstsOf ds).map ((ns, z) :: ·)
    | _ => none)
  | _ => none
def sortTD (d : Dt) : Rs Dt := match d with
  | .lst ds => (match tstsOf ds with
    | some ps => .ok (.lst ((sortT ps).map tsD))
    | none => .no)
  | _ => .no
def sortTE := op1E sortTD
section
variable {J : Jc} {Γ : List Mode} {F Fa Fb : Ev → Rs Dt} {te ta tb : TE} {G0 H0 G H G' H' : Hp} {ρ : Ev} {σ : L2.St}
end
end Pm
namespace Pm
open PySem PySem.Spec PyProof.Rows L2
open Classical
/-! ### return [P.pop(e) for t in range(n)], P an owned list -/
section
variable {J : Jc} {Γ Γ' Γ1 Γ2 : List Mode} {em : EM} {m : Mode} {ms : List Mode} {Fe Fa Fb : Ev → Rs Dt} {Fs : List (Ev → Rs Dt)} {te ta tb : TE} {tr : TA} {G0 H0 Gs G H G' H' : Hp} {ρ : Ev} {σ : L2.St} {vs : List Nat}
end
end Pm
/-! several except clauses, each with a name or without (turned from the kit's rules for clauses of one kind) -/
namespace L2
open PySem PySem.Spec PyProof.Rows
abbrev TH := Addr → Value → Option Addr → TS
section
variable {X : Cx} {body : List Stmt} {h₀ : ExceptHandler} {hds : List ExceptHandler} {l : List (Option Nat × Value × TH)} {pos : Pos} {tb : WX → TS} {Wout : WX}
end
end L2
namespace Pm
open PySem PySem.Spec PyProof.Rows L2
open Classical
/-! ### what a caught exception bears -/
section
variable {K : PySem.W.Frag} {ca : Str → Addr} {G H G' H' : Hp} {X : Addr} {fs : List (Str × V)}
end
def xdOf (d : Option Addr) (c : Xn) : Option (Addr × Int) := match d, c.2 with
  | some a, some n => some (a, n)
  | _, _ => none
theorem XR.some {c : Xn} {dx : Option Addr} {H : Hp} (h : XR c dx H) : dx.isSome = c.2.isSome ∧ ∀ a n, xdOf dx c = some (a, n) → H a = some (.xd [("row", .int n)]) := by
  unfold XR at h
  unfold xdOf
  cases q : c.2 with
  | none =>
    rw [q] at h
    have h : dx = none := h
    subst h
    exact ⟨rfl, fun _ _ z => nomatch z⟩
  | some n =>
    rw [q] at h
    obtain ⟨d, rfl, h⟩ := h
    refine ⟨rfl, fun a m z => ?_⟩
    cases z
    exact h
section
variable {J : Jc} {Γ Γ' Γx : List Mode} {G0 H0 Gs G H G' H' : Hp} {ρ : Ev} {σ : L2.St} {D : Ends}
end
/-! ### the clauses -/
abbrev Cl := Option Nat × List (Str × Bool) × (Xn → Ev → Ot)
def goX : List Cl → Xn → Ev → Ot
  | [], c, ρ => .ex c ρ
  | (nm, subs, Fh) :: r, c, ρ => match subs.lookup c.1 with
    | some true => (match nm with
      | some i => clrO i (Fh c (ρ.set i none))
      | none => noX (Fh c ρ))
    | some false => goX r c ρ
    | none => .no
def tryX (hs : List Cl) (Fb : Ev → Ot) (ρ : Ev) : Ot := match Fb ρ with
  | .ex c ρ' => goX hs c ρ'
  | o => o
section
variable {J : Jc} {Γ Γ' Γx : List Mode} {Fb : Ev → Ot} {tb : WX → TS}
end
section
variable {X : Cx} {body : List Stmt} {h₀ : ExceptHandler} {hds : List ExceptHandler} {l : List (Option Nat × Value × TH)} {pos : Pos} {tb : WX → TS} {Wout : WX}
end
/-! ### e.row; isinstance of an exception that may bear a number -/
def excRowE (C : Str) (c : Xn) (_ : Ev) : Rs Dt := if c.1 = C then (match c.2 with
  | some n => .ok (.int n)
  | none => .no) else .no
section
variable {J : Jc} {Γ : List Mode} {i : Nat} {a : Addr} {c : Xn} {d : Option Addr}
end
/-! the built-in, asked of an exception with a dict (turned from the kit's own for one without) -/
end Pm
/-! ### min, max of ints with default=; sorted of texts -/
namespace L2
open PySem PySem.Spec PyProof.Rows PySem.W
def bestMin : List Int → Int
  | [] => 0
  | x :: r => r.foldl min x
def bestMax : List Int → Int
  | [] => 0
  | x :: r => r.foldl max x
section
variable {X : Cx}
end
end L2
namespace Pm
open PySem PySem.Spec PyProof.Rows L2
open Classical
def seq3D : Dt → Option (List Dt)
  | .lst ds => some ds
  | .scr ds => some ds
  | .tup ds => some ds
  | _ => none
def bestDD (best : List Int → Int) (a d : Dt) : Rs Dt := match seq3D a with
  | some ds => (match intsOf ds with
    | some [] => if scal d = true then .ok d else .no
    | some (x :: r) => .ok (.int (best (x :: r)))
    | none => .no)
  | none => .no
def minDE := op2E (bestDD bestMin)
def maxDE := op2E (bestDD bestMax)
section
variable {J : Jc} {Γ : List Mode} {Fa Fb F : Ev → Rs Dt} {ta tb te : TE} {best : List Int → Int}
/-! sorted of texts -/
def leS (a b : Str) : Bool := leT ([], a) ([], b)
def sortS (xs : List Str) : List Str := xs.mergeSort leS
def sortSD (d : Dt) : Rs Dt := match lisD d with
  | some ds => (match strsOf ds with
    | some xs => if xs.length < 64 then .ok (.lst ((sortS xs).map .str)) else .no
    | none => .no)
  | none => .no
def sortSE := op1E sortSD
end
end Pm
/-! ### an exception that leaves a comprehension -/
namespace PySem
open Sem (wp)
section
variable {M : Model} {A : Around} {E : Value → Shared → Prop} {s : Shared} {env : Env}
/-- what a comprehension leaves, its own frame that of the def around it -/
def compPostX (M : Model) (A : Around) (env : Env) (E : Value → Shared → Prop) (Q : Value → Shared → Prop) (acc : Value) (C : Addr) (r : Result) (s' : Shared) : Prop :=
  match r with
  | .ok _ => ∃ m, s'.heap.Ns C m ∧ ∀ h', Heap.SameBut C s'.heap h' → Q acc { s' with heap := h' }
  | .error x => ∃ m, s'.heap.Ns C m ∧ ∀ h', Heap.SameBut C s'.heap h' → ∀ cenv : Env, cenv.locals = C → cenv.frame = env.frame → wpAny M A (passOn "comprehension.variables-let-go" x cenv : Sem Value) (fun _ _ => False) E { s' with heap := h' }
end
end PySem
namespace L2
open PySem PySem.Spec PyProof.Rows
/-- an exception in the air of X that flew in from a call -/
def XF (X : Cx) (W : WX) (u : Value) (s' : Shared) : Prop :=
  ∃ (a : Addr) (B : Heap) (sI : Shared) (pins : List (Addr × Obj)) (σ : St) (H : Hp) (cls : Value) (d : Option Addr),
    u = .ref a ∧ Inv X pins σ H sI ∧ (∀ b o, sI.heap.get? b = some o → b ∉ frs X.stack → B.get? b = some o) ∧ sI.heap.UpToSlots s'.heap ∧
      HandSPX.FlyingZ B X.stack a (Zc cls d) s'.heap ∧ H a = none ∧ s'.os = sI.os ∧ AllBare s'.gens ∧ W cls d σ H
section
variable {X : Cx} {pins : List (Addr × Obj)} {σ : St} {H : Hp} {s s' : Shared} {W : WX} {E : XK}
theorem frameOf_eq {e1 e2 : Env} (h : e1.frame = e2.frame) : PySem.frameOf e1 = PySem.frameOf e2 := by unfold PySem.frameOf; rw [h]
theorem noteFrame_eq {e1 e2 : Env} (u : Value) (h : e1.frame = e2.frame) : noteFrame u e1 = noteFrame u e2 := by
  unfold noteFrame
  rw [h, frameOf_eq h]
theorem funFrames_but {C : Addr} {base h h' : Heap} (sb : Heap.SameBut C h h') : ∀ {l : List Env}, h.FunFrames base l → C ∉ frs l → h'.FunFrames (PySem.W.hideAll base [C]) l
  | [], _, _ => trivial
  | env :: l, h1, hn => by
    obtain ⟨hk, ⟨L, o, hf, hb, ho, hd⟩, hr⟩ := h1
    have hL : L ≠ C := fun z => hn (List.mem_filterMap.mpr ⟨env, List.mem_cons_self, by rw [hf, z]⟩)
    refine ⟨hk, ⟨L, o, hf, ?_, (sb.2 L hL).trans ho, hd⟩, funFrames_but sb hr fun hb => ?_⟩
    · cases q : (PySem.W.hideAll base [C]).get? L with
      | none => rfl
      | some o' =>
        have z := PySem.W.of_hideAll _ q
        rw [hb] at z; cases z
    · obtain ⟨e, he, q⟩ := List.mem_filterMap.mp hb
      exact hn (List.mem_filterMap.mpr ⟨e, List.mem_cons_of_mem _ he, q⟩)
/-- it leaves the block: noted at the def's frame, the block's own names let go -/
theorem XF.out {Wo : WX} {scope : Scope} {ce : Env} {fp : List Addr} {s3 : Shared} {H3 : Hp} {u : Value} {Q : Value → Shared → Prop} {acc : Value} (tk : Takes X Wo) (hst : X.stack = X.env :: X.outer) (hf : X.env.frame = some X.env.locals)
    (I3 : Inv X pins σ H3 s3) (hC : ce.locals = s3.heap.objs.size) (hcf : ce.frame = X.env.frame) (f3 : ∀ b ∈ fp, FpOk X pins H3 b ∧ b < s3.heap.objs.size)
    (x : XF (X.blk s3 H3 scope ce fp) (fun c d _ H' => Wo c d σ H') u s') : notedBy (model X.prog X.w) X.A ce (fun e s'' => compPostX (model X.prog X.w) X.A X.env X.xe Q acc s3.heap.objs.size (.error e) s'') u s' := by
  obtain ⟨a, B, sI, pB, σB, H', cls, d, rfl, I6, nb, up, fl, na, os, ag, w⟩ := x
  have I7 : Inv X pins σ H' sI := I3.call' (ch := fp) I6.os I6.base I6.hok I6.bare fun b hb => ⟨(f3 b hb).1.2.2.2.1, (f3 b hb).1.2.1, (f3 b hb).1.2.2.2.2.1, (f3 b hb).1.2.2.2.2.2⟩
  have nC : H' s3.heap.objs.size = none := by
    have z : H' ce.locals = none := I6.free
    rw [hC] at z
    exact z
  obtain ⟨m, hn, _⟩ := I6.loc
  have hn : sI.heap.Ns ce.locals m := hn
  rw [hC] at hn
  have ff := I3.fpOk (Nat.le_refl _) nC
  have nfr : s3.heap.objs.size ∉ frs X.stack := fun hm => by
    obtain ⟨_, o, e, _⟩ := I3.stack.mem hm
    exact absurd (Heap.lt_size e) (Nat.lt_irrefl _)
  generalize hCC : s3.heap.objs.size = C at nC hn ff nfr ⊢
  obtain ⟨oC, es, ep, gC, rC⟩ := hn
  have bC : B.get? C = some oC := nb C oC gC nfr
  have fl : HandSPX.FlyingZ B X.stack a (Zc cls d) s'.heap := fl
  have haC : a ≠ C := fun z => by have := fl.2.1; rw [z, bC] at this; cases this
  have hfr : X.A.frames = some (X.env :: X.outer) := by rw [I3.ok.frames, hst]
  unfold notedBy
  rw [noteFrame_eq _ hcf]
  rw [hst] at fl
  refine HandSPX.looks_onZ Zc.steady hfr hf fl fun h1 hh up1 => ?_
  obtain ⟨k1, k2, k3, oe, vs, T, oT, ts, he, hz, hd, v1, hnT, hTe, hT, hdT, t3⟩ := hh
  have hTC : T ≠ C := fun z => by rw [z, bC] at hnT; cases hnT
  refine ⟨m, ⟨oC, es, ep, k1 _ _ bC, rC⟩, fun h2 sb cenv' hl hfr2 => ?_⟩
  have he2 : h2.get? a = some oe := (sb.2 a haC).trans he
  have hT2 : h2.get? T = some oT := (sb.2 T hTC).trans hT
  have hid : ∀ {h : Heap} {b : Addr} {o : Obj}, (PySem.W.hideAll h [C]).get? b = some o → h.get? b = some o ∧ b ≠ C := fun {h b o} e => by
    refine ⟨PySem.W.of_hideAll _ e, fun z => ?_⟩
    rw [z, PySem.W.hideAll_none _ (by simp)] at e
    cases e
  have stB : (PySem.W.hideAll B [C]).StaysIn h2 := fun b o e => by
    obtain ⟨e1, hb⟩ := hid e
    exact (sb.2 b hb).trans (k1 b o e1)
  have noB : ∀ {b : Addr}, B.get? b = none → (PySem.W.hideAll B [C]).get? b = none := fun {b} e => by
    cases q : (PySem.W.hideAll B [C]).get? b with
    | none => rfl
    | some o =>
      have z := (hid q).1
      rw [e] at z; cases z
  have fnB : h2.FunFrames (PySem.W.hideAll B [C]) (X.env :: X.outer) := funFrames_but sb k3 (by rw [← hst]; exact nfr)
  have tz : HandSPX.TracedZ h2 (PySem.W.hideAll B [C]) a (Zc cls d) (rawInt X.env.locals) := ⟨oe, vs, T, oT, ts, he2, hz, hd, v1, noB hnT, hTe, hT2, hdT, t3⟩
  unfold PySem.passOn
  refine wpAny_bind (wpAny_field he2 hd v1 ?_)
  rw [if_neg (show ¬ ((Value.ref T == Value.none) = true) by simp)]
  rw [hfr2, hf]
  refine wpAny_bind (HandSPX.setFlight_anyZ stB fnB tz fun h3 q1 q2 q3 q4 => wpAny_throw (tk _ _ ?_))
  refine ⟨a, PySem.W.hideAll B [C], { sI with heap := PySem.W.hideAll sI.heap [C], toks := sI.toks }, pins, σ, H', cls, d, rfl, ?_, fun b o e hb => ?_, fun b o e hnf => ?_, .inr (.inr ?_), na, os, ag, w⟩
  · obtain ⟨f0, f1, f2, f4, f5, f6⟩ := ff
    exact I7.turned (t' := sI.toks) (fun b o hb e => PySem.W.hideAll_get _ e (by simpa using hb)) f0 f1 f4 f5 f6
  · obtain ⟨e1, hbC⟩ := hid e
    exact PySem.W.hideAll_get _ (nb b o e1 hb) (by simpa using hbC)
  · obtain ⟨e1, hbC⟩ := hid e
    obtain ⟨sl1, z1⟩ := up b o e1 hnf
    obtain ⟨sl2, z2⟩ := up1 b _ z1 hnf
    have z3 := (sb.2 b hbC).trans z2
    obtain ⟨sl3, z4⟩ := q4 b _ z3 hnf
    exact ⟨sl3, z4⟩
  · rw [hst]
    exact ⟨q1, noB k2, q2, q3⟩
end
end L2
namespace Pm
open PySem PySem.Spec PyProof.Rows L2
open Classical
def compLX (FG : Dt → Ev → Option Ev) (Ft : Ev → Rs Bool) (Fe : Ev → Rs Dt) (ρ : Ev) : List Dt → Rs (List Dt)
  | [] => .ok []
  | d :: ds => match FG d ρ with
    | none => .no
    | some ρ1 => noEx (Ft ρ1) >>= fun b => if b = true then (Fe ρ1 >>= fun y => compLX FG Ft Fe ρ ds >>= fun ys => .ok (y :: ys)) else compLX FG Ft Fe ρ ds
def compXE (Fi : Ev → Rs (List Dt)) (vs : List Nat) (FG : Dt → Ev → Option Ev) (Ft : Ev → Rs Bool) (Fe : Ev → Rs Dt) (ρ : Ev) : Rs Dt := Fi ρ >>= fun ds => if lenSz ds.length = true then compLX FG Ft Fe (wipeE ρ vs) ds >>= fun ys => .ok (.lst ys) else .no
section
variable {J : Jc} {G0 H0 G H : Hp} {Γ : List Mode} {ρ : Ev} {σ : L2.St} {m : Mode} {vs : List Nat}
variable {Fi : Ev → Rs (List Dt)} {wi : TI} {FG : Dt → Ev → Option Ev} {g : TG} {Ft : Ev → Rs Bool} {tt : TT} {Fe : Ev → Rs Dt} {te : L2.St → TE}
end
end Pm
namespace Pm
open PySem PySem.Spec PyProof.Rows L2
open Classical
/-! ### expressions that change what is lent to them -/
inductive Rx (α : Type) where
  | ok (a : α) (ρ : Ev) | ex (c : Xn) (ρ : Ev) | no
/-- what a lent call tells: the value, the lent object behind it -/
inductive Ln where
  | ok (r d : Dt) | ex (c : Xn) (d : Dt) | no
inductive PostX {α : Type} (J : Jc) (G0 H0 Gs : Hp) (Γ : List Mode) (σ : L2.St) (Q : α → Hp → Hp → Prop) : Rx α → Prop where
  | ok {a : α} {ρ' : Ev} : (∀ G' H', Same Gs G' → Wd J G0 H0 Γ ρ' σ G' H' → Q a G' H') → PostX J G0 H0 Gs Γ σ Q (.ok a ρ')
  | ex {c : Xn} {ρ' : Ev} : (∀ dx H', Same H0 H' → XR c dx H' → (∀ Γ1, J.gx = some Γ1 → ∃ G', Same Gs G' ∧ Wd J G0 H0 Γ1 ρ' σ G' H') → J.W (.ref (J.ca c.1)) dx σ H') → PostX J G0 H0 Gs Γ σ Q (.ex c ρ')
def bindX {α β : Type} (r : Rs α) (ρ : Ev) (k : α → Rx β) : Rx β := match r with
  | .ok a => k a
  | .ex c => .ex c ρ
  | .no => .no
def thenX {α β : Type} (r : Rx α) (k : α → Ev → Rx β) : Rx β := match r with
  | .ok a ρ => k a ρ
  | .ex c ρ => .ex c ρ
  | .no => .no
section
variable {J : Jc} {Γ Γ' Γ1 Γ2 : List Mode} {m : Mode} {ms mz : List Mode} {Fe Fa Fb : Ev → Rs Dt} {Ft : Ev → Rs Bool} {Fs : List (Ev → Rs Dt)} {te ta tb : TE} {tt tu : TT} {tr : TA} {G0 H0 Gs G H G' H' : Hp} {ρ : Ev} {σ : L2.St} {D : Ends} {Fn : List Dt → Ln} {np : Nat} {Fp : Ev → Rs (Dt × (Dt → Ev))} {Fx Fy : Ev → Rx Dt} {Xt Xu : Ev → Rx Bool}
  {F1 F2 : Ev → Ot} {t1 t2 : TS}
theorem PostX.up {α : Type} {Q : α → Hp → Hp → Prop} {r : Rx α} (e : Same Gs G') (p : PostX J G0 H0 Gs Γ σ Q r) : PostX J G0 H0 G' Γ σ Q r := by
  cases p with
  | ok p => exact .ok fun a b d => p a b (e.trans d)
  | ex p => exact .ex fun b c d x k => p b c d x fun Γ1 z => (k Γ1 z).imp fun _ q => ⟨e.trans q.1, q.2⟩
theorem exX {α : Type} {Q : α → Hp → Hp → Prop} {c : Xn} (w : Wd J G0 H0 Γ ρ σ G H) (hx : Gx J Γ) (p : PostX J G0 H0 G Γ σ Q (.ex c ρ)) : ∀ H1 dx, Same H H1 → XR c dx H1 → J.W (.ref (J.ca c.1)) dx σ H1 := fun H1 dx s xr => by
  cases p with
  | ex p =>
    refine p dx H1 (w.x.h.trans s) xr fun Γ1 z => ?_
    rcases hx with h | h
    · rw [h] at z; cases z
    · rw [h] at z
      cases z
      exact ⟨G, Same.refl _, w.heap s⟩
theorem PostX.bind {α β : Type} {Q : β → Hp → Hp → Prop} {r : Rs α} {k : α → Rx β} (w : Wd J G0 H0 Γ ρ σ G H) (hx : Gx J Γ) (p : PostX J G0 H0 G Γ σ Q (bindX r ρ k)) : Rs.Post (fun a => PostX J G0 H0 G Γ σ Q (k a)) (fun c => ∀ H1 dx, Same H H1 → XR c dx H1 → J.W (.ref (J.ca c.1)) dx σ H1) r := by
  cases r with
  | ok a => exact .ok p
  | ex c => exact .ex (exX w hx p)
  | no => cases p
theorem PostX.then {α β : Type} {Q : β → Hp → Hp → Prop} {r : Rx α} {k : α → Ev → Rx β} (p : PostX J G0 H0 G Γ σ Q (thenX r k)) (R : α → Hp → Hp → Prop) (h : ∀ a ρ' G' H', Same G G' → Wd J G0 H0 Γ ρ' σ G' H' → PostX J G0 H0 G' Γ σ Q (k a ρ') → R a G' H') : PostX J G0 H0 G Γ σ R r := by
  cases r with
  | ok a ρ' => exact .ok fun G' H' s w => h a ρ' G' H' s w (p.up s)
  | ex c ρ' =>
    cases p with
    | ex p => exact .ex p
  | no => cases p
theorem PostX.of_ok {α : Type} {Q : α → Hp → Hp → Prop} {a : α} {ρ' : Ev} (p : PostX J G0 H0 Gs Γ σ Q (.ok a ρ')) : ∀ G' H', Same Gs G' → Wd J G0 H0 Γ ρ' σ G' H' → Q a G' H' := by
  cases p with
  | ok p => exact p
/-! pure ones -/
def pureX (Fe : Ev → Rs Dt) (ρ : Ev) : Rx Dt := bindX (Fe ρ) ρ fun d => .ok d ρ
def pureXT (Ft : Ev → Rs Bool) (ρ : Ev) : Rx Bool := bindX (Ft ρ) ρ fun d => .ok d ρ
/-! one behind the other -/
/-- a scalar goes on into a pure one -/
def opX (Fx : Ev → Rx Dt) (g : Dt → Ev → Rs Dt) (ρ : Ev) : Rx Dt := thenX (Fx ρ) fun d ρ' => if scal d = true then bindX (g d ρ') ρ' fun e => .ok e ρ' else .no
def valXT (Fx : Ev → Rx Dt) (ρ : Ev) : Rx Bool := thenX (Fx ρ) fun d ρ' => bindX (asB d) ρ' fun b => .ok b ρ'
def notXT (Xt : Ev → Rx Bool) (ρ : Ev) : Rx Bool := thenX (Xt ρ) fun b ρ' => .ok (!b) ρ'
def andXT (Xt Xu : Ev → Rx Bool) (ρ : Ev) : Rx Bool := thenX (Xt ρ) fun b ρ' => if b = true then Xu ρ' else .ok false ρ'
def orXT (Xt Xu : Ev → Rx Bool) (ρ : Ev) : Rx Bool := thenX (Xt ρ) fun b ρ' => if b = true then .ok true ρ' else Xu ρ'
def andX (Fx Fy : Ev → Rx Dt) (ρ : Ev) : Rx Dt := thenX (Fx ρ) fun d ρ' => bindX (asB d) ρ' fun b => if b = true then Fy ρ' else .ok (.bl false) ρ'
/-! ### statements over them -/
def asgX (i : Nat) (Fx : Ev → Rx Dt) (ρ : Ev) : Ot := match Fx ρ with
  | .ok d ρ' => .nx (ρ'.set i (some d))
  | .ex c ρ' => .ex c ρ'
  | .no => .no
def dropX (Fx : Ev → Rx Dt) (ρ : Ev) : Ot := match Fx ρ with
  | .ok d ρ' => .nx ρ'
  | .ex c ρ' => .ex c ρ'
  | .no => .no
def ifX (Xt : Ev → Rx Bool) (F1 F2 : Ev → Ot) (ρ : Ev) : Ot := match Xt ρ with
  | .ok b ρ' => if b = true then F1 ρ' else F2 ρ'
  | .ex c ρ' => .ex c ρ'
  | .no => .no
def retX (Fx : Ev → Rx Dt) (ρ : Ev) : Ot := match Fx ρ with
  | .ok d ρ' => .rt d
  | .ex c ρ' => .ex c ρ'
  | .no => .no
/-! ### returns of a def to which an object is lent -/
def retW (j : Nat) (Fe : Ev → Rs Dt) (ρ : Ev) : Ot := bindS (Fe ρ) ρ fun d => match ρ[j]? with
  | some (some l) => .rt (.tup [d, l])
  | _ => .no
def retWX (j : Nat) (Fx : Ev → Rx Dt) (ρ : Ev) : Ot := match Fx ρ with
  | .ok d ρ' => (match ρ'[j]? with
    | some (some l) => .rt (.tup [d, l])
    | _ => .no)
  | .ex c ρ' => .ex c ρ'
  | .no => .no
def retWN (j : Nat) (ρ : Ev) : Ot := match ρ[j]? with
  | some (some l) => .rt (.tup [.non, l])
  | _ => .no
end
/-! ### the spec of such a def -/
def outW (g : Bool) (m : Mode) (j : Nat) : Ot → Ln
  | .nx ρ => if isF m = true then (match ρ[j]? with
    | some (some d) => .ok .non d
    | _ => .no) else .no
  | .rt (.tup [r, d]) => .ok r d
  | .ex c ρ => if g = true then (match ρ[j]? with
    | some (some d) => .ex c d
    | _ => .no) else .no
  | _ => .no
section
variable {P : Program} {w : World} {K : PySem.W.Frag} {ca : Str → Addr} {mg : Str → Option Value} {base : Heap} {x qual : Str} {params : Arguments} {body : List Stmt} {scope : Scope} {f : Addr} {fd : FuncData} {N ps : List Str} {k : Nat} {m ml : Mode}
end
/-! ### its call -/
section
variable {J : Jc} {Γ Γ' Γ1 Γ2 : List Mode} {m ml : Mode} {ms mz : List Mode} {Fe Fa Fb : Ev → Rs Dt} {Fs : List (Ev → Rs Dt)} {te ta tb : TE} {tr : TA} {G0 H0 Gs G H G' H' : Hp} {ρ : Ev} {σ : L2.St} {D : Ends} {Fn : List Dt → Ln} {np : Nat} {Fp : Ev → Rs (Dt × (Dt → Ev))} {d : Dt} {v : V} {put : Dt → Ev}
def lnX (r : Ln) (put : Dt → Ev) : Rx Dt := match r with
  | .ok r d => .ok r (put d)
  | .ex c d => .ex c (put d)
  | .no => .no
/-- P.m(..), P lent -/
def methX (C mm : Str) (Fp : Ev → Rs (Dt × (Dt → Ev))) (Fn : List Dt → Ln) (Fs : List (Ev → Rs Dt)) (ρ : Ev) : Rx Dt := bindX (Fp ρ) ρ fun x => bindX (noMeth C mm x.1) ρ fun _ => bindX (argsE Fs ρ) ρ fun ds => lnX (Fn (x.1 :: ds)) x.2
theorem Foc.view (f : Foc J H0 Γ σ G H ml d v put) (e : Same G H) : Rp J.K J.ca H d v := by
  obtain ⟨P, o, r, k⟩ := f.ex
  exact o.view e
/-- f(P, ..), P lent -/
def callX0 (Fp : Ev → Rs (Dt × (Dt → Ev))) (Fn : List Dt → Ln) (Fs : List (Ev → Rs Dt)) (ρ : Ev) : Rx Dt := bindX (Fp ρ) ρ fun x => bindX (argsE Fs ρ) ρ fun ds => lnX (Fn (x.1 :: ds)) x.2
/-- f(x, y, P), P lent -/
def callX2 (F1 F2 : Ev → Rs Dt) (Fp : Ev → Rs (Dt × (Dt → Ev))) (Fn : List Dt → Ln) (ρ : Ev) : Rx Dt := bindX (F1 ρ) ρ fun x => bindX (F2 ρ) ρ fun y => bindX (Fp ρ) ρ fun z => lnX (Fn [x, y, z.1]) z.2
end
end Pm
/-! ### list.remove of a text; o.f as a target -/
namespace L2
open PySem PySem.Spec PyProof.Rows
section
variable {X : Cx} {pos : Pos}
end
end L2
namespace Pm
open PySem PySem.Spec PyProof.Rows L2
open Classical
section
variable {J : Jc} {Γ Γ' Γf : List Mode} {m m1 m2 : Mode} {ms : List Mode} {Fe Fa Fi : Ev → Rs Dt} {Fp : Ev → Rs (Dt × (Dt → Ev))} {te ta ti : TE} {G0 H0 G H G' H' : Hp} {ρ : Ev} {σ : L2.St}
/-! ### an expression, all names looked at alone -/
theorem Wd.look (w : Wd J G0 H0 Γ ρ σ G H) (hl : Γf.length = Γ.length) (hf : ∀ (i : Nat) (m : Mode), Γf[i]? = some m → m = .F) : Wd J H H Γf ρ σ H H := by
  obtain ⟨Pf, h1, h2, h3⟩ := w.env
  refine ⟨Ext.refl (Same.refl _), hl.trans w.lg, w.lr, ⟨fun _ => Pno, fun _ _ _ _ z => z.elim, fun _ _ z => z.elim, fun i d q => ?_⟩, w.pn, fun d n e => ?_⟩
  · obtain ⟨v, m, s1, s2, s3⟩ := h3 i d q
    have hi : i < Γf.length := by rw [hl]; exact (List.getElem?_eq_some_iff.mp s2).1
    have e : Γf[i]? = some Γf[i] := List.getElem?_eq_getElem hi
    exact ⟨v, .F, s1, by rw [e, hf i _ e], .F (s3.view w.gh)⟩
  · rcases w.xk d n e with z | z
    · exact .inl (w.gh _ _ (w.x.g _ _ z))
    · exact .inl (w.x.h _ _ z)
def lookE (m : Mode) (Fe : Ev → Rs Dt) (ρ : Ev) : Rs Dt := leafR m (Fe ρ)
/-! ### P.remove(text) -/
def remD (xp : Dt → Ev) (ds : List Dt) (y : Dt) : Ot := match y with
  | .str s => (match strsOf ds with
    | some ys => if s ∈ ys then .nx (xp (.lst ((ys.erase s).map Dt.str))) else .no
    | none => .no)
  | _ => .no
def remS (Fp : Ev → Rs (Dt × (Dt → Ev))) (Fe : Ev → Rs Dt) (ρ : Ev) : Ot := bindS (Fp ρ) ρ fun x => bindS (lstOf x.1) ρ fun ds => bindS (Fe ρ) ρ fun y => remD x.2 ds y
/-! ### parts put together anew -/
/-! ### self.f[e] = (k, self.f[e][1]) -/
def fldLst (C f : Str) (j : Nat) (d : Dt) : Rs (List Dt) := match d with
  | .ins C' ns ds => if C' = C ∧ fix f ns = some j then (match ds[j]? with
    | some (.lst xs) => .ok xs
    | _ => .no) else .no
  | _ => .no
def fldSet (j : Nat) (y : Dt) (d : Dt) : Dt := match d with
  | .ins C ns ds => .ins C ns (ds.set j y)
  | d => d
def partAt (xs : List Dt) (z : Dt) : Rs (Nat × Dt) := match z with
  | .int z => (match ixN xs.length z with
    | some t => (match xs[t]? with
      | some (.tup [_, y]) => .ok (t, y)
      | _ => .no)
    | none => .no)
  | _ => .no
def setPart (C f : Str) (i j : Nat) (Fk Fi : Ev → Rs Dt) (ρ : Ev) : Ot := bindS (Fk ρ) ρ fun kd => bindS (varE i ρ) ρ fun d => bindS (fldLst C f j d) ρ fun xs => bindS (Fi ρ) ρ fun z => bindS (partAt xs z) ρ fun r => .nx (ρ.set i (some (fldSet j (.lst (xs.set r.1 (.tup [kd, r.2]))) d)))
theorem Wd.slots {Pf : Nat → Addr → Prop} (e : Ext G H G' H') (h2 : ∀ i a, Pf i a → G a = none ∧ H0 a = none ∧ H a ≠ none) (h3 : ∀ i d, ρ[i]? = some (some d) → ∃ v m, σ[i]? = some (some v) ∧ Γ[i]? = some m ∧ Ow J.K J.ca G H m d v (Pf i)) :
    (∀ i a, Pf i a → G' a = none ∧ H0 a = none ∧ H' a ≠ none) ∧ ∀ i d, ρ[i]? = some (some d) → ∃ v m, σ[i]? = some (some v) ∧ Γ[i]? = some m ∧ Ow J.K J.ca G' H' m d v (Pf i) := by
  refine ⟨fun i a q => ?_, fun i d q => ?_⟩
  · obtain ⟨a1, a2, a3⟩ := h2 i a q
    exact ⟨by rw [e.base a a3]; exact a1, a2, e.h.nn a3⟩
  · obtain ⟨v, m, s1, s2, s3⟩ := h3 i d q
    refine ⟨v, m, s1, s2, s3.carry e.g fun b hb => ?_⟩
    obtain ⟨a1, a2, a3⟩ := h2 i b hb
    exact ⟨e.h.at a3, by rw [e.base b a3]; exact a1⟩
/-! ### self.f, self.g = self.h.pop() -/
def lastTwo (xs : List Dt) : Rs (Dt × Dt) := match xs[xs.length - 1]? with
  | some (.tup [a, b]) => .ok (a, b)
  | _ => .no
def fixTwo (f1 f2 : Str) (j1 j2 : Nat) (d : Dt) : Rs Unit := match d with
  | .ins _ ns _ => if fix f1 ns = some j1 ∧ fix f2 ns = some j2 ∧ ns.length < 100 then .ok () else .no
  | _ => .no
def popTo (C f1 f2 g : Str) (i j1 j2 k : Nat) (ρ : Ev) : Ot := bindS (varE i ρ) ρ fun d => bindS (fldLst C g k d) ρ fun xs => bindS (lastTwo xs) ρ fun r => bindS (fixTwo f1 f2 j1 j2 d) ρ fun _ => .nx (ρ.set i (some (fldSet j2 r.2 (fldSet j1 r.1 (fldSet k (.lst xs.dropLast) d)))))
end
end Pm
namespace Pm
open PySem PySem.Spec PyProof.Rows L2
open Classical
section
variable {J : Jc} {Γ Γ' Γf : List Mode} {m m1 m2 : Mode} {ms : List Mode} {Fe Fa Fi : Ev → Rs Dt} {Fp Fq : Ev → Rs (Dt × (Dt → Ev))} {te ta ti : TE} {G0 H0 G H G' H' : Hp} {ρ : Ev} {σ : L2.St}
/-! ### f(..).append(e): a list that nobody keeps -/
def appNew (Fe Fa : Ev → Rs Dt) (ρ : Ev) : Ot := bindS (Fe ρ) ρ fun d => bindS (lstOf d) ρ fun ds => bindS (Fa ρ) ρ fun _ => if lenSz ds.length = true then .nx ρ else .no
/-! ### P.pop() -/
def pop0D (ds : List Dt) : Rs (Dt × List Dt) := match ds[ds.length - 1]? with
  | some y => .ok (y, ds.dropLast)
  | none => .no
def pop0S (Fp : Ev → Rs (Dt × (Dt → Ev))) (ρ : Ev) : Ot := bindS (Fp ρ) ρ fun x => bindS (lstOf x.1) ρ fun ds => bindS (pop0D ds) ρ fun y => .nx (x.2 (.lst y.2))
def asgPop0 (i : Nat) (Fp : Ev → Rs (Dt × (Dt → Ev))) (ρ : Ev) : Ot := bindS (Fp ρ) ρ fun x => bindS (lstOf x.1) ρ fun ds => bindS (pop0D ds) ρ fun y => .nx ((x.2 (.lst y.2)).set i (some y.1))
/-! ### r.append(P.pop(e)) -/
def appPopP (r : Nat) (Fq : Ev → Rs (Dt × (Dt → Ev))) (Fe : Ev → Rs Dt) (ρ : Ev) : Ot := bindS (varE r ρ) ρ fun d0 => bindS (lstOf d0) ρ fun _ => bindS (Fq ρ) ρ fun x => bindS (lstOf x.1) ρ fun xs => bindS (Fe ρ) ρ fun k => bindS (popD xs k) ρ fun y =>
  bindS (varE r (x.2 (.lst y.2))) ρ fun d1 => bindS (lstOf d1) ρ fun ds => if lenSz ds.length = true then .nx ((x.2 (.lst y.2)).set r (some (.lst (ds ++ [y.1])))) else .no
end
/-! ### try in a def to which an object is lent: its slot stays pinned -/
section
variable {J : Jc} {Γ Γ' Γx : List Mode} {G0 H0 Gs G H G' H' : Hp} {ρ : Ev} {σ : L2.St} {W : WX} {Fb : Ev → Ot} {Fh : Str → Ev → Ot} {tb : WX → TS} {th : Addr → Str → TS} {D : Ends}
end
end Pm
/-! ### sorted of pairs (tuple of ints, int) -/
namespace SrtO
open PySem PyProof.Rows Srt L2
abbrev keyJ (p : List Int × Int) : List Int × List Int := (p.1, [p.2])
def IsNestJ (h : Heap) (v : Value) (k : List Int × Int) : Prop := ∃ a o fa t n fi, v = Value.ref a ∧ h.get? a = some o ∧ o.cls = .type "tuple" ∧ o.data = .seq #[.ref fa, .int k.2 t] n ∧ IsTup h fa fi ∧ IntsAre fi.toList k.1
theorem IsNestJ.keeps {h h' : Heap} {v : Value} {k : List Int × Int} (p : IsNestJ h v k) (kp : ∀ b o, h.get? b = some o → o.cls = .type "tuple" → h'.get? b = some o) : IsNestJ h' v k := by
  obtain ⟨a, o, fa, t, n, fi, e, ho, hc, hd, ⟨o1, h1, c1, d1⟩, i1⟩ := p
  exact ⟨a, o, fa, t, n, fi, e, kp _ _ ho hc, hc, hd, ⟨o1, kp _ _ h1 c1, c1, d1⟩, i1⟩
section
variable {prog : Program} {w : World} {A : Around} {E : Value → Shared → Prop} {s : Shared}
end
end SrtO
namespace L2
open PySem PySem.Spec PyProof.Rows
end L2
namespace Pm
open PySem PySem.Spec PyProof.Rows L2
open Classical
abbrev Jst := List Int × Int
def leJ (p q : Jst) : Bool := leN (SrtO.keyJ p) (SrtO.keyJ q)
def sortJ (ps : List Jst) : List Jst := ps.mergeSort leJ
def jsD (p : Jst) : Dt := .tup [.tup (p.1.map .int), .int p.2]
def jstsOf : List Dt → Option (List Jst)
  | [] => some []
  | .tup [.tup a, .int z] :: ds => (match intsOf a with
    | some ns => (jstsOf ds).map ((ns, z) :: ·)
    | _ => none)
  | _ => none
def sortJD (d : Dt) : Rs Dt := match d with
  | .lst ds => (match jstsOf ds with
    | some ps => .ok (.lst ((sortJ ps).map jsD))
    | none => .no)
  | _ => .no
def sortJE := op1E sortJD
section
variable {J : Jc} {Γ : List Mode} {F Fa Fb : Ev → Rs Dt} {te ta tb : TE} {G0 H0 G H G' H' : Hp} {ρ : Ev} {σ : L2.St}
end
end Pm
/-! ### sorted of any data of one shape (lists, tuples) -/
namespace L2
open PySem PySem.Spec PyProof.Rows
end L2
namespace Pm
open PySem PySem.Spec PyProof.Rows L2
/-- a list or a tuple that is laid whole -/
def seqB (d : Dt) : Bool := (match d with
  | .lst _ => true
  | .tup _ => true
  | _ => false) && ((pyD d).canLay0 && decide ((pyD d).depth ≤ 20))
def tup1B : PyData → Bool
  | .tuple (_ :: _) => true
  | _ => false
def notTB : PyData → Bool
  | .none => false
  | .tuple _ => false
  | _ => true
def sortOk (ds : List Dt) : Bool := ds.all seqB && ((ds.all fun a => ds.all fun b => PySem.W.alike (pyD a) (pyD b)) && ((ds.all fun a => tup1B (pyD a)) || ds.all fun a => notTB (pyD a)))
def sortDs (ds : List Dt) : List Dt := ds.mergeSort (PySem.W.dataLe false pyD)
def sortDD (d : Dt) : Rs Dt := match d with
  | .lst ds => if sortOk ds = true then .ok (.lst (sortDs ds)) else .no
  | _ => .no
def sortDE := op1E sortDD
section
variable {J : Jc} {Γ : List Mode} {F Fa Fb : Ev → Rs Dt} {te ta tb : TE} {G0 H0 G H G' H' : Hp} {ρ : Ev} {σ : L2.St}
end
end Pm
/-! ### calls that look at owned lists of lists, flat parts in what they tell -/
namespace Pm
open PySem PySem.Spec PyProof.Rows L2
open Classical
mutual
def flatE : Dt → Bool
  | .non => true
  | .bl _ => true
  | .int _ => true
  | .str _ => true
  | .tup ds => flatEs ds
  | .ins _ _ ds => flatEs ds
  | _ => false
def flatEs : List Dt → Bool
  | [] => true
  | d :: ds => flatE d && flatEs ds
end
mutual
theorem Rp.flatE {K : PySem.W.Frag} {ca : Str → Addr} {G2 G1 : Hp} (hg : ∀ b o, G2 b = some o → (∀ vs, o ≠ .lst vs) → G1 b = some o) : ∀ {d : Dt} {v : V}, Pm.flatE d = true → Rp K ca G2 d v → Rp K ca G1 d v
  | .non, _, _, h => by cases h; exact .non
  | .bl b, _, _, h => by cases h; exact .bl b
  | .int i, _, _, h => by cases h; exact .int i
  | .str x, _, _, h => by cases h; exact .str x
  | .tup ds, _, c, h => by
    cases h with
    | tup h1 h2 => exact .tup (hg _ _ h1 fun vs z => by cases z) (Rps.flatE hg (by simpa only [Pm.flatE] using c) h2)
  | .ins _ _ ds, _, c, h => by
    cases h with
    | ins h1 h2 h3 => exact .ins (hg _ _ h1 fun vs z => by cases z) h2 (Rps.flatE hg (by simpa only [Pm.flatE] using c) h3)
  | .lst _, _, c, _ => by simp [Pm.flatE] at c
  | .scr _, _, c, _ => by simp [Pm.flatE] at c
  | .ktp _, _, c, _ => by simp [Pm.flatE] at c
  | .dic _ _, _, c, _ => by simp [Pm.flatE] at c
  | .dit _ _, _, c, _ => by simp [Pm.flatE] at c
theorem Rps.flatE {K : PySem.W.Frag} {ca : Str → Addr} {G2 G1 : Hp} (hg : ∀ b o, G2 b = some o → (∀ vs, o ≠ .lst vs) → G1 b = some o) : ∀ {ds : List Dt} {vs : List V}, Pm.flatEs ds = true → Rps K ca G2 ds vs → Rps K ca G1 ds vs
  | [], _, _, h => by cases h; exact .nil
  | d :: ds, _, c, h => by
    have c : Pm.flatE d = true ∧ Pm.flatEs ds = true := by simpa only [Pm.flatEs, Bool.and_eq_true] using c
    cases h with
    | cons h1 h2 => exact .cons (Rp.flatE hg c.1 h1) (Rps.flatE hg c.2 h2)
end
mutual
def flatO : Mode → Dt → Bool
  | .F, d => flatE d
  | .L _, .non => true
  | .T _, .non => true
  | .I _, .non => true
  | .L m, .lst ds => flatOA m ds
  | .T ms, .tup ds => flatOs ms ds
  | .T ms, .lst ds => flatOs ms ds
  | .K m, .dic _ ds => flatOA m ds
  | .K m, .dit _ ds => flatOA m ds
  | .I ms, .ins _ _ ds => flatOs ms ds
  | _, _ => false
def flatOA (m : Mode) : List Dt → Bool
  | [] => true
  | d :: ds => flatO m d && flatOA m ds
def flatOs : List Mode → List Dt → Bool
  | [], [] => true
  | m :: ms, d :: ds => flatO m d && flatOs ms ds
  | _, _ => false
end
mutual
theorem Ow.flatO {K : PySem.W.Frag} {ca : Str → Addr} {G2 G1 H2 : Hp} (hg : ∀ b o, G2 b = some o → (∀ vs, o ≠ .lst vs) → G1 b = some o) : ∀ {d : Dt} {m : Mode} {v : V} {P : Addr → Prop}, Pm.flatO m d = true → (∀ b, P b → G1 b = none) → Ow K ca G2 H2 m d v P → Ow K ca G1 H2 m d v P
  | d, m, v, P, c, hp, h => by
    cases h with
    | F h => exact .F (Rp.flatE hg (by simpa only [Pm.flatO] using c) h)
    | NL => exact .NL
    | NT => exact .NT
    | NI => exact .NI
    | @L m a vs ds _ h1 h2 h3 h4 => exact .L h1 (hp _ h3) h3 (Ows.flatOA hg (by simpa only [Pm.flatO] using c) (fun b hb => hp b hb.1) h4)
    | @T ms a vs ds _ h1 h2 h3 h4 => exact .T h1 (hp _ h3) h3 (Ows.flatOs hg (by simpa only [Pm.flatO] using c) (fun b hb => hp b hb.1) h4)
    | @TL ms a vs ds _ h1 h2 h3 h4 => exact .TL h1 (hp _ h3) h3 (Ows.flatOs hg (by simpa only [Pm.flatO] using c) (fun b hb => hp b hb.1) h4)
    | @I ms C a dx ns vs ds _ h1 h2 h3 h4 h5 => exact .I h1 (hp _ h3) h3 h4 (Ows.flatOs hg (by simpa only [Pm.flatO] using c) (fun b hb => hp b hb.1) h5)
    | @K m a ks vs ds _ h1 h2 h3 h4 h5 => exact .K h1 (hp _ h3) h3 h4 (Ows.flatOA hg (by simpa only [Pm.flatO] using c) (fun b hb => hp b hb.1) h5)
    | @KT m a ks vs ds _ h1 h2 h3 h4 h5 => exact .KT h1 (hp _ h3) h3 h4 (Ows.flatOA hg (by simpa only [Pm.flatO] using c) (fun b hb => hp b hb.1) h5)
  termination_by d => sizeOf d
theorem Ows.flatOA {K : PySem.W.Frag} {ca : Str → Addr} {G2 G1 H2 : Hp} (hg : ∀ b o, G2 b = some o → (∀ vs, o ≠ .lst vs) → G1 b = some o) {m : Mode} : ∀ {ds : List Dt} {vs : List V} {P : Addr → Prop}, Pm.flatOA m ds = true → (∀ b, P b → G1 b = none) → Ows K ca G2 H2 (List.replicate ds.length m) ds vs P → Ows K ca G1 H2 (List.replicate ds.length m) ds vs P
  | [], vs, P, c, hp, h => by
    cases h
    exact .nil
  | d :: ds, vs, P, c, hp, h => by
    have c : Pm.flatO m d = true ∧ Pm.flatOA m ds = true := by simpa only [Pm.flatOA, Bool.and_eq_true] using c
    rw [List.length_cons, List.replicate_succ] at h ⊢
    cases h with
    | cons h1 h2 q1 q2 q3 => exact .cons (Ow.flatO hg c.1 (fun b hb => hp b (q1 b hb)) h1) (Ows.flatOA hg c.2 (fun b hb => hp b (q2 b hb)) h2) q1 q2 q3
  termination_by ds => sizeOf ds
theorem Ows.flatOs {K : PySem.W.Frag} {ca : Str → Addr} {G2 G1 H2 : Hp} (hg : ∀ b o, G2 b = some o → (∀ vs, o ≠ .lst vs) → G1 b = some o) : ∀ {ds : List Dt} {ms : List Mode} {vs : List V} {P : Addr → Prop}, Pm.flatOs ms ds = true → (∀ b, P b → G1 b = none) → Ows K ca G2 H2 ms ds vs P → Ows K ca G1 H2 ms ds vs P
  | [], ms, vs, P, c, hp, h => by
    cases h
    exact .nil
  | d :: ds, ms, vs, P, c, hp, h => by
    cases h with
    | @cons m ms _ _ _ _ _ _ _ h1 h2 q1 q2 q3 =>
      have c : Pm.flatO m d = true ∧ Pm.flatOs ms ds = true := by simpa only [Pm.flatOs, Bool.and_eq_true] using c
      exact .cons (Ow.flatO hg c.1 (fun b hb => hp b (q1 b hb)) h1) (Ows.flatOs hg c.2 (fun b hb => hp b (q2 b hb)) h2) q1 q2 q3
  termination_by ds => sizeOf ds
end
/-- lists alone -/
def onlyL : Mode → Bool
  | .F => true
  | .L m => onlyL m
  | _ => false
mutual
theorem Ow.nodes {K : PySem.W.Frag} {ca : Str → Addr} {G H : Hp} : ∀ {d : Dt} {m : Mode} {v : V} {P : Addr → Prop}, onlyL m = true → Ow K ca G H m d v P → ∃ P0 : Addr → Prop, (∀ b, P0 b → P b ∧ ∃ vs, H b = some (.lst vs)) ∧ Ow K ca G H m d v P0
  | d, m, v, P, c, h => by
    cases h with
    | F h => exact ⟨Pno, fun _ z => z.elim, .F h⟩
    | NL => exact ⟨Pno, fun _ z => z.elim, .NL⟩
    | NT => cases c
    | NI => cases c
    | @L m a vs ds _ h1 h2 h3 h4 =>
      obtain ⟨P1, k1, k2⟩ := Ows.nodes (by simpa only [onlyL] using c) h4
      refine ⟨fun b => b = a ∨ P1 b, fun b hb => ?_, .L h1 h2 (.inl rfl) (k2.weaken fun b hb => ⟨.inr hb, (k1 b hb).1.2⟩)⟩
      rcases hb with hb | hb
      · rw [hb]; exact ⟨h3, vs, h1⟩
      · exact ⟨(k1 b hb).1.1, (k1 b hb).2⟩
    | T => cases c
    | TL => cases c
    | I => cases c
    | K => cases c
    | KT => cases c
  termination_by d => sizeOf d
theorem Ows.nodes {K : PySem.W.Frag} {ca : Str → Addr} {G H : Hp} {m : Mode} : ∀ {ds : List Dt} {vs : List V} {P : Addr → Prop}, onlyL m = true → Ows K ca G H (List.replicate ds.length m) ds vs P → ∃ P0 : Addr → Prop, (∀ b, P0 b → P b ∧ ∃ vs, H b = some (.lst vs)) ∧ Ows K ca G H (List.replicate ds.length m) ds vs P0
  | [], vs, P, c, h => by
    cases h
    exact ⟨Pno, fun _ z => z.elim, .nil⟩
  | d :: ds, vs, P, c, h => by
    rw [List.length_cons, List.replicate_succ] at h ⊢
    cases h with
    | cons h1 h2 q1 q2 q3 =>
      obtain ⟨P1, k1, k2⟩ := Ow.nodes c h1
      obtain ⟨P2, l1, l2⟩ := Ows.nodes c h2
      refine ⟨fun b => P1 b ∨ P2 b, fun b hb => ?_, .cons k2 l2 (fun _ => .inl) (fun _ => .inr) fun b x y => q3 b (k1 b x).1 (l1 b y).1⟩
      rcases hb with hb | hb
      · exact ⟨q1 b (k1 b hb).1, (k1 b hb).2⟩
      · exact ⟨q2 b (l1 b hb).1, (l1 b hb).2⟩
  termination_by ds => sizeOf ds
end
section
variable {J : Jc} {Γ : List Mode} {m m1 : Mode} {F : Ev → Rs Dt} {Fs : List (Ev → Rs Dt)} {te : TE} {tr : TA} {G0 H0 G H G' H' : Hp} {ρ : Ev} {σ : L2.St}
def flatRO (m : Mode) (r : Rs Dt) : Rs Dt := r >>= fun d => if flatO m d = true then .ok d else .no
def callSO (m : Mode) (Fn : List Dt → Rs Dt) (Fs : List (Ev → Rs Dt)) (ρ : Ev) : Rs Dt := argsE Fs ρ >>= fun ds => flatRO m (Fn ds)
variable {Fn : List Dt → Rs Dt} {np : Nat}
end
end Pm
/-! ### constructors to which owned things are lent -/
namespace Pm
open PySem PySem.Spec PyProof.Rows L2
open Classical
section
variable {P : Program} {w : World} {K : PySem.W.Frag} {ca : Str → Addr} {mg : Str → Option Value} {base : Heap} {x qual : Str} {params : Arguments} {body : List Stmt} {scope : Scope} {f : Addr} {fd : FuncData} {N ps : List Str} {k : Nat} {ms : List Mode}
end
/-! ### its call: x = C(.., h[k], ..), all parts of the slot h lent -/
inductive ArgsH (K : PySem.W.Frag) (ca : Str → Addr) (G : Hp) (Ds : List Dt) (us : List V) : List (Option Nat) → List Dt → List V → Prop
  | nil : ArgsH K ca G Ds us [] [] []
  | fr {ks : List (Option Nat)} {d : Dt} {ds : List Dt} {v : V} {vs : List V} : Rp K ca G d v → ArgsH K ca G Ds us ks ds vs → ArgsH K ca G Ds us (none :: ks) (d :: ds) (v :: vs)
  | pt {ks : List (Option Nat)} {k : Nat} {d : Dt} {ds : List Dt} {v : V} {vs : List V} : Ds[k]? = some d → us[k]? = some v → ArgsH K ca G Ds us ks ds vs → ArgsH K ca G Ds us (some k :: ks) (d :: ds) (v :: vs)
theorem ArgsH.len {K : PySem.W.Frag} {ca : Str → Addr} {G : Hp} {Ds : List Dt} {us : List V} {ks : List (Option Nat)} {ds : List Dt} {vs : List V} (h : ArgsH K ca G Ds us ks ds vs) : ds.length = vs.length ∧ ks.length = ds.length := by
  induction h with
  | nil => exact ⟨rfl, rfl⟩
  | fr _ _ ih => exact ⟨by simp [ih.1], by simp [ih.2]⟩
  | pt _ _ _ ih => exact ⟨by simp [ih.1], by simp [ih.2]⟩
theorem ArgsH.mono {K : PySem.W.Frag} {ca : Str → Addr} {G G' : Hp} {Ds : List Dt} {us : List V} {ks : List (Option Nat)} {ds : List Dt} {vs : List V} (e : Same G G') (h : ArgsH K ca G Ds us ks ds vs) : ArgsH K ca G' Ds us ks ds vs := by
  induction h with
  | nil => exact .nil
  | fr r _ ih => exact .fr (r.mono e) ih
  | pt a b _ ih => exact .pt a b ih
theorem ArgsH.at {K : PySem.W.Frag} {ca : Str → Addr} {G : Hp} {Ds : List Dt} {us : List V} {ks : List (Option Nat)} {ds : List Dt} {vs : List V} (h : ArgsH K ca G Ds us ks ds vs) : ∀ {i : Nat} {d : Dt}, ds[i]? = some d → ∃ v, vs[i]? = some v ∧ ((ks[i]? = some none ∧ Rp K ca G d v) ∨ ∃ k, ks[i]? = some (some k) ∧ Ds[k]? = some d ∧ us[k]? = some v) := by
  induction h with
  | nil => intro i d e; simp at e
  | @fr ks d0 ds v vs r _ ih =>
    intro i d e
    cases i with
    | zero =>
      cases (show some d0 = some d from e)
      exact ⟨v, rfl, .inl ⟨rfl, r⟩⟩
    | succ i => simpa using ih (i := i) (by simpa using e)
  | @pt ks k d0 ds v vs a b _ ih =>
    intro i d e
    cases i with
    | zero =>
      cases (show some d0 = some d from e)
      exact ⟨v, rfl, .inr ⟨k, rfl, a, b⟩⟩
    | succ i => simpa using ih (i := i) (by simpa using e)
section
variable {J : Jc} {Γ : List Mode} {h : Nat} {ks : List (Option Nat)} {Fe : Ev → Rs Dt} {Fs : Ev → Rs (List Dt)} {te : TE} {tr : TA}
end
section
variable {J : Jc} {Γ : List Mode} {h i : Nat} {ks : List (Option Nat)} {Fs : Ev → Rs (List Dt)} {tr : TA} {MS ns : List Mode} {np : Nat} {Fn : List Dt → Rs Dt}
end
end Pm
/-! ### list + list where one of them is looked at (the script) -/
namespace Pm
open PySem PySem.Spec PyProof.Rows L2
def catQD (a b : Dt) : Rs Dt := match lisD a, lisD b with
  | some x, some y => if lenSz (x.length + y.length) = true then .ok (.lst (x ++ y)) else .no
  | _, _ => .no
def catQE := op2E catQD
section
variable {J : Jc} {Γ : List Mode} {Fa Fb : Ev → Rs Dt} {ta tb : TE}
theorem v_catQ {ρ : Ev} : catQE Fa Fb ρ = (Fa ρ >>= fun a => Fb ρ >>= fun b => catQD a b) := rfl
theorem x_catQ {xs ys : List Dt} (h : lenSz (xs.length + ys.length) = true) : catQD (.scr xs) (.lst ys) = .ok (.lst (xs ++ ys)) := if_pos h
end
/-! ### parts of an owned list of unlike parts -/
section
variable {J : Jc} {Γ : List Mode} {m : Mode} {ms : List Mode} {te : TE} {G0 H0 G H G' H' : Hp} {ρ : Ev} {σ : L2.St} {d : Dt} {v : V} {put : Dt → Ev} {Fp : Ev → Rs (Dt × (Dt → Ev))}
def tixLP (j : Nat) (Fp : Ev → Rs (Dt × (Dt → Ev))) (ρ : Ev) : Rs (Dt × (Dt → Ev)) := Fp ρ >>= fun x => match x.1 with
  | .lst ds => (match ds[j]? with
    | some e => .ok (e, fun y => x.2 (.lst (ds.set j y)))
    | none => .no)
  | _ => .no
def tixLR (j : Nat) (x : Dt × (Dt → Ev)) : Rs (Dt × (Dt → Ev)) := match x.1 with
  | .lst ds => (match ds[j]? with
    | some e => .ok (e, fun y => x.2 (.lst (ds.set j y)))
    | none => .no)
  | _ => .no
theorem v_tixL {j : Nat} : tixLP j Fp ρ = (Fp ρ >>= tixLR j) := rfl
theorem x_tixL30 {a b c : Dt} : tixLR 0 (.lst [a, b, c], put) = .ok (a, fun y => put (.lst [y, b, c])) := rfl
theorem x_tixL31 {a b c : Dt} : tixLR 1 (.lst [a, b, c], put) = .ok (b, fun y => put (.lst [a, y, c])) := rfl
theorem x_tixL32 {a b c : Dt} : tixLR 2 (.lst [a, b, c], put) = .ok (c, fun y => put (.lst [a, b, y])) := rfl
theorem x_tixL20 {a b : Dt} : tixLR 0 (.lst [a, b], put) = .ok (a, fun y => put (.lst [y, b])) := rfl
theorem x_tixL21 {a b : Dt} : tixLR 1 (.lst [a, b], put) = .ok (b, fun y => put (.lst [a, y])) := rfl
end
/-! ### for k, x in P beside pinned slots -/
open Classical
section
variable {J : Jc} {Γ Γ' Γ1 Γ2 Γb : List Mode} {em : EM} {m M : Mode} {ms : List Mode} {F Fe Fa Fb Fd Fk Fi : Ev → Rs Dt} {Fs : List (Ev → Rs Dt)} {te ta tb ti : TE} {tr : TA} {G0 H0 Gs G H G' H' : Hp} {ρ : Ev} {σ : L2.St} {vs : List Nat}
  {ts t1 t2 : TS} {D : Ends} {d : Dt} {v : V} {put : Dt → Ev} {Fp : Ev → Rs (Dt × (Dt → Ev))}
end
end Pm
/-! ### a name for a part of an owned list: kind, told = groups[at], told changed -/
namespace Pm
open PySem PySem.Spec PyProof.Rows L2
open Classical
section
variable {J : Jc} {Γ Γf : List Mode} {G0 H0 G H G' H' : Hp} {ρ : Ev} {σ : L2.St} {g a tl kd pl k : Nat}
/-- the slot tl names the second part of the item k of the list in the slot g -/
def Al (σ : L2.St) (H : Hp) (g tl k : Nat) : Prop := ∃ (L : Addr) (us : List V) (c : Addr) (vk u : V), σ[g]? = some (some (.ref L)) ∧ H L = some (.lst us) ∧ us[k]? = some (.ref c) ∧ H c = some (.tup [vk, u]) ∧ σ[tl]? = some (some u)
theorem Al.mono (a : Al σ H g tl k) (e : Same H H') : Al σ H' g tl k := by
  obtain ⟨L, us, c, vk, u, h1, h2, h3, h4, h5⟩ := a
  exact ⟨L, us, c, vk, u, h1, e _ _ h2, h3, e _ _ h4, h5⟩
theorem Al.set {x : Option V} (a : Al σ H g tl k) (h1 : pl ≠ g) (h2 : pl ≠ tl) : Al (σ.set pl x) H g tl k := by
  obtain ⟨L, us, c, vk, u, q1, q2, q3, q4, q5⟩ := a
  exact ⟨L, us, c, vk, u, by rw [List.getElem?_set_ne h1]; exact q1, q2, q3, q4, by rw [List.getElem?_set_ne h2]; exact q5⟩
theorem Wd.hid {i : Nat} {v : V} (w : Wd J G0 H0 Γ ρ σ G H) (fr : J.free i) : Wd J G0 H0 Γ (ρ.set i none) (σ.set i (some v)) G H := by
  obtain ⟨Pf, h1, h2, h3⟩ := w.env
  refine ⟨w.x, by rw [List.length_set]; exact w.lg, by rw [List.length_set, List.length_set]; exact w.lr, ⟨Pf, h1, h2, fun j d q => ?_⟩, fun j u h => ?_, w.xk⟩
  · by_cases e : j = i
    · subst e
      by_cases hl : j < ρ.length
      · rw [List.getElem?_set_self hl] at q; cases q
      · rw [List.getElem?_eq_none (by rw [List.length_set]; omega)] at q; cases q
    · rw [List.getElem?_set_ne (Ne.symm e)] at q
      obtain ⟨v, m, s1, s2, s3⟩ := h3 j d q
      exact ⟨v, m, by rw [List.getElem?_set_ne (Ne.symm e)]; exact s1, s2, s3⟩
  · rw [List.getElem?_set_ne (Ne.symm (pinB_ne fr h))]
    exact w.pn j u h
end
section
variable {J : Jc} {Γ Γf : List Mode} {F1 F2 : Nat → Ev → Ot} {t1 t2 : TS} {Ft : Ev → Rs Bool} {tt : TT} {Fe : Ev → Rs Dt} {Fs : List (Ev → Rs Dt)} {te : TE} {tr : TA} {g a tl kd pl : Nat}
end
end Pm
/-! ### ways: one text walked in several ways; owned lists in a tuple -/
namespace Pm
open PySem PySem.Spec PyProof.Rows L2
open Classical
def noS (_ : Ev) : Ot := .no
def tOr3 (t0 t1 : TS) (t2 : Nat → TS) : TS := fun D σ H => t0 D σ H ∨ t1 D σ H ∨ ∃ n, t2 n D σ H
theorem pss_or3 {X : Cx} {b : List Stmt} {t0 t1 : TS} {t2 : Nat → TS} (h0 : PSs X b t0) (h1 : PSs X b t1) (h2 : ∀ n, PSs X b (t2 n)) : PSs X b (tOr3 t0 t1 t2) := ⟨fun pins s σ H D I h => by
  rcases h with h | h | ⟨n, h⟩
  · exact h0.run pins s σ H D I h
  · exact h1.run pins s σ H D I h
  · exact (h2 n).run pins s σ H D I h⟩
def lenOf (ρ : Ev) (p : Nat) : Nat := match ρ[p]? with
  | some (some (.lst ds)) => ds.length
  | _ => 0
/-- by the number in the slot w, and how many there are in the slot p -/
def case3 (w p : Nat) (F0 F1 : Ev → Ot) (F2 : Nat → Ev → Ot) (ρ : Ev) : Ot := match ρ[w]? with
  | some (some (.int i)) => if i = 0 then F0 ρ else if i = 1 ∨ lenOf ρ p = 0 then F1 ρ else F2 (lenOf ρ p) ρ
  | _ => .no
section
variable {J : Jc} {Γ Γ' : List Mode} {m : Mode} {F : Ev → Rs Dt} {te : TE} {G0 H0 G H G' H' : Hp} {ρ : Ev} {σ : L2.St}
def tNever : TS := fun _ _ _ => False
theorem ps_never {X : Cx} {st : Stmt} : PS X st tNever := ⟨fun pins s σ H D I h => h.elim⟩
theorem pss_never {X : Cx} {b : List Stmt} : PSs X b tNever := ⟨fun pins s σ H D I h => h.elim⟩
theorem ss_no : SemS J Γ Γ' noS tNever := fun {G0 H0 G H ρ σ D} w p => by cases p
theorem ss_case3 {w p : Nat} {F0 F1 : Ev → Ot} {F2 : Nat → Ev → Ot} {t0 t1 : TS} {t2 : Nat → TS} (h0 : SemS J Γ Γ' F0 t0) (h1 : SemS J Γ Γ' F1 t1) (h2 : ∀ n, SemS J Γ Γ' (F2 n) (t2 n)) : SemS J Γ Γ' (case3 w p F0 F1 F2) (tOr3 t0 t1 t2) := fun {G0 H0 G H ρ σ D} wd q => by
  unfold case3 at q
  split at q
  case h_2 => cases q
  rename_i i e
  by_cases c : i = 0
  · rw [if_pos c] at q
    exact .inl (h0 wd q)
  rw [if_neg c] at q
  by_cases d : i = 1 ∨ lenOf ρ p = 0
  · rw [if_pos d] at q
    exact .inr (.inl (h1 wd q))
  · rw [if_neg d] at q
    exact .inr (.inr ⟨_, h2 _ wd q⟩)
/-- tuple(a new list that owns its n items) -/
def tupND (n : Nat) : Dt → Rs Dt
  | .lst ds => if ds.length = n then .ok (.tup ds) else .no
  | _ => .no
def tupNE (n : Nat) := op1E (tupND n)
theorem se_tupN {n : Nat} (h : SemE J Γ (.o (.L m)) F te) : SemE J Γ (.o (.T (List.replicate n m))) (tupNE n F) (tCB (rTupleOf J.K) (tCons te tNil)) := fun {G0 H0 G H ρ σ Q} w p => by
  refine h w (p.bind.imp (fun d _ q v G1 H1 P1 e1 f1 o1 => ?_) fun _ q => q)
  have w1 := w.ext e1
  cases o1 with
  | NL => cases q
  | @L _ a vs ds _ h1 h2 h3 h4 =>
    have q : Rs.Post _ _ (if ds.length = n then Rs.ok (Dt.tup ds) else Rs.no) := q
    by_cases c : ds.length = n
    case neg => rw [if_neg c] at q; cases q
    rw [if_pos c] at q
    subst c
    refine ⟨a, vs, rfl, .inl ⟨.of h1, fun l hl => ?_⟩⟩
    have nl : ∀ b, P1 b → b ≠ l := fun b hb z => (f1 b hb).2.2 (by rw [z]; exact hl)
    have gl : G1 l = none := w1.gh.free hl
    refine q.of_ok (.ref l) G1 _ (fun b => b = l ∨ (P1 b ∧ b ≠ a)) (e1.trans (Ext.heap w1.gh (Same.new hl))) (fun b hb => ?_) (.T upd_same gl (.inl rfl) ((h4.carry (Same.refl _) fun b hb => ⟨upd_ne (nl b hb.1), (f1 b hb.1).1⟩).weaken fun b hb => ⟨.inr hb, nl b hb.1⟩))
    rcases hb with rfl | hb
    · exact ⟨gl, e1.h.free hl, by rw [upd_same]; exact fun z => by cases z⟩
    · exact ⟨(f1 b hb.1).1, (f1 b hb.1).2.1, by rw [upd_ne (nl b hb.1)]; exact (f1 b hb.1).2.2⟩
end
/-- a list, or a tuple whose first item is one -/
def LsT (G : Hp) (o : HO) : Prop := (∃ vs, o = .lst vs) ∨ ∃ l us vs, o = .tup (.ref l :: us) ∧ G l = some (.lst vs)
theorem flat_lst {K : PySem.W.Frag} {ca : Str → Addr} {G : Hp} {d : Dt} {l : Addr} {vs : List V} (c : flatE d = true) (h : Rp K ca G d (.ref l)) (hl : G l = some (.lst vs)) : False := by
  cases h with
  | tup h1 h2 => rw [hl] at h1; cases h1
  | ins h1 h2 h3 => rw [hl] at h1; cases h1
  | lst => simp [flatE] at c
  | scr => simp [flatE] at c
  | ktp => simp [flatE] at c
  | dic => simp [flatE] at c
  | dicZ => simp [flatE] at c
  | dit => simp [flatE] at c
mutual
theorem Rp.flatE2 {K : PySem.W.Frag} {ca : Str → Addr} {G2 G1 : Hp} (hg : ∀ b o, G2 b = some o → G1 b = some o ∨ LsT G2 o) : ∀ {d : Dt} {v : V}, Pm.flatE d = true → Rp K ca G2 d v → Rp K ca G1 d v
  | .non, _, _, h => by cases h; exact .non
  | .bl b, _, _, h => by cases h; exact .bl b
  | .int i, _, _, h => by cases h; exact .int i
  | .str x, _, _, h => by cases h; exact .str x
  | .tup ds, _, c, h => by
    cases h with
    | tup h1 h2 =>
      have c : Pm.flatEs ds = true := by simpa only [Pm.flatE] using c
      rcases hg _ _ h1 with y | ⟨vs, y⟩ | ⟨l, us, vs, y, hl⟩
      · exact .tup y (Rps.flatE2 hg c h2)
      · cases y
      · cases y
        cases h2 with
        | @cons d0 ds0 _ _ h3 h4 =>
          have c : (Pm.flatE d0 && Pm.flatEs ds0) = true := by simpa only [Pm.flatEs] using c
          rw [Bool.and_eq_true] at c
          exact (flat_lst c.1 h3 hl).elim
  | .ins _ _ ds, _, c, h => by
    cases h with
    | ins h1 h2 h3 =>
      rcases hg _ _ h1 with y | ⟨vs, y⟩ | ⟨l, us, vs, y, hl⟩
      · exact .ins y h2 (Rps.flatE2 hg (by simpa only [Pm.flatE] using c) h3)
      · cases y
      · cases y
  | .lst _, _, c, _ => by simp [Pm.flatE] at c
  | .scr _, _, c, _ => by simp [Pm.flatE] at c
  | .ktp _, _, c, _ => by simp [Pm.flatE] at c
  | .dic _ _, _, c, _ => by simp [Pm.flatE] at c
  | .dit _ _, _, c, _ => by simp [Pm.flatE] at c
theorem Rps.flatE2 {K : PySem.W.Frag} {ca : Str → Addr} {G2 G1 : Hp} (hg : ∀ b o, G2 b = some o → G1 b = some o ∨ LsT G2 o) : ∀ {ds : List Dt} {vs : List V}, Pm.flatEs ds = true → Rps K ca G2 ds vs → Rps K ca G1 ds vs
  | [], _, _, h => by cases h; exact .nil
  | d :: ds, _, c, h => by
    have c : Pm.flatE d = true ∧ Pm.flatEs ds = true := by simpa only [Pm.flatEs, Bool.and_eq_true] using c
    cases h with
    | cons h1 h2 => exact .cons (Rp.flatE2 hg c.1 h1) (Rps.flatE2 hg c.2 h2)
end
mutual
theorem Ow.flatO2 {K : PySem.W.Frag} {ca : Str → Addr} {G2 G1 H2 : Hp} (hg : ∀ b o, G2 b = some o → G1 b = some o ∨ LsT G2 o) : ∀ {d : Dt} {m : Mode} {v : V} {P : Addr → Prop}, Pm.flatO m d = true → (∀ b, P b → G1 b = none) → Ow K ca G2 H2 m d v P → Ow K ca G1 H2 m d v P
  | d, m, v, P, c, hp, h => by
    cases h with
    | F h => exact .F (Rp.flatE2 hg (by simpa only [Pm.flatO] using c) h)
    | NL => exact .NL
    | NT => exact .NT
    | NI => exact .NI
    | @L m a vs ds _ h1 h2 h3 h4 => exact .L h1 (hp _ h3) h3 (Ows.flatOA2 hg (by simpa only [Pm.flatO] using c) (fun b hb => hp b hb.1) h4)
    | @T ms a vs ds _ h1 h2 h3 h4 => exact .T h1 (hp _ h3) h3 (Ows.flatOs2 hg (by simpa only [Pm.flatO] using c) (fun b hb => hp b hb.1) h4)
    | @TL ms a vs ds _ h1 h2 h3 h4 => exact .TL h1 (hp _ h3) h3 (Ows.flatOs2 hg (by simpa only [Pm.flatO] using c) (fun b hb => hp b hb.1) h4)
    | @I ms C a dx ns vs ds _ h1 h2 h3 h4 h5 => exact .I h1 (hp _ h3) h3 h4 (Ows.flatOs2 hg (by simpa only [Pm.flatO] using c) (fun b hb => hp b hb.1) h5)
    | @K m a ks vs ds _ h1 h2 h3 h4 h5 => exact .K h1 (hp _ h3) h3 h4 (Ows.flatOA2 hg (by simpa only [Pm.flatO] using c) (fun b hb => hp b hb.1) h5)
    | @KT m a ks vs ds _ h1 h2 h3 h4 h5 => exact .KT h1 (hp _ h3) h3 h4 (Ows.flatOA2 hg (by simpa only [Pm.flatO] using c) (fun b hb => hp b hb.1) h5)
  termination_by d => sizeOf d
theorem Ows.flatOA2 {K : PySem.W.Frag} {ca : Str → Addr} {G2 G1 H2 : Hp} (hg : ∀ b o, G2 b = some o → G1 b = some o ∨ LsT G2 o) {m : Mode} : ∀ {ds : List Dt} {vs : List V} {P : Addr → Prop}, Pm.flatOA m ds = true → (∀ b, P b → G1 b = none) → Ows K ca G2 H2 (List.replicate ds.length m) ds vs P → Ows K ca G1 H2 (List.replicate ds.length m) ds vs P
  | [], vs, P, c, hp, h => by
    cases h
    exact .nil
  | d :: ds, vs, P, c, hp, h => by
    have c : Pm.flatO m d = true ∧ Pm.flatOA m ds = true := by simpa only [Pm.flatOA, Bool.and_eq_true] using c
    rw [List.length_cons, List.replicate_succ] at h ⊢
    cases h with
    | cons h1 h2 q1 q2 q3 => exact .cons (Ow.flatO2 hg c.1 (fun b hb => hp b (q1 b hb)) h1) (Ows.flatOA2 hg c.2 (fun b hb => hp b (q2 b hb)) h2) q1 q2 q3
  termination_by ds => sizeOf ds
theorem Ows.flatOs2 {K : PySem.W.Frag} {ca : Str → Addr} {G2 G1 H2 : Hp} (hg : ∀ b o, G2 b = some o → G1 b = some o ∨ LsT G2 o) : ∀ {ds : List Dt} {ms : List Mode} {vs : List V} {P : Addr → Prop}, Pm.flatOs ms ds = true → (∀ b, P b → G1 b = none) → Ows K ca G2 H2 ms ds vs P → Ows K ca G1 H2 ms ds vs P
  | [], ms, vs, P, c, hp, h => by
    cases h
    exact .nil
  | d :: ds, ms, vs, P, c, hp, h => by
    cases h with
    | @cons m ms _ _ _ _ _ _ _ h1 h2 q1 q2 q3 =>
      have c : Pm.flatO m d = true ∧ Pm.flatOs ms ds = true := by simpa only [Pm.flatOs, Bool.and_eq_true] using c
      exact .cons (Ow.flatO2 hg c.1 (fun b hb => hp b (q1 b hb)) h1) (Ows.flatOs2 hg c.2 (fun b hb => hp b (q2 b hb)) h2) q1 q2 q3
  termination_by ds => sizeOf ds
end
theorem gx_cut2 {Gx G1 G2 H1 H2 : Hp} (Z : HO → Prop) (a1 : Same G1 Gx) (a3 : ∀ b o, Gx b = some o → G1 b = some o ∨ Z o) (e2 : Ext Gx H1 G2 H2) : ∃ G3, Ext G1 H1 G3 H2 ∧ (∀ b o, G2 b = some o → G3 b = some o ∨ Z o) ∧ ∀ b, G2 b = none → G3 b = none := by
  have g1 : Same G1 (fun b => if Gx b ≠ none ∧ G1 b = none then none else G2 b) := fun b u hb => by
    have nb : ¬ (Gx b ≠ none ∧ G1 b = none) := fun z => by rw [z.2] at hb; cases hb
    show (if Gx b ≠ none ∧ G1 b = none then none else G2 b) = some u
    rw [if_neg nb]
    exact e2.g b u (a1 b u hb)
  refine ⟨fun b => if Gx b ≠ none ∧ G1 b = none then none else G2 b, ⟨g1, e2.h, fun b u hb => ?_, fun b hb => ?_⟩, fun b o hb => ?_, fun b hb => ?_⟩
  · have hb : (if Gx b ≠ none ∧ G1 b = none then none else G2 b) = some u := hb
    by_cases z : Gx b ≠ none ∧ G1 b = none
    · rw [if_pos z] at hb; cases hb
    · rw [if_neg z] at hb; exact e2.gh b u hb
  · show (if Gx b ≠ none ∧ G1 b = none then none else G2 b) = G1 b
    have base := e2.base b hb
    by_cases z : Gx b ≠ none ∧ G1 b = none
    · rw [if_pos z, z.2]
    · rw [if_neg z, base]
      cases hg : G1 b with
      | some u => exact a1 b u hg
      | none =>
        cases hx : Gx b with
        | none => rfl
        | some u => exact absurd ⟨by rw [hx]; exact fun y => (by cases y), hg⟩ z
  · by_cases z : Gx b ≠ none ∧ G1 b = none
    · refine .inr ?_
      cases hx : Gx b with
      | none => exact absurd hx z.1
      | some u =>
        have y := e2.g b u hx
        rw [hb] at y
        cases y
        rcases a3 b o hx with y | y
        · rw [z.2] at y; cases y
        · exact y
    · refine .inl ?_
      show (if Gx b ≠ none ∧ G1 b = none then none else G2 b) = some o
      rw [if_neg z]
      exact hb
  · show (if Gx b ≠ none ∧ G1 b = none then none else G2 b) = none
    by_cases z : Gx b ≠ none ∧ G1 b = none
    · rw [if_pos z]
    · rw [if_neg z]; exact hb
def okO : Dt → Bool
  | .lst _ => true
  | .tup (.lst _ :: _) => true
  | _ => false
def NodQ (P0 : Addr → Prop) (H : Hp) (o : HO) : Prop := (∃ vs, o = .lst vs) ∨ ∃ l us vs, o = .tup (.ref l :: us) ∧ P0 l ∧ H l = some (.lst vs)
def NodM (M : Mode) : Prop := ∀ {K : PySem.W.Frag} {ca : Str → Addr} {G H : Hp} {d : Dt} {v : V} {P : Addr → Prop}, okO d = true → Ow K ca G H M d v P → ∃ P0 : Addr → Prop, (∀ b, P0 b → P b ∧ ∃ o, H b = some o ∧ NodQ P0 H o) ∧ Ow K ca G H M d v P0
theorem nod_L {M : Mode} (h : onlyL M = true) : NodM M := fun {K ca G H d v P} _ o => by
  obtain ⟨P0, k1, k2⟩ := o.nodes h
  refine ⟨P0, fun b hb => ?_, k2⟩
  obtain ⟨a, vs, e⟩ := k1 b hb
  exact ⟨a, _, e, .inl ⟨vs, rfl⟩⟩
theorem nod_T {n : Nat} : NodM (.T (List.replicate n (.L .F))) := fun {K ca G H d v P} c o => by
  cases o with
  | NT => cases c
  | @TL _ a vs ds _ h1 h2 h3 h4 =>
    have hl := h4.len.2
    rw [List.length_replicate] at hl
    subst hl
    obtain ⟨P1, k1, k2⟩ := Ows.nodes (m := .L .F) rfl h4
    refine ⟨fun b => b = a ∨ P1 b, fun b hb => ?_, .TL h1 h2 (.inl rfl) (k2.weaken fun b hb => ⟨.inr hb, (k1 b hb).1.2⟩)⟩
    rcases hb with rfl | hb
    · exact ⟨h3, _, h1, .inl ⟨_, rfl⟩⟩
    · obtain ⟨x, vs2, e⟩ := k1 b hb
      exact ⟨x.1, _, e, .inl ⟨vs2, rfl⟩⟩
  | @T _ a vs ds _ h1 h2 h3 h4 =>
    match ds, c, h4 with
    | .lst es :: ds, _, h4 =>
      have hl := h4.len.2
      rw [List.length_replicate] at hl
      subst hl
      obtain ⟨P1, k1, k2⟩ := Ows.nodes (m := .L .F) rfl h4
      have k3 := k2
      rw [List.length_cons, List.replicate_succ] at k3
      cases k3 with
      | @cons _ _ _ _ v0 us _ A B o1 o2 q1 q2 q3 =>
        cases o1 with
        | @L _ l zs _ _ g1 g2 g3 g4 =>
          refine ⟨fun b => b = a ∨ P1 b, fun b hb => ?_, .T h1 h2 (.inl rfl) (k2.weaken fun b hb => ⟨.inr hb, (k1 b hb).1.2⟩)⟩
          rcases hb with rfl | hb
          · exact ⟨h3, _, h1, .inr ⟨l, us, zs, rfl, .inr (q1 l g3), g1⟩⟩
          · obtain ⟨x, vs2, e⟩ := k1 b hb
            exact ⟨x.1, _, e, .inl ⟨vs2, rfl⟩⟩
def makeOE (i : Nat) (ns : List Mode) (Fn : List Dt → Rs Dt) (ρ : Ev) : Rs Dt := varE i ρ >>= fun d => if okO d = true then flatRO (.I ns) (Fn [d]) else .no
section
variable {J : Jc} {Γ : List Mode} {M : Mode} {ns : List Mode} {Fn : List Dt → Rs Dt}
/-- C(h), h an owned name looked at -/
theorem se_makeO {C : Str} {i : Nat} (hm : Γ[i]? = some M) (hM : NodM M) : SemE J Γ (.o (.I ns)) (makeOE i ns Fn) (tMakeS (J.ca C) (spI J.K J.ca C 2 ns Fn) (WE J.W) (tCons (tVar i) tNil)) := fun {G0 H0 G H ρ σ Q} w p => by
  obtain ⟨d, e, q⟩ := varE_post p.bind
  obtain ⟨v, m', P, s1, s2, s3, s4⟩ := w.get e
  rw [hm] at s2
  cases s2
  by_cases c : okO d = true
  case neg => rw [if_neg c] at q; cases q
  rw [if_pos c] at q
  refine ⟨v, s1, ?_⟩
  intro x dx hx hdx ne
  obtain ⟨P0, k1, k2⟩ := hM c s3
  have sx : Same G (fun b => if P0 b then H b else G b) := fun b u hb => by
    show (if P0 b then H b else G b) = some u
    by_cases z : P0 b
    · have := (s4 b (k1 b z).1).1
      rw [this] at hb; cases hb
    · rw [if_neg z]; exact hb
  have sh : Same (fun b => if P0 b then H b else G b) H := fun b u hb => by
    have hb : (if P0 b then H b else G b) = some u := hb
    by_cases z : P0 b
    · rw [if_pos z] at hb; exact hb
    · rw [if_neg z] at hb; exact w.gh b u hb
  have s5 : Same H (upd (upd H dx (.own x)) x (.ins (J.ca C) dx [])) := fun b o e => by
    rw [upd_ne (ne_of_none e hx), upd_ne (ne_of_none e hdx)]
    exact e
  refine ⟨rfl, H, (fun b => if P0 b then H b else G b), [d], x, dx, [v], rfl, s5, hx, upd_same, sh, .cons (k2.freeze sx fun b hb => if_pos hb) .nil, (Rs.Post.bind q).imp (fun r _ q G2 H2 P2 e2 f2 o2 => ⟨rfl, ?_⟩) fun c q dx H2 s => q H2 dx s⟩
  by_cases fl : flatO (.I ns) r = true
  case neg => rw [if_neg fl] at q; cases q
  rw [if_pos fl] at q
  obtain ⟨G3, ex, keep, sub⟩ := gx_cut2 (LsT G2) sx (fun b o hb => by
    have hb : (if P0 b then H b else G b) = some o := hb
    by_cases z : P0 b
    · rw [if_pos z] at hb
      obtain ⟨_, o', e', nq⟩ := k1 b z
      rw [hb] at e'
      cases e'
      refine .inr ?_
      rcases nq with nq | ⟨l, us, vs, y1, y2, y3⟩
      · exact .inl nq
      · exact .inr ⟨l, us, vs, y1, e2.g l _ (by show (if P0 l then H l else G l) = _; rw [if_pos y2]; exact y3)⟩
    · rw [if_neg z] at hb; exact .inl hb) e2
  exact q.of_ok (.ref x) G3 H2 P2 ex (fun b hb => ⟨sub b (f2 b hb).1, (f2 b hb).2.1, (f2 b hb).2.2⟩) (o2.flatO2 keep fl fun b hb => sub b (f2 b hb).1)
end
/-! ### for x in P, P an owned tuple of owned things, x changed in place -/
def tgetU : Dt → Option (List Dt)
  | .tup ds => some ds
  | _ => none
def forUL (j x : Nat) (Fb : Ev → Ot) : Nat → Nat → Ev → Ot
  | 0, _, ρ => .nx ρ
  | n + 1, i, ρ => match ρ[j]? with
    | some (some d) => match tgetU d with
      | some ds => match ds[i]? with
        | some e => match Fb ((ρ.set j none).set x (some e)) with
          | .nx ρ2 => (match ρ2[x]? with
            | some (some e') => forUL j x Fb n (i + 1) ((ρ2.set x none).set j (some (.tup (ds.set i e'))))
            | _ => .no)
          | .ct ρ2 => (match ρ2[x]? with
            | some (some e') => forUL j x Fb n (i + 1) ((ρ2.set x none).set j (some (.tup (ds.set i e'))))
            | _ => .no)
          | .bk ρ2 => (match ρ2[x]? with
            | some (some e') => .nx ((ρ2.set x none).set j (some (.tup (ds.set i e'))))
            | _ => .no)
          | .rt d => .rt d
          | _ => .no
        | none => .no
      | _ => .no
    | _ => .no
def forU (j x : Nat) (Fb : Ev → Ot) (ρ : Ev) : Ot := match ρ[j]? with
  | some (some d) => match tgetU d with
    | some ds => forUL j x Fb ds.length 0 ρ
    | _ => .no
  | _ => .no
section
variable {J : Jc} {Γ Γ' Γ1 Γ2 Γb : List Mode} {em : EM} {m M : Mode} {ms : List Mode} {F Fe Fa Fb Fd Fk Fi : Ev → Rs Dt} {Fs : List (Ev → Rs Dt)} {te ta tb ti : TE} {tr : TA} {G0 H0 Gs G H G' H' : Hp} {ρ : Ev} {σ : L2.St} {vs : List Nat}
  {ts t1 t2 : TS} {D : Ends} {d : Dt} {v : V} {put : Dt → Ev} {Fp : Ev → Rs (Dt × (Dt → Ev))}
theorem Ow.lensU {K : PySem.W.Frag} {ca : Str → Addr} {G H : Hp} {m : Mode} {n : Nat} {d : Dt} {v : V} {P : Addr → Prop} {ds : List Dt} {i : Nat} {e : Dt} (o : Ow K ca G H (.T (List.replicate n m)) d v P) (hd : tgetU d = some ds) (hi : ds[i]? = some e) :
    ∃ a us u Pk, H a = some (.tup us) ∧ us[i]? = some u ∧ ds.length = us.length ∧ P a ∧ ¬ Pk a ∧ v = .ref a ∧ Ow K ca G H m e u Pk ∧ (∀ b, Pk b → P b) ∧ ∀ G2 H2 d2 P2, Same G G2 → (∀ b, P b → ¬ Pk b → H2 b = H b ∧ G2 b = none) → Ow K ca G2 H2 m d2 u P2 → (∀ b, P2 b → Pk b ∨ ¬ P b) → Ow K ca G2 H2 (.T (List.replicate n m)) (.tup (ds.set i d2)) v (fun b => (P b ∧ ¬ Pk b) ∨ P2 b) := by
  cases o with
  | NT => cases hd
  | TL => cases hd
  | @T _ a us _ _ h1 h2 h3 h4 =>
    cases hd
    have hl := h4.len.2
    rw [List.length_replicate] at hl
    obtain ⟨u, Pk, q1, q2, q3, q4⟩ := h4.focus (k := i) (m := m) (by rw [List.getElem?_replicate, if_pos (by rw [hl]; exact (List.getElem?_eq_some_iff.mp hi).1)]) hi
    have na : ¬ Pk a := fun z => (q3 a z).2 rfl
    refine ⟨a, us, u, Pk, h1, q1, h4.len.1, h3, na, rfl, q2, fun b hb => (q3 b hb).1, fun G2 H2 d2 P2 sg c o2 c2 => ?_⟩
    have ca2 := c a h3 na
    have p2a : ∀ b, P2 b → b ≠ a := fun b hb z => by
      rcases c2 b hb with y | y
      · exact na (z ▸ y)
      · exact y (z ▸ h3)
    refine .T (by rw [ca2.1]; exact h1) ca2.2 (.inl ⟨h3, na⟩) ?_
    refine (q4 G2 H2 d2 P2 sg (fun b hb hn => c b hb.1 hn) o2 fun b hb => (c2 b hb).imp id fun z y => z y.1).weaken fun b hb => ?_
    rcases hb with ⟨⟨z1, z2⟩, z3⟩ | z
    · exact ⟨.inl ⟨z1, z3⟩, z2⟩
    · exact ⟨.inr z, p2a b z⟩
theorem Ow.tup_at {K : PySem.W.Frag} {ca : Str → Addr} {G H : Hp} {m : Mode} {n : Nat} {d : Dt} {v : V} {P : Addr → Prop} {ds : List Dt} (o : Ow K ca G H (.T (List.replicate n m)) d v P) (hd : tgetU d = some ds) : ∃ a us, H a = some (.tup us) ∧ ds.length = us.length ∧ v = .ref a := by
  cases o with
  | NT => cases hd
  | TL => cases hd
  | @T _ a us _ _ h1 h2 h3 h4 =>
    cases hd
    exact ⟨a, us, h1, h4.len.1, rfl⟩
theorem ss_forU {j x : Nat} {n0 : Nat} {F : Ev → Ot} (hj : Γ[j]? = some (.T (List.replicate n0 m))) (hx : j ≠ x) (hxl : x < Γ.length) (hpx : J.pin = []) (hb : ∀ v u, SemS (J.lpM (Γ.set x m) [(j, v), (x, u)]) (Γ.set x m) (Γ.set x m) F ts) :
    SemS J Γ Γ (forU j x F) (tFor (iSeqA J.K (tVar j)) (gName x) ts) := fun {G0 H0 G H ρ σ D} w p => by
  unfold forU at p
  cases hq : ρ[j]? with
  | none => rw [hq] at p; cases p
  | some o =>
  cases o with
  | none => rw [hq] at p; cases p
  | some d =>
  rw [hq] at p
  dsimp only at p
  cases hd : tgetU d with
  | none => rw [hd] at p; cases p
  | some ds =>
  rw [hd] at p
  have p : PostS J G0 H0 G Γ D (forUL j x F ds.length 0 ρ) := p
  obtain ⟨v0, m0, P0, s1, s2, s3, s4⟩ := w.get hq
  rw [hj] at s2
  cases s2
  obtain ⟨a, us, ha, hl, hv⟩ := s3.tup_at hd
  have rd : ∀ Q : VK, Q (.ref a) H → tVar j σ H Q := fun Q q => ⟨v0, s1, by rw [hv]; exact q⟩
  refine .inr (rd _ ⟨a, rfl, ⟨us, .of ha⟩, ?_⟩)
  refine ⟨fun i n σ' Hi => ∃ G' ρ' d' ds', n = ds'.length - i ∧ i ≤ ds'.length ∧ Wd J G0 H0 Γ ρ' σ' G' Hi ∧ Same G G' ∧ ρ'[j]? = some (some d') ∧ tgetU d' = some ds' ∧ σ'[j]? = some (some v0) ∧ (∃ us', Hi a = some (.tup us') ∧ us'.length = ds'.length) ∧ v0 = .ref a ∧ PostS J G0 H0 G' Γ D (forUL j x F (ds'.length - i) i ρ'),
    ⟨ds.length, G, ρ, d, ds, by simp, Nat.zero_le _, w, Same.refl _, hq, hd, s1, ⟨us, ha, hl.symm⟩, hv, p⟩, ?_⟩
  rintro i n σ' Hi ⟨G', ρ', d', ds', rfl, hi', w', sg, hq', hd', sj, ⟨us', ha', hl'⟩, hv', q'⟩
  by_cases hlt : i < ds'.length
  case neg =>
    have ei : i = ds'.length := by omega
    subst ei
    rw [Nat.sub_self] at q'
    exact .inl ⟨⟨us', .of ha', by omega⟩, PostS.of_nx q' σ' G' Hi (Same.refl _) w'⟩
  have he : ds'[i]? = some ds'[i] := List.getElem?_eq_getElem hlt
  have hn : ds'.length - i = (ds'.length - (i + 1)) + 1 := by omega
  rw [hn] at q'
  unfold forUL at q'
  rw [hq'] at q'
  dsimp only at q'
  rw [hd'] at q'
  dsimp only at q'
  rw [he] at q'
  dsimp only at q'
  obtain ⟨Pf, k1, k2, k3⟩ := w'.env
  obtain ⟨v1, m1, t1, t2, t3⟩ := k3 j d' hq'
  rw [hj] at t2
  cases t2
  rw [sj] at t1
  cases t1
  obtain ⟨a2, us2, u, Pk, g1, g2, g3, g4, g5, g6, g7, g8, g9⟩ := t3.lensU hd' he
  have ea : a2 = a := by
    have h1 : v0 = .ref a2 := g6
    rw [h1] at hv'
    exact V.ref.inj hv'
  subst ea
  rw [ha'] at g1
  cases g1
  refine .inr ⟨⟨us', u, .of ha', g2⟩, fun σ2 H2 => ∃ m', m' < ds'.length - i ∧ ∃ G' ρ' d' ds', m' = ds'.length - (i + 1) ∧ i + 1 ≤ ds'.length ∧ Wd J G0 H0 Γ ρ' σ2 G' H2 ∧ Same G G' ∧ ρ'[j]? = some (some d') ∧ tgetU d' = some ds' ∧ σ2[j]? = some (some v0) ∧ (∃ us', H2 a2 = some (.tup us') ∧ us'.length = ds'.length) ∧ v0 = .ref a2 ∧ PostS J G0 H0 G' Γ D (forUL j x F (ds'.length - (i + 1)) (i + 1) ρ'), fun σ2 H2 z => z, ?_⟩
  rintro u2 H3 ⟨rfl, y2⟩
  have eu := y2 us' (.of ha')
  rw [g2] at eu
  cases eu
  show ts _ (σ'.set x (some u)) H3
  -- the world of the body
  have lx : ρ'.length = σ'.length := w'.lr
  have lj : j < ρ'.length := (List.getElem?_eq_some_iff.mp hq').1
  have lxl : x < ρ'.length := by rw [← w'.lg]; exact hxl
  let HF : Hp := fun b => if H0 b ≠ none ∨ (Pf j b ∧ ¬ Pk b) then H3 b else none
  have hf0 : ∀ b, HF b = none → H0 b = none := fun b hb => by
    cases z : H0 b with
    | none => rfl
    | some o =>
      have e1 : HF b = H3 b := if_pos (.inl (by rw [z]; intro h; cases h))
      rw [e1, w'.x.h _ _ z] at hb
      cases hb
  have hfin : ∀ b, HF b ≠ none → H0 b ≠ none ∨ (Pf j b ∧ ¬ Pk b) := fun b hb => by
    by_cases z : H0 b ≠ none ∨ (Pf j b ∧ ¬ Pk b)
    · exact z
    · exact absurd (if_neg z) hb
  have hfE : ∀ b, Pf j b → ¬ Pk b → HF b = H3 b := fun b h1 h2 => if_pos (.inr ⟨h1, h2⟩)
  have sHF : Same HF H3 := fun b o hb => by
    by_cases z : H0 b ≠ none ∨ (Pf j b ∧ ¬ Pk b)
    · have e1 : HF b = H3 b := if_pos z
      rw [← e1]; exact hb
    · have e1 : HF b = none := if_neg z
      rw [e1] at hb; cases hb
  have wb : Wd (J.lpM (Γ.set x m) [(j, v0), (x, u)]) G' HF (Γ.set x m) ((ρ'.set j none).set x (some ds'[i])) (σ'.set x (some u)) G' H3 := by
    refine ⟨⟨Same.refl _, sHF, w'.gh, fun _ _ => rfl⟩, by simp only [List.length_set]; exact w'.lg, by simp only [List.length_set]; exact w'.lr, ⟨fun k => if k = x then Pk else if k = j then Pno else Pf k, fun k l b hkl r s => ?_, fun k b r => ?_, fun k c r => ?_⟩, fun k v h => ?_, fun d n hd => (w'.xk d n hd).imp (fun z => w'.x.g _ _ z) fun z => (if_pos (.inl (by rw [z]; exact fun q => nomatch q)) : HF d = H3 d).trans (w'.x.h _ _ z)⟩
    · by_cases hk : k = x
      · simp only [hk, if_true] at r
        by_cases hl2 : l = x
        · exact hkl (hk.trans hl2.symm)
        · simp only [hl2, if_false] at s
          by_cases hlj : l = j
          · simp only [hlj, if_true] at s; exact s.elim
          · simp only [hlj, if_false] at s
            exact k1 l j b hlj s (g8 b r)
      · simp only [hk, if_false] at r
        by_cases hkj : k = j
        · simp only [hkj, if_true] at r; exact r.elim
        · simp only [hkj, if_false] at r
          by_cases hl2 : l = x
          · simp only [hl2, if_true] at s
            exact k1 k j b hkj r (g8 b s)
          · simp only [hl2, if_false] at s
            by_cases hlj : l = j
            · simp only [hlj, if_true] at s; exact s.elim
            · simp only [hlj, if_false] at s
              exact k1 k l b hkl r s
    · by_cases hk : k = x
      · simp only [hk, if_true] at r
        obtain ⟨a1, a2', a3⟩ := k2 j b (g8 b r)
        refine ⟨a1, ?_, a3⟩
        exact if_neg fun z => by
          rcases z with z | z
          · exact z a2'
          · exact z.2 r
      · simp only [hk, if_false] at r
        by_cases hkj : k = j
        · simp only [hkj, if_true] at r
          exact r.elim
        · simp only [hkj, if_false] at r
          obtain ⟨a1, a2', a3⟩ := k2 k b r
          refine ⟨a1, ?_, a3⟩
          exact if_neg fun z => by
            rcases z with z | z
            · exact z a2'
            · exact k1 k j b hkj r z.1
    · by_cases hk : k = x
      · subst hk
        have hl3 : k < ρ'.length := by
          have z := (List.getElem?_eq_some_iff.mp r).1
          simpa using z
        rw [List.getElem?_set_self (by rw [List.length_set]; exact hl3)] at r
        cases r
        refine ⟨u, m, List.getElem?_set_self (by rw [← lx]; exact hl3), List.getElem?_set_self (by rw [w'.lg]; exact hl3), ?_⟩
        simp only [if_true]
        exact g7
      · rw [List.getElem?_set_ne (Ne.symm hk)] at r
        by_cases hkj : k = j
        · subst hkj
          rw [List.getElem?_set_self lj] at r
          cases r
        · rw [List.getElem?_set_ne (Ne.symm hkj)] at r
          obtain ⟨v2, m2, x1, x2, x3⟩ := k3 k c r
          refine ⟨v2, m2, by rw [List.getElem?_set_ne (Ne.symm hk)]; exact x1, by rw [List.getElem?_set_ne (Ne.symm hk)]; exact x2, ?_⟩
          simp only [hk, hkj, if_false]
          exact x3
    · rcases List.mem_cons.mp h with h | h
      · cases h
        rw [List.getElem?_set_ne (Ne.symm hx)]
        exact sj
      · cases (List.mem_singleton.mp h)
        exact List.getElem?_set_self (by rw [← lx]; exact lxl)
  -- back
  have back : ∀ {ρ2 : Ev} {σ5 : L2.St} {G5 H5 : Hp} {e' : Dt}, ρ2[x]? = some (some e') → Same G' G5 → Wd (J.lpM (Γ.set x m) [(j, v0), (x, u)]) G' HF (Γ.set x m) ρ2 σ5 G5 H5 →
      Wd J G0 H0 Γ ((ρ2.set x none).set j (some (.tup (ds'.set i e')))) σ5 G5 H5 ∧ σ5[j]? = some (some v0) ∧ (∀ b, Pf j b → ¬ Pk b → H5 b = H3 b) ∧ j < ρ2.length := fun {ρ2 σ5 G5 H5 e'} hx2 sg5 w5 => by
    obtain ⟨Qf, r1, r2, r3⟩ := w5.env
    have sj5 : σ5[j]? = some (some v0) := w5.pn j v0 List.mem_cons_self
    have sx5 : σ5[x]? = some (some u) := w5.pn x u (List.mem_cons_of_mem _ List.mem_cons_self)
    obtain ⟨v5, m5, x1, x2, x3⟩ := r3 x e' hx2
    rw [sx5] at x1
    cases x1
    rw [List.getElem?_set_self hxl] at x2
    cases x2
    have fr : ∀ b, Pf j b → ¬ Pk b → H5 b = H3 b ∧ G5 b = none := fun b h1 h2 => by
      have hne : HF b ≠ none := by rw [hfE b h1 h2]; exact (k2 j b h1).2.2
      constructor
      · have := w5.x.h.at hne
        rw [this]; exact hfE b h1 h2
      · rw [w5.x.base b hne]; exact (k2 j b h1).1
    have lj5 : j < ρ2.length := by
      rw [w5.lr]; exact (List.getElem?_eq_some_iff.mp sj5).1
    have q2 : ∀ b, Qf x b → Pk b ∨ ¬ Pf j b := fun b hb => by
      by_cases z : Pk b
      · exact .inl z
      · refine .inr fun y => ?_
        have := (r2 x b hb).2.1
        rw [hfE b y z] at this
        exact (k2 j b y).2.2 this
    have own := g9 G5 H5 e' (Qf x) sg5 fr x3 q2
    have wl : ρ2.length = Γ.length := by have := w5.lg; rw [List.length_set] at this; exact this.symm
    refine ⟨⟨⟨w'.x.g.trans sg5, fun b o hb => ?_, w5.x.gh, fun b hb => ?_⟩, by simp only [List.length_set]; exact wl.symm, by simp only [List.length_set]; exact w5.lr, ⟨fun k b => if k = j then (Pf j b ∧ ¬ Pk b) ∨ Qf x b else if k = x then False else Qf k b, fun k l b hkl r s => ?_, fun k b r => ?_, fun k c r => ?_⟩, (fun k v h => by rw [hpx] at h; cases h), w'.xk⟩, sj5, fun b h1 h2 => (fr b h1 h2).1, lj5⟩
    · have e1 : HF b = H3 b := if_pos (.inl (by rw [hb]; intro h; cases h))
      exact w5.x.h b o (by rw [e1]; exact w'.x.h b o hb)
    · have e1 : HF b ≠ none := by
        have e1 : HF b = H3 b := if_pos (.inl hb)
        rw [e1]; exact w'.x.h.nn hb
      rw [w5.x.base b e1]
      exact w'.x.base b hb
    · have frame : ∀ k b, k ≠ j → k ≠ x → Qf k b → ¬ ((Pf j b ∧ ¬ Pk b) ∨ Qf x b) := fun k b h1 h2 h3 h4 => by
        rcases h4 with h4 | h4
        · have := (r2 k b h3).2.1
          rw [hfE b h4.1 h4.2] at this
          exact (k2 j b h4.1).2.2 this
        · exact r1 k x b h2 h3 h4
      by_cases hk : k = j
      · simp only [hk, if_true] at r
        by_cases hl2 : l = j
        · exact hkl (hk.trans hl2.symm)
        · simp only [hl2, if_false] at s
          by_cases hlx : l = x
          · simp only [hlx, if_true] at s
          · simp only [hlx, if_false] at s
            exact frame l b hl2 hlx s r
      · simp only [hk, if_false] at r
        by_cases hkx : k = x
        · simp only [hkx, if_true] at r
        · simp only [hkx, if_false] at r
          by_cases hl2 : l = j
          · simp only [hl2, if_true] at s
            exact frame k b hk hkx r s
          · simp only [hl2, if_false] at s
            by_cases hlx : l = x
            · simp only [hlx, if_true] at s
            · simp only [hlx, if_false] at s
              exact r1 k l b hkl r s
    · by_cases hk : k = j
      · simp only [hk, if_true] at r
        rcases r with r | r
        · obtain ⟨a1, a2', a3⟩ := k2 j b r.1
          exact ⟨(fr b r.1 r.2).2, a2', by rw [(fr b r.1 r.2).1]; exact a3⟩
        · obtain ⟨a1, a2', a3⟩ := r2 x b r
          exact ⟨a1, hf0 b a2', a3⟩
      · simp only [hk, if_false] at r
        by_cases hkx : k = x
        · simp only [hkx, if_true] at r
        · simp only [hkx, if_false] at r
          obtain ⟨a1, a2', a3⟩ := r2 k b r
          exact ⟨a1, hf0 b a2', a3⟩
    · by_cases hk : k = j
      · subst hk
        rw [List.getElem?_set_self (by rw [List.length_set]; exact lj5)] at r
        cases r
        refine ⟨v0, _, sj5, hj, ?_⟩
        simp only [if_true]
        exact own
      · rw [List.getElem?_set_ne (Ne.symm hk)] at r
        by_cases hkx : k = x
        · subst hkx
          rw [List.getElem?_set_self (by rw [wl]; exact hxl)] at r
          cases r
        · rw [List.getElem?_set_ne (Ne.symm hkx)] at r
          obtain ⟨v2, m2, y1, y2, y3⟩ := r3 k c r
          refine ⟨v2, m2, y1, by rw [List.getElem?_set_ne (Ne.symm hkx)] at y2; exact y2, ?_⟩
          simp only [hk, hkx, if_false]
          exact y3
  have hsj : ∀ (ρ2 : Ev) (e' : Dt), j < ρ2.length → ((ρ2.set x none).set j (some (.tup (ds'.set i e'))))[j]? = some (some (.tup (ds'.set i e'))) := fun ρ2 e' h => List.getElem?_set_self (by rw [List.length_set]; exact h)
  have nxt : ∀ (ρ2 : Ev), PostS J G0 H0 G' Γ D (match ρ2[x]? with
          | some (some e') => forUL j x F (ds'.length - (i + 1)) (i + 1) ((ρ2.set x none).set j (some (.tup (ds'.set i e'))))
          | _ => .no) → ∀ σ5 G5 H5, Same G' G5 → Wd (J.lpM (Γ.set x m) [(j, v0), (x, u)]) G' HF (Γ.set x m) ρ2 σ5 G5 H5 → ∃ m', m' < ds'.length - i ∧ ∃ G' ρ' d' ds', m' = ds'.length - (i + 1) ∧ i + 1 ≤ ds'.length ∧ Wd J G0 H0 Γ ρ' σ5 G' H5 ∧ Same G G' ∧ ρ'[j]? = some (some d') ∧ tgetU d' = some ds' ∧ σ5[j]? = some (some v0) ∧ (∃ us', H5 a2 = some (.tup us') ∧ us'.length = ds'.length) ∧ v0 = .ref a2 ∧ PostS J G0 H0 G' Γ D (forUL j x F (ds'.length - (i + 1)) (i + 1) ρ') := fun ρ2 q5 σ5 G5 H5 sg5 w5 => by
    cases hx2 : ρ2[x]? with
    | none => rw [hx2] at q5; cases q5
    | some o =>
    cases o with
    | none => rw [hx2] at q5; cases q5
    | some e' =>
    rw [hx2] at q5
    obtain ⟨w6, sj5, fr, lj5⟩ := back hx2 sg5 w5
    refine ⟨ds'.length - (i + 1), by omega, G5, _, _, ds'.set i e', by rw [List.length_set], by rw [List.length_set]; omega, w6, sg.trans sg5, hsj ρ2 e' lj5, rfl, sj5, ⟨us', by rw [fr a2 g4 g5]; exact ha', by rw [List.length_set]; exact hl'⟩, ?_, by rw [List.length_set]; exact q5.up sg5⟩
    exact g6
  have cvt : ∀ d, PostS J G0 H0 G' Γ D (.rt d) → ∀ v G5 H5 P, Ext G' HF G5 H5 → Fr G5 HF H5 P → RtR J G5 H5 d v P → D.rt v H5 := fun d p5 v G5 H5 P e5 f5 o5 => by
    refine p5.of_rt v G5 H5 P ⟨w'.x.g.trans e5.g, fun b o hb => ?_, e5.gh, fun b hb => ?_⟩ (fun b hb => ⟨(f5 b hb).1, hf0 b (f5 b hb).2.1, (f5 b hb).2.2⟩) o5
    · have e1 : HF b = H3 b := if_pos (.inl (by rw [hb]; intro h; cases h))
      exact e5.h b o (by rw [e1]; exact w'.x.h b o hb)
    · have e1 : HF b ≠ none := by
        have e1 : HF b = H3 b := if_pos (.inl hb)
        rw [e1]; exact w'.x.h.nn hb
      rw [e5.base b e1]
      exact w'.x.base b hb
  refine hb v0 u wb ?_
  cases hB : F ((ρ'.set j none).set x (some ds'[i])) with
  | nx r => rw [hB] at q'; exact .nx (nxt r q')
  | ct r => rw [hB] at q'; exact .ct (nxt r q')
  | rt r => rw [hB] at q'; exact .rt (cvt r q')
  | bk r =>
    rw [hB] at q'
    refine .bk fun σ5 G5 H5 sg5 w5 => ?_
    have q5 : PostS J G0 H0 G' Γ D (match r[x]? with
          | some (some e') => .nx ((r.set x none).set j (some (.tup (ds'.set i e'))))
          | _ => .no) := q'
    cases hx2 : r[x]? with
    | none => rw [hx2] at q5; cases q5
    | some o =>
    cases o with
    | none => rw [hx2] at q5; cases q5
    | some e' =>
    rw [hx2] at q5
    obtain ⟨w6, sj5, fr, lj5⟩ := back hx2 sg5 w5
    exact q5.of_nx σ5 G5 H5 sg5 w6
  | ex c r => rw [hB] at q'; cases q'
  | no => rw [hB] at q'; cases q'
end
end Pm
namespace Pm
open PySem PySem.Spec PyProof.Rows L2
/-! ### the head's Hook: facts, defs, one more Bool; the interpreter's statics too (readsIn looks there) -/
/-! the same over addresses that are written out -/
/-! ### the law's end -/
theorem walkX {l : PySem.W.OpenLaw} {n k : Nat} {q : Program} {loose : List Str} {XP : (Str → Option Value) → Heap → Prop} {YP : World → Heap → Prop} {d : DefRec} {x : Str} {Fn : List Dt → Rs Dt}
    (hn : l.most = some n) (hsz : n ≤ sizeLine) (hdf : d.params.defaults = []) (hr : Room k callerA)
    (hF : ∀ ns : List Int, ns.length ≤ n → Fn [.scr (ns.map Dt.int)] = .ok (.bl true))
    (F : ∀ (w : World) (mg : Str → Option Value) (fa : Addr) (h : Heap), YP w h → h.Ns mainGlobals mg → mg d.name = some (.ref fa) →
      ∃ (K : PySem.W.Frag) (fd : FuncData) (ca : Str → Addr), K.In h ∧ (∀ (s : Shared) (u : Value), BindsTo s fd ⟨[u], []⟩ [(x, u)]) ∧
        ∀ base : Heap, FnOk l.prog w K mg base (L2.CX l.prog w) k fa fd [x] (spM K ca 1 .F Fn)) :
    PySem.W.WalkO q loose XP YP l.row.toRowW d [] (fun f vs => PySem.call f vs) := by
  refine Att.attach_call hn hdf fun w s0 s1 mg mb fa o pm cd doc a vs ns G Y ho hd hcd hmg hobj hints hlen hg => ?_
  obtain ⟨K, fd, ca, KX, hb, ok⟩ := F w mg fa _ Y G.T.g hmg
  have size := Nat.le_trans hlen hsz
  refine law_call KX G.T.g G.T.b G.T.builtins G.T.nolimit hg hobj hints size hr (fun base _ _ => ok base) hb (fun H hO hS => ?_) fun H e s' z => ?_
  · have rs : ∀ ms : List Int, Rps K ca H (ms.map Dt.int) (ms.map V.int) := fun ms => by
      induction ms with
      | nil => exact .nil
      | cons m ms ih => exact .cons (.int m) ih
    refine ⟨rfl, H, [.scr (ns.map Dt.int)], Same.refl H, .cons (.scr hS (rs ns)) .nil, ?_⟩
    rw [hF ns hlen]
    exact .ok fun v G2 H2 P2 _ _ o2 => by
      cases o2 with
      | F o2 => cases o2; rfl
  · obtain ⟨_, _, _, _, _, _, _, _, _, _, _, _, no⟩ := z
    exact no
section
/-! a def's result -/
theorem v_def {np nl : Nat} {m : Mode} {F : Ev → Ot} {ds : List Dt} (h : ds.length = np) : defF np nl m F ds = outF m (F (ds.map some ++ List.replicate (nl - np) none)) := if_pos h
theorem v_init {C : Str} {np nl : Nat} {F : Ev → Ot} {ds : List Dt} (h : ds.length + 1 = np) : initF C np nl F ds = outI (F (some (.ins C [] []) :: ds.map some ++ List.replicate (nl - np) none)) := if_pos h
end
end Pm
namespace Pm
open PySem PySem.Spec L2
/-! ### reckoning with what the defs compute, no program in sight -/
section
variable {ρ : Ev} {d : Dt} {i j : Nat} {Fa Fb Fc Fe : Ev → Rs Dt} {Fs : List (Ev → Rs Dt)} {Ft Fu : Ev → Rs Bool} {F1 F2 F3 rest : Ev → Ot} {Post : Ot → Prop} {FG : Dt → Ev → Option Ev} {Fi : Ev → Rs (List Dt)}
theorem v_var0 : varE 0 (some d :: ρ) = .ok d := rfl
theorem v_varS {x : Option Dt} : varE (i + 1) (x :: ρ) = varE i ρ := rfl
theorem v_con : conE d ρ = .ok d := rfl
theorem v_add : addE Fa Fb ρ = (Fa ρ >>= fun a => Fb ρ >>= fun b => i2 addI a b) := rfl
theorem v_sub : subE Fa Fb ρ = (Fa ρ >>= fun a => Fb ρ >>= fun b => i2 subI a b) := rfl
theorem v_mul : mulE Fa Fb ρ = (Fa ρ >>= fun a => Fb ρ >>= fun b => i2 mulI a b) := rfl
theorem v_div : divE Fa Fb ρ = (Fa ρ >>= fun a => Fb ρ >>= fun b => i2 divI a b) := rfl
theorem v_mod : modE Fa Fb ρ = (Fa ρ >>= fun a => Fb ρ >>= fun b => i2 modI a b) := rfl
theorem v_pow : powE Fa Fb ρ = (Fa ρ >>= fun a => Fb ρ >>= fun b => i2 powI a b) := rfl
theorem v_shl : shlE Fa Fb ρ = (Fa ρ >>= fun a => Fb ρ >>= fun b => i2 shlI a b) := rfl
theorem v_lt : ltE Fa Fb ρ = (Fa ρ >>= fun a => Fb ρ >>= fun b => i2 ltI a b) := rfl
theorem v_le : leE Fa Fb ρ = (Fa ρ >>= fun a => Fb ρ >>= fun b => i2 leI a b) := rfl
theorem v_gt : gtE Fa Fb ρ = (Fa ρ >>= fun a => Fb ρ >>= fun b => i2 gtI a b) := rfl
theorem v_ge : geE Fa Fb ρ = (Fa ρ >>= fun a => Fb ρ >>= fun b => i2 geI a b) := rfl
theorem v_eq : eqE Fa Fb ρ = (Fa ρ >>= fun a => Fb ρ >>= fun b => eqD a b) := rfl
theorem v_ne : neE Fa Fb ρ = (Fa ρ >>= fun a => Fb ρ >>= fun b => neD a b) := rfl
theorem v_in : inE Fa Fb ρ = (Fa ρ >>= fun a => Fb ρ >>= fun b => memD false a b) := rfl
theorem v_nin : ninE Fa Fb ρ = (Fa ρ >>= fun a => Fb ρ >>= fun b => memD true a b) := rfl
theorem v_ix : ixE Fa Fb ρ = (Fa ρ >>= fun a => Fb ρ >>= fun b => ixD a b) := rfl
theorem v_plus : plusE Fa Fb ρ = (Fa ρ >>= fun a => Fb ρ >>= fun b => plusD a b) := rfl
theorem v_cat : catE Fa Fb ρ = (Fa ρ >>= fun a => Fb ρ >>= fun b => catD a b) := rfl
theorem v_rep : repE Fa Fb ρ = (Fa ρ >>= fun a => Fb ρ >>= fun b => repD a b) := rfl
theorem v_isN : isNE Fa ρ = (Fa ρ >>= fun a => .ok (.bl (isNonD a))) := rfl
theorem v_notN : notNE Fa ρ = (Fa ρ >>= fun a => .ok (.bl (!isNonD a))) := rfl
theorem v_len : lenE Fa ρ = (Fa ρ >>= lenD) := rfl
theorem v_neg : negE Fa ρ = (Fa ρ >>= negD) := rfl
theorem v_isi {c : Ty} : isiE c Fa ρ = (Fa ρ >>= isiD c) := rfl
theorem v_list : listE Fa ρ = (Fa ρ >>= listD) := rfl
theorem v_tuple : tupleE Fa ρ = (Fa ρ >>= tupleD) := rfl
theorem v_tupleL : tupleLE Fa ρ = (Fa ρ >>= tupleLD) := rfl
theorem v_fld {C f : Str} : fldE C f Fa ρ = (Fa ρ >>= fldD C f) := rfl
theorem v_fldI {C f : Str} : fldIE C f j i ρ = (varE i ρ >>= fldID C f j) := rfl
theorem v_all : allE Fa ρ = (Fa ρ >>= allD) := rfl
theorem v_any : anyE Fa ρ = (Fa ρ >>= anyD) := rfl
theorem v_sum : sumE Fa ρ = (Fa ρ >>= sumD) := rfl
theorem v_max2 : max2E Fa Fb ρ = (Fa ρ >>= fun a => Fb ρ >>= fun b => i2 (fun i j => .ok (.int (if j > i then j else i))) a b) := rfl
theorem v_min2 : min2E Fa Fb ρ = (Fa ρ >>= fun a => Fb ρ >>= fun b => i2 (fun i j => .ok (.int (if j < i then j else i))) a b) := rfl
theorem v_i2 {f : Int → Int → Rs Dt} {a b : Int} : i2 f (.int a) (.int b) = f a b := rfl
theorem v_addI {a b : Int} : addI a b = .ok (.int (a + b)) := rfl
theorem v_subI {a b : Int} : subI a b = .ok (.int (a - b)) := rfl
theorem v_mulL {a b : Int} (h : smallI a = true) : mulI a b = .ok (.int (a * b)) := by unfold mulI; rw [h]; rfl
theorem v_mulR {a b : Int} (h : smallI b = true) : mulI a b = .ok (.int (a * b)) := by unfold mulI; rw [h, Bool.or_true]; rfl
theorem divOk_of {b : Int} (h : 0 < b) (h2 : b < 1000000000000000000000000000000000000000000000000000000000000) : divOk b = true := by
  unfold divOk
  have : b.natAbs < 2 ^ 200 := Nat.lt_trans (show b.natAbs < 1000000000000000000000000000000000000000000000000000000000000 by omega) (by decide)
  rw [decide_eq_true h, decide_eq_true this]
  rfl
theorem v_divI {a b : Int} (h : divOk b = true) : divI a b = .ok (.int (a / b)) := by unfold divI; rw [if_pos h]
theorem v_modI {a b : Int} (h : 0 < b) : modI a b = .ok (.int (a % b)) := by unfold modI; rw [if_pos (decide_eq_true h)]
theorem v_ltI {a b : Int} : ltI a b = .ok (.bl (decide (a < b))) := rfl
theorem v_leI {a b : Int} : leI a b = .ok (.bl (decide (a ≤ b))) := rfl
theorem v_gtI {a b : Int} : gtI a b = .ok (.bl (decide (b < a))) := rfl
theorem v_geI {a b : Int} : geI a b = .ok (.bl (decide (b ≤ a))) := rfl
theorem v_negD {a : Int} : negD (.int a) = .ok (.int (-a)) := rfl
theorem v_eqI {a b : Int} : eqD (.int a) (.int b) = .ok (.bl (decide (a = b))) := rfl
theorem v_neI {a b : Int} : neD (.int a) (.int b) = .ok (.bl (!decide (a = b))) := rfl
theorem v_eqB {a b : Bool} : eqD (.bl a) (.bl b) = .ok (.bl (a == b)) := by cases a <;> cases b <;> rfl
theorem v_neB {a b : Bool} : neD (.bl a) (.bl b) = .ok (.bl (!(a == b))) := by cases a <;> cases b <;> rfl
theorem v_lenL {ds : List Dt} : lenD (.lst ds) = .ok (.int ds.length) := rfl
theorem v_lenC {ds : List Dt} : lenD (.scr ds) = .ok (.int ds.length) := rfl
theorem v_lenT {ds : List Dt} : lenD (.tup ds) = .ok (.int ds.length) := rfl
theorem v_ixL {ds : List Dt} {k : Int} (h : atI ds k = some d) : ixD (.lst ds) (.int k) = .ok d := by show (match atI ds k with | some d => (Rs.ok d : Rs Dt) | none => .no) = _; rw [h]
theorem v_ixT {ds : List Dt} {k : Int} (h : atI ds k = some d) : ixD (.tup ds) (.int k) = .ok d := by show (match atI ds k with | some d => (Rs.ok d : Rs Dt) | none => .no) = _; rw [h]
theorem atI_nat {α : Type} {xs : List α} {x : α} {k : Nat} (h : xs[k]? = some x) : atI xs (k : Int) = some x := by
  have hk := (List.getElem?_eq_some_iff.mp h).1
  have e : ixN xs.length (k : Int) = some k := by
    unfold ixN
    first | simp; omega | simp [hk]
  unfold atI
  rw [e]
  exact h
theorem v_listL {ds : List Dt} : listD (.lst ds) = .ok (.lst ds) := rfl
theorem v_listC {ds : List Dt} : listD (.scr ds) = .ok (.lst ds) := rfl
theorem v_listT {ds : List Dt} : listD (.tup ds) = .ok (.lst ds) := rfl
theorem v_tupL {ds : List Dt} : tupleD (.lst ds) = .ok (.tup ds) := rfl
theorem v_tupC {ds : List Dt} : tupleD (.scr ds) = .ok (.tup ds) := rfl
theorem v_tupT {ds : List Dt} : tupleD (.tup ds) = .ok (.tup ds) := rfl
theorem v_tupLL {ds : List Dt} : tupleLD (.lst ds) = .ok (.tup ds) := rfl
theorem v_plusI {a b : Int} : plusD (.int a) (.int b) = .ok (.int (a + b)) := rfl
theorem v_plusL {a b : List Dt} (h : lenSz (a.length + b.length) = true) : plusD (.lst a) (.lst b) = .ok (.lst (a ++ b)) := if_pos h
theorem v_plusT {a b : List Dt} (h : lenSz (a.length + b.length) = true) : plusD (.tup a) (.tup b) = .ok (.tup (a ++ b)) := if_pos h
theorem v_catL {a b : List Dt} (h : lenSz (a.length + b.length) = true) : catD (.lst a) (.lst b) = .ok (.lst (a ++ b)) := if_pos h
theorem v_slc {Fl Fh : Ev → Rs (Option Int)} : slcE Fa Fl Fh ρ = (Fa ρ >>= fun d => Fl ρ >>= fun l => Fh ρ >>= fun u => cutD d l u) := rfl
theorem v_slcL {Fl Fh : Ev → Rs (Option Int)} : slcLE Fa Fl Fh ρ = (Fa ρ >>= fun d => Fl ρ >>= fun l => Fh ρ >>= fun u => cutLD d l u) := rfl
theorem v_noPart : noPart ρ = .ok none := rfl
theorem v_partO : partO Fa ρ = (Fa ρ >>= asI) := rfl
theorem v_asI {a : Int} : asI (.int a) = .ok (some a) := rfl
theorem v_cutL {ds : List Dt} {lo hi : Option Int} : cutD (.lst ds) lo hi = .ok (.lst (cutL ds lo hi)) := rfl
theorem v_cutC {ds : List Dt} {lo hi : Option Int} : cutD (.scr ds) lo hi = .ok (.lst (cutL ds lo hi)) := rfl
theorem v_cutT {ds : List Dt} {lo hi : Option Int} : cutD (.tup ds) lo hi = .ok (.tup (cutL ds lo hi)) := rfl
theorem v_cutLL {ds : List Dt} {lo hi : Option Int} : cutLD (.lst ds) lo hi = .ok (.lst (cutL ds lo hi)) := rfl
theorem v_cutLC {ds : List Dt} {lo hi : Option Int} : cutLD (.scr ds) lo hi = .ok (.lst (cutL ds lo hi)) := rfl
/-! tests -/
theorem v_boolT : boolT Fa ρ = (Fa ρ >>= asB) := rfl
theorem v_notT : notT Ft ρ = (Ft ρ >>= fun b => .ok (!b)) := rfl
theorem v_andT : andT Ft Fu ρ = (Ft ρ >>= fun b => if b = true then Fu ρ else .ok false) := rfl
theorem v_orT : orT Ft Fu ρ = (Ft ρ >>= fun b => if b = true then .ok true else Fu ρ) := rfl
theorem v_yes : yesT ρ = .ok true := rfl
theorem v_andE : andE Fa Fb ρ = (Fa ρ >>= fun a => asB a >>= fun b => if b = true then Fb ρ else .ok (.bl false)) := rfl
theorem v_orE : orE Fa Fb ρ = (Fa ρ >>= fun a => asB a >>= fun b => if b = true then .ok (.bl true) else Fb ρ) := rfl
theorem v_notE : notE Fa ρ = (Fa ρ >>= fun a => asB a >>= fun b => .ok (.bl (!b))) := rfl
theorem v_ifE : ifE Ft Fa Fb ρ = (Ft ρ >>= fun b => if b = true then Fa ρ else Fb ρ) := rfl
theorem v_andOk {b c : Bool} : (if b = true then (Rs.ok c : Rs Bool) else .ok false) = .ok (b && c) := by cases b <;> rfl
theorem v_orOk {b c : Bool} : (if b = true then (Rs.ok true : Rs Bool) else .ok c) = .ok (b || c) := by cases b <;> rfl
theorem v_andOkE {b c : Bool} : (if b = true then (Rs.ok (.bl c) : Rs Dt) else .ok (.bl false)) = .ok (.bl (b && c)) := by cases b <;> rfl
theorem v_orOkE {b c : Bool} : (if b = true then (Rs.ok (.bl true) : Rs Dt) else .ok (.bl c)) = .ok (.bl (b || c)) := by cases b <;> rfl
theorem v_isB {b : Bool} : isiD .bool (.bl b) = .ok (.bl true) := rfl
theorem v_asB {b : Bool} : asB (.bl b) = .ok b := rfl
/-! arguments, displays, calls -/
theorem v_args0 : argsE [] ρ = .ok [] := rfl
theorem v_args1 : argsE (Fa :: Fs) ρ = (Fa ρ >>= fun d => argsE Fs ρ >>= fun ds => .ok (d :: ds)) := rfl
theorem v_tup : tupE Fs ρ = (argsE Fs ρ >>= fun ds => .ok (.tup ds)) := rfl
theorem v_lst : lstE Fs ρ = (argsE Fs ρ >>= fun ds => .ok (.lst ds)) := rfl
theorem v_call {Fn : List Dt → Rs Dt} : callE Fn Fs ρ = (argsE Fs ρ >>= Fn) := rfl
theorem v_callB {Fn : List Dt → Rs Dt} : callBE Fn Fs ρ = (argsE Fs ρ >>= fun ds => scalR (Fn ds)) := rfl
theorem v_meth {C m : Str} {Fn : List Dt → Rs Dt} : methE C m Fn Fa Fs ρ = (Fa ρ >>= fun s => noMeth C m s >>= fun _ => argsE Fs ρ >>= fun ds => Fn (s :: ds)) := rfl
theorem v_methB {C m : Str} {Fn : List Dt → Rs Dt} : methBE C m Fn Fa Fs ρ = (Fa ρ >>= fun s => noMeth C m s >>= fun _ => argsE Fs ρ >>= fun ds => scalR (Fn (s :: ds))) := rfl
theorem v_scal : scalR (.ok d) = if scal d = true then .ok d else .no := rfl
theorem v_scalI {a : Int} : scal (.int a) = true := rfl
theorem v_scalB {a : Bool} : scal (.bl a) = true := rfl
theorem v_scalS {a : Str} : scal (.str a) = true := rfl
theorem v_scalN : scal .non = true := rfl
/-! what is walked -/
def rngD (ds : List Dt) : Rs (List Dt) := match ds with
  | [.int j] => if intSz j = true then .ok (rangeL 0 j.toNat) else .no
  | [.int i, .int j] => if (intSz i && intSz j) = true then .ok (rangeL i (j - i).toNat) else .no
  | _ => .no
theorem v_rng1 : rng1I [Fa] ρ = (Fa ρ >>= fun a => rngD [a]) := by
  unfold rng1I
  rw [v_args1]
  cases Fa ρ with
  | ok a => cases a <;> rfl
  | ex c => rfl
  | no => rfl
theorem v_rng2 : rng2I [Fa, Fb] ρ = (Fa ρ >>= fun a => Fb ρ >>= fun b => rngD [a, b]) := by
  unfold rng2I
  rw [v_args1, v_args1]
  cases Fa ρ with
  | ok a =>
    cases Fb ρ with
    | ok b => cases a <;> cases b <;> rfl
    | ex c => rfl
    | no => rfl
  | ex c => rfl
  | no => rfl
theorem v_rngD1 {a : Int} (h : intSz a = true) : rngD [.int a] = .ok (rangeL 0 a.toNat) := if_pos h
theorem v_rngD2 {a b : Int} (h : (intSz a && intSz b) = true) : rngD [.int a, .int b] = .ok (rangeL a (b - a).toNat) := if_pos h
def seqID (d : Dt) : Rs (List Dt) := match d with
  | .lst ds => .ok ds
  | .scr ds => .ok ds
  | .tup ds => .ok ds
  | _ => .no
/-- a tuple or a list -/
def sqD (b : Bool) (ds : List Dt) : Dt := if b = true then .tup ds else .lst ds
def tupID (d : Dt) : Rs (List Dt) := match d with
  | .tup ds => .ok ds
  | _ => .no
theorem v_seqI : seqI Fa ρ = (Fa ρ >>= seqID) := rfl
theorem v_tupI : tupI Fa ρ = (Fa ρ >>= tupID) := rfl
theorem v_seqL {ds : List Dt} : seqID (.lst ds) = .ok ds := rfl
theorem v_seqC {ds : List Dt} : seqID (.scr ds) = .ok ds := rfl
theorem v_seqT {ds : List Dt} : seqID (.tup ds) = .ok ds := rfl
theorem v_seqQ {b : Bool} {ds : List Dt} : seqID (sqD b ds) = .ok ds := by cases b <;> rfl
theorem v_lenQ {b : Bool} {ds : List Dt} : lenD (sqD b ds) = .ok (.int ds.length) := by cases b <;> rfl
theorem v_tupQ {b : Bool} {ds : List Dt} : tupleD (sqD b ds) = .ok (.tup ds) := by cases b <;> rfl
theorem v_tupID {ds : List Dt} : tupID (.tup ds) = .ok ds := rfl
def zipD (ds : List Dt) : Rs (List Dt) := match ds with
  | [.lst a, .lst b] => .ok (zipL a b)
  | [.tup a, .tup b] => .ok (zipL a b)
  | _ => .no
theorem v_zipI : zipI Fs ρ = (argsE Fs ρ >>= zipD) := rfl
theorem v_zipL {a b : List Dt} : zipD [.lst a, .lst b] = .ok (zipL a b) := rfl
theorem v_zipT {a b : List Dt} : zipD [.tup a, .tup b] = .ok (zipL a b) := rfl
def enumD (ds : List Dt) : Rs (List Dt) := match ds with
  | [.lst a] => .ok (enumL 0 a)
  | [.scr a] => .ok (enumL 0 a)
  | _ => .no
theorem v_enumI : enumI Fs ρ = (argsE Fs ρ >>= enumD) := rfl
theorem v_enumL {a : List Dt} : enumD [.lst a] = .ok (enumL 0 a) := rfl
theorem v_enumC {a : List Dt} : enumD [.scr a] = .ok (enumL 0 a) := rfl
def revD (d : Dt) : Rs (List Dt) := match d with
  | .lst ds => .ok ds.reverse
  | .tup ds => .ok ds.reverse
  | _ => .no
theorem v_revI : revI Fa ρ = (Fa ρ >>= revD) := rfl
theorem v_revL {a : List Dt} : revD (.lst a) = .ok a.reverse := rfl
theorem v_revT {a : List Dt} : revD (.tup a) = .ok a.reverse := rfl
/-! comprehensions -/
def compR (FG : Dt → Ev → Option Ev) (Ft : Ev → Rs Bool) (Fe : Ev → Rs Dt) (ρ : Ev) (ds : List Dt) : Rs Dt := if lenSz ds.length = true then noEx (compL FG Ft Fe ρ ds) >>= fun ys => .ok (.lst ys) else .no
theorem v_comp {vs : List Nat} : compE Fi vs FG Ft Fe ρ = (Fi ρ >>= fun ds => compR FG Ft Fe (wipeE ρ vs) ds) := rfl
theorem v_wipe0 : wipeE ρ [] = ρ := rfl
theorem v_wipe1 {v : Nat} {vs : List Nat} : wipeE ρ (v :: vs) = (wipeE ρ vs).set v none := rfl
theorem compL_filter {α : Type} {g f : α → Dt} {p : α → Bool} : ∀ {xs : List α}, (∀ x, x ∈ xs → ∃ ρ1, FG (g x) ρ = some ρ1 ∧ Ft ρ1 = .ok (p x) ∧ (p x = true → Fe ρ1 = .ok (f x))) → compL FG Ft Fe ρ (xs.map g) = .ok ((xs.filter p).map f)
  | [], _ => rfl
  | x :: xs, h => by
    obtain ⟨ρ1, h1, h2, h3⟩ := h x List.mem_cons_self
    have ih := compL_filter (xs := xs) fun y hy => h y (List.mem_cons_of_mem _ hy)
    rw [List.map_cons]
    unfold compL
    simp only [h1, h2, ok_bind]
    cases q : p x with
    | true =>
      rw [if_pos rfl, h3 q, ok_bind, ih, ok_bind, List.filter_cons_of_pos q, List.map_cons]
    | false =>
      rw [if_neg (by simp), ih, List.filter_cons_of_neg (by simp [q])]
theorem comp_filter {α : Type} {g f : α → Dt} {p : α → Bool} {xs : List α} (hl : lenSz xs.length = true) (h : ∀ x, x ∈ xs → ∃ ρ1, FG (g x) ρ = some ρ1 ∧ Ft ρ1 = .ok (p x) ∧ (p x = true → Fe ρ1 = .ok (f x))) : compR FG Ft Fe ρ (xs.map g) = .ok (.lst ((xs.filter p).map f)) := by
  unfold compR
  rw [List.length_map, if_pos hl, compL_filter h]
  rfl
theorem comp_map {α : Type} {g f : α → Dt} {xs : List α} (hl : lenSz xs.length = true) (h : ∀ x, x ∈ xs → ∃ ρ1, FG (g x) ρ = some ρ1 ∧ Fe ρ1 = .ok (f x)) : compR FG yesT Fe ρ (xs.map g) = .ok (.lst (xs.map f)) := by
  have := comp_filter (Ft := yesT) (p := fun _ => true) hl fun x hx => by
    obtain ⟨ρ1, h1, h2⟩ := h x hx
    exact ⟨ρ1, h1, rfl, fun _ => h2⟩
  rw [this, List.filter_eq_self.mpr fun _ _ => rfl]
theorem lenSz_of {n : Nat} (h : n ≤ 1000000) : lenSz n = true := by
  unfold lenSz
  exact decide_eq_true h
theorem intSz_of {a : Int} (h : -1000000000 ≤ a) (h2 : a ≤ 1000000000) : intSz a = true := by
  unfold intSz
  exact decide_eq_true ⟨h, h2⟩
theorem smallI_of {a : Int} (h : -9000000000000000000 ≤ a) (h2 : a ≤ 9000000000000000000) : smallI a = true := by
  unfold smallI
  rw [Bool.and_eq_true]
  exact ⟨decide_eq_true (by omega), decide_eq_true (by omega)⟩
theorem at_map {α β : Type} {f : α → β} {xs : List α} {k : Nat} {x : α} (h : xs[k]? = some x) : (xs.map f)[k]? = some (f x) := by rw [List.getElem?_map, h]; rfl
theorem of_at_map {α β : Type} {f : α → β} {xs : List α} {k : Nat} {y : β} (h : (xs.map f)[k]? = some y) : ∃ x, xs[k]? = some x ∧ y = f x := by
  rw [List.getElem?_map] at h
  cases e : xs[k]? with
  | none => rw [e] at h; cases h
  | some x => rw [e] at h; exact ⟨x, rfl, (Option.some.inj h).symm⟩
theorem at_of_lt {α : Type} {xs : List α} {k : Nat} (h : k < xs.length) : ∃ x, xs[k]? = some x ∧ x ∈ xs := ⟨xs[k], List.getElem?_eq_getElem h, List.getElem_mem h⟩
theorem lt_of_at {α : Type} {xs : List α} {k : Nat} {x : α} (h : xs[k]? = some x) : k < xs.length := (List.getElem?_eq_some_iff.mp h).1
theorem rangeL_at {lo : Int} {n k : Nat} {d : Dt} (h : (rangeL lo n)[k]? = some d) : k < n ∧ d = .int (lo + (k : Nat)) := by
  obtain ⟨x, h1, h2⟩ := of_at_map h
  have hk : k < n := by have := (List.getElem?_eq_some_iff.mp h1).1; simpa using this
  rw [List.getElem?_range hk] at h1
  cases h1
  exact ⟨hk, h2⟩
theorem rangeL0_map {n : Nat} : rangeL 0 n = (List.range n).map fun i => Dt.int (i : Nat) := by
  unfold rangeL
  congr 1
  funext i
  rw [Int.zero_add]
theorem rangeL_len {lo : Int} {n : Nat} : (rangeL lo n).length = n := by unfold rangeL; rw [List.length_map, List.length_range]
/-! statements -/
theorem v_assoc : seqS (seqS F1 F2) F3 ρ = seqS F1 (seqS F2 F3) ρ := by
  unfold seqS
  cases F1 ρ <;> rfl
theorem v_nx : seqS nextS rest ρ = rest ρ := rfl
theorem v_end : nextS ρ = .nx ρ := rfl
theorem bindS_seq {α : Type} {r : Rs α} {k : α → Ot} : (match bindS r ρ k with
  | .nx ρ1 => rest ρ1
  | o => o) = bindS r ρ fun a => match k a with
  | .nx ρ1 => rest ρ1
  | o => o := by
  cases r <;> rfl
theorem v_asg : seqS (asgS i Fe) rest ρ = bindS (Fe ρ) ρ fun d => rest (ρ.set i (some d)) := bindS_seq
theorem v_drop : seqS (dropS Fe) rest ρ = bindS (Fe ρ) ρ fun _ => rest ρ := bindS_seq
theorem v_ret : seqS (retS Fe) rest ρ = bindS (Fe ρ) ρ fun d => .rt d := bindS_seq
theorem v_retN : seqS retN rest ρ = .rt .non := rfl
theorem v_raise {c : Str} : seqS (raiS c) rest ρ = .ex (c, none) ρ := rfl
theorem v_brk : seqS brkS rest ρ = .bk ρ := rfl
theorem v_cnt : seqS cntS rest ρ = .ct ρ := rfl
def iteS (b : Bool) (F1 F2 rest : Ev → Ot) (ρ : Ev) : Ot := if b = true then seqS F1 rest ρ else seqS F2 rest ρ
theorem v_if : seqS (ifS Ft F1 F2) rest ρ = bindS (Ft ρ) ρ fun b => iteS b F1 F2 rest ρ := by
  refine bindS_seq.trans ?_
  cases Ft ρ with
  | ok b => cases b <;> rfl
  | _ => rfl
theorem v_iteT : iteS true F1 F2 rest ρ = seqS F1 rest ρ := rfl
theorem v_iteF : iteS false F1 F2 rest ρ = seqS F2 rest ρ := rfl
theorem wp_ite {b : Bool} (h : b = true → Post (seqS F1 rest ρ)) (k : b = false → Post (seqS F2 rest ρ)) : Post (iteS b F1 F2 rest ρ) := by
  cases b with
  | true => exact h rfl
  | false => exact k rfl
def asgR (FG : Dt → Ev → Option Ev) (rest : Ev → Ot) (ρ : Ev) (d : Dt) : Ot := match FG d ρ with
  | some ρ' => rest ρ'
  | none => .no
theorem v_asgG : seqS (asgG FG Fe) rest ρ = bindS (Fe ρ) ρ fun d => asgR FG rest ρ d := by
  refine bindS_seq.trans ?_
  congr 1
  funext d
  unfold asgR
  cases FG d ρ <;> rfl
theorem v_asgR {ρ' : Ev} (h : FG d ρ = some ρ') : asgR FG rest ρ d = rest ρ' := by unfold asgR; rw [h]
theorem v_nameG : nameG i d ρ = some (ρ.set i (some d)) := rfl
theorem v_consG {f : Dt → Ev → Option Ev} {fs : List Dt → Ev → Option Ev} {ds : List Dt} : consG f fs (d :: ds) ρ = (f d ρ).bind fun ρ1 => fs ds ρ1 := rfl
theorem v_nilG : nilG [] ρ = some ρ := rfl
theorem v_newF {C f : Str} {ns : List Str} {ds : List Dt} (hf : fix f ns = none) (hl : ns.length < 100) : seqS (newF C f 0 Fe) rest (some (.ins C ns ds) :: ρ) = bindS (Fe (some (.ins C ns ds) :: ρ)) (some (.ins C ns ds) :: ρ) fun y => rest (some (.ins C (ns ++ [f]) (ds ++ [y])) :: ρ) := by
  have e : newF C f 0 Fe (some (.ins C ns ds) :: ρ) = bindS (Fe (some (.ins C ns ds) :: ρ)) (some (.ins C ns ds) :: ρ) fun y => .nx (some (.ins C (ns ++ [f]) (ds ++ [y])) :: ρ) := by
    show (if C = C then newF0 f 0 Fe (some (.ins C ns ds) :: ρ) else .no) = _
    rw [if_pos rfl]
    unfold newF0
    congr 1
    funext y
    show (if fix f ns = none ∧ ns.length < 100 then Ot.nx _ else .no) = _
    rw [if_pos ⟨hf, hl⟩]
    rfl
  unfold seqS
  rw [e]
  exact bindS_seq
theorem v_outI {d : Dt} : outI (.nx (some d :: ρ)) = .ok d := rfl
theorem v_outIX {c : Xn} : outI (.ex c ρ) = .ex c := rfl
def tryR (subs : List (Str × Bool)) (Fh rest : Ev → Ot) (o : Ot) : Ot := match o with
  | .ex c ρ' => (match subs.lookup c.1 with
    | some true => seqS (fun r => noX (Fh r)) rest ρ'
    | some false => .ex c ρ'
    | none => .no)
  | .nx ρ' => rest ρ'
  | o => o
theorem v_try {subs : List (Str × Bool)} {Fb Fh : Ev → Ot} : seqS (tryS subs Fb Fh) rest ρ = tryR subs Fh rest (Fb ρ) := by
  show (match tryS subs Fb Fh ρ with
    | .nx ρ1 => rest ρ1
    | o => o) = _
  unfold tryS tryR
  cases Fb ρ with
  | ex c r =>
    show (match (match subs.lookup c.1 with
      | some true => noX (Fh r)
      | some false => .ex c r
      | none => .no) with
      | .nx ρ1 => rest ρ1
      | o => o) = (match subs.lookup c.1 with
      | some true => seqS (fun r => noX (Fh r)) rest r
      | some false => .ex c r
      | none => .no)
    cases subs.lookup c.1 with
    | none => rfl
    | some b => cases b <;> rfl
  | _ => rfl
theorem v_tryN {subs : List (Str × Bool)} {Fh : Ev → Ot} : tryR subs Fh rest (.nx ρ) = rest ρ := rfl
theorem v_tryT {subs : List (Str × Bool)} {Fh : Ev → Ot} {c : Xn} (h : subs.lookup c.1 = some true) : tryR subs Fh rest (.ex c ρ) = seqS (fun r => noX (Fh r)) rest ρ := by
  unfold tryR
  simp only [h]
theorem v_tryF {subs : List (Str × Bool)} {Fh : Ev → Ot} {c : Xn} (h : subs.lookup c.1 = some false) : tryR subs Fh rest (.ex c ρ) = .ex c ρ := by
  unfold tryR
  simp only [h]
theorem v_tryRt {subs : List (Str × Bool)} {Fh : Ev → Ot} : tryR subs Fh rest (.rt d) = .rt d := rfl
/-! places -/
def appR (rest : Ev → Ot) (y : Dt) (x : Dt × (Dt → Ev)) : Ot := match x.1 with
  | .lst ds => if lenSz ds.length = true then rest (x.2 (.lst (ds ++ [y]))) else .no
  | _ => .no
theorem v_app {Fp : Ev → Rs (Dt × (Dt → Ev))} : seqS (appS Fp Fe) rest ρ = bindS (Fp ρ) ρ fun x => bindS (lstOf x.1) ρ fun _ => bindS (Fe ρ) ρ fun y => appR rest y x := by
  refine bindS_seq.trans ?_
  congr 1
  funext x
  obtain ⟨a, p⟩ := x
  cases a with
  | lst ds =>
    show (match bindS (Fe ρ) ρ (fun y => if lenSz ds.length = true then Ot.nx (p (.lst (ds ++ [y]))) else .no) with
      | .nx ρ1 => rest ρ1
      | o => o) = _
    rw [bindS_seq]
    show _ = bindS (Fe ρ) ρ fun y => appR rest y (.lst ds, p)
    congr 1
    funext y
    show _ = if lenSz ds.length = true then rest (p (.lst (ds ++ [y]))) else .no
    cases lenSz ds.length <;> rfl
  | _ => rfl
theorem v_lstOf {ds : List Dt} : lstOf (.lst ds) = .ok ds := rfl
theorem v_appR {ds : List Dt} {p : Dt → Ev} {y : Dt} (h : lenSz ds.length = true) : appR rest y (.lst ds, p) = rest (p (.lst (ds ++ [y]))) := if_pos h
theorem v_varP0 : varP 0 (some d :: ρ) = .ok (d, fun x => some x :: ρ) := rfl
theorem v_varPS {y : Option Dt} : varP (i + 1) (y :: ρ) = (varP i ρ >>= fun p => .ok (p.1, fun x => y :: p.2 x)) := by
  unfold varP
  rw [List.getElem?_cons_succ]
  cases ρ[i]? with
  | none => rfl
  | some o => cases o <;> rfl
def setR (rest : Ev → Ot) (y : Dt) (x : Dt × (Dt → Ev)) (k : Dt) : Ot := match x.1, k with
  | .lst ds, .int i => (match ixN ds.length i with
    | some j => rest (x.2 (.lst (ds.set j y)))
    | none => .no)
  | _, _ => .no
theorem v_set {Fp : Ev → Rs (Dt × (Dt → Ev))} : seqS (setS Fe Fp Fa) rest ρ = bindS (Fe ρ) ρ fun y => bindS (Fp ρ) ρ fun x => bindS (Fa ρ) ρ fun k => setR rest y x k := by
  refine bindS_seq.trans ?_
  congr 1
  funext y
  rw [bindS_seq]
  congr 1
  funext x
  rw [bindS_seq]
  congr 1
  funext k
  obtain ⟨a, p⟩ := x
  cases a with
  | lst ds =>
    cases k with
    | int n =>
      show _ = (match ixN ds.length n with
        | some j => rest (p (.lst (ds.set j y)))
        | none => .no)
      show (match (match ixN ds.length n with
        | some j => Ot.nx (p (.lst (ds.set j y)))
        | none => .no) with
        | .nx ρ1 => rest ρ1
        | o => o) = _
      cases ixN ds.length n <;> rfl
    | _ => rfl
  | _ => cases k <;> rfl
theorem v_setR {ds : List Dt} {p : Dt → Ev} {y : Dt} {k : Nat} (h : k < ds.length) : setR rest y (.lst ds, p) (.int (k : Int)) = rest (p (.lst (ds.set k y))) := by
  have e : ixN ds.length (k : Int) = some k := by
    unfold ixN
    first | simp; omega | simp [h]
  show (match ixN ds.length (k : Int) with
    | some j => rest (p (.lst (ds.set j y)))
    | none => .no) = _
  rw [e]
/-! loops -/
def forR (FG : Dt → Ev → Option Ev) (Fb rest : Ev → Ot) (ds : List Dt) (ρ : Ev) : Ot := match forL FG Fb ds ρ with
  | .nx ρ1 => rest ρ1
  | o => o
theorem v_for : seqS (forS Fi FG F1) rest ρ = bindS (Fi ρ) ρ fun ds => forR FG F1 rest ds ρ := bindS_seq
def LoopP (Post : Ot → Prop) (rest : Ev → Ot) (I : Ev → Prop) (o : Ot) : Prop := match o with
  | .nx ρ2 => I ρ2
  | .ct ρ2 => I ρ2
  | .bk ρ2 => Post (rest ρ2)
  | .no => False
  | o => Post o
theorem forR_cons {ds : List Dt} {ρ1 : Ev} (h1 : FG d ρ = some ρ1) : forR FG F1 rest (d :: ds) ρ = (match F1 ρ1 with
  | .nx r => forR FG F1 rest ds r
  | .ct r => forR FG F1 rest ds r
  | .bk r => rest r
  | o => o) := by
  unfold forR
  simp only [forL, h1]
  cases F1 ρ1 <;> rfl
theorem wp_for {ds : List Dt} (I : Nat → Ev → Prop) (h0 : I 0 ρ) (hs : ∀ n d ρ, ds[n]? = some d → I n ρ → ∃ ρ1, FG d ρ = some ρ1 ∧ LoopP Post rest (I (n + 1)) (F1 ρ1)) (hk : ∀ ρ', I ds.length ρ' → Post (rest ρ')) : Post (forR FG F1 rest ds ρ) := by
  have main : ∀ (es : List Dt) (n : Nat) (ρ : Ev), ds.drop n = es → n ≤ ds.length → I n ρ → Post (forR FG F1 rest es ρ) := by
    intro es
    induction es with
    | nil =>
      intro n ρ hd hn hI
      have : n = ds.length := by
        have := congrArg List.length hd
        rw [List.length_drop] at this
        simp at this
        omega
      subst this
      exact hk ρ hI
    | cons e es ih =>
      intro n ρ hd hn hI
      have hlt : n < ds.length := by
        have := congrArg List.length hd
        rw [List.length_drop] at this
        simp at this
        omega
      have hd2 := List.drop_eq_getElem_cons hlt
      rw [hd] at hd2
      have he : ds[n]? = some e := by
        rw [List.getElem?_eq_getElem hlt]
        exact congrArg some (List.cons.inj hd2).1.symm
      obtain ⟨ρ1, h1, h2⟩ := hs n e ρ he hI
      have nxt := fun ρ2 (q : I (n + 1) ρ2) => ih (n + 1) ρ2 (List.cons.inj hd2).2.symm hlt q
      rw [forR_cons h1]
      cases q : F1 ρ1 with
      | nx r => rw [q] at h2; exact nxt r h2
      | ct r => rw [q] at h2; exact nxt r h2
      | bk r => rw [q] at h2; exact h2
      | rt r => rw [q] at h2; exact h2
      | ex c r => rw [q] at h2; exact h2
      | no => rw [q] at h2; exact h2.elim
  exact main ds 0 ρ rfl (Nat.zero_le _) h0
theorem bindS_ex {α : Type} {c : Xn} {k : α → Ot} : bindS (.ex c) ρ k = .ex c ρ := rfl
theorem v_outR {m : Mode} : outF m (.rt d) = .ok d := rfl
theorem v_outX {m : Mode} {c : Xn} : outF m (.ex c ρ) = .ex c := rfl
theorem v_outN : outF .F (.nx ρ) = .ok .non := rfl
end
theorem sIx_nat {len : Nat} {dflt : Nat} (k : Nat) : HT.sIx len dflt (some (k : Int)) = min k len := by
  unfold HT.sIx
  simp
  omega
theorem cut_take {α : Type} {xs : List α} (k : Nat) : cutL xs none (some (k : Int)) = xs.take k := by
  unfold cutL
  rw [sIx_nat]
  show (xs.drop 0).take (min k xs.length - 0) = _
  rw [List.drop_zero, Nat.sub_zero, ← List.take_take, List.take_length]
theorem v_eqS {a b : Str} (ha : eqOK (.str a) = true) (hb : eqOK (.str b) = true) : eqD (.str a) (.str b) = .ok (.bl (decide (a = b))) := by
  unfold eqD
  rw [ha, hb]
  rfl
theorem v_neS {a b : Str} (ha : eqOK (.str a) = true) (hb : eqOK (.str b) = true) : neD (.str a) (.str b) = .ok (.bl (!decide (a = b))) := by
  unfold neD
  rw [ha, hb]
  rfl
theorem v_isI {a : Int} : isiD .int (.int a) = .ok (.bl true) := rfl
theorem v_isIB {a : Int} : isiD .bool (.int a) = .ok (.bl false) := rfl
section
variable {ρ : Ev} {d : Dt} {Fa Fb : Ev → Rs Dt}
theorem v_divmod : divmodE Fa Fb ρ = (Fa ρ >>= fun a => Fb ρ >>= fun b => dvmD a b) := rfl
theorem dvmOk_of {b : Int} (h : 0 < b) (h2 : b < 1073741824) : dvmOk b = true := by
  unfold dvmOk
  rw [decide_eq_true h, decide_eq_true h2]
  rfl
theorem v_dvm {i j : Int} (h : dvmOk j = true) : dvmD (.int i) (.int j) = .ok (.tup [.int (i / j), .int (i % j)]) := if_pos h
theorem v_tupRev : tupRevE Fa ρ = (Fa ρ >>= trevD) := rfl
theorem v_trev {ds : List Dt} : trevD (.lst ds) = .ok (.tup ds.reverse) := rfl
theorem v_lrev : lrevE Fa ρ = (Fa ρ >>= lrevD) := rfl
theorem v_lrevL {ds : List Dt} : lrevD (.lst ds) = .ok (.lst ds.reverse) := rfl
theorem v_dnew : dnewE ρ = .ok (.dic [] []) := rfl
theorem v_dnewT : dnewTE ρ = .ok (.dit [] []) := rfl
theorem v_din {neg : Bool} : dinE neg Fa Fb ρ = (Fa ρ >>= fun k => Fb ρ >>= fun d => dgetD d k >>= fun o => .ok (.bl (if neg = true then !o.isSome else o.isSome))) := rfl
theorem v_dget : dgetE Fa Fb ρ = (Fa ρ >>= fun d => Fb ρ >>= fun k => dgetD d k >>= fun o => match o with | some e => .ok e | none => .no) := rfl
theorem v_scalE : scalE Fa ρ = (Fa ρ >>= fun d => if scal d = true then .ok d else .no) := rfl
theorem v_dlen : dlenE Fa ρ = (Fa ρ >>= dlenD) := rfl
theorem v_dlenT : dlenTE Fa ρ = (Fa ρ >>= dlenTD) := rfl
theorem v_dlenD {ks : List Key} {ds : List Dt} : dlenD (.dic ks ds) = .ok (.int ks.length) := rfl
theorem v_dlenTD {ks : List (List Key)} {ds : List Dt} : dlenTD (.dit ks ds) = .ok (.int ks.length) := rfl
theorem v_dgetI {ks : List Key} {ds : List Dt} {i : Int} : dgetD (.dic ks ds) (.int i) = .ok (lookK ks ds (.inl i)) := rfl
theorem v_dgetS {ks : List Key} {ds : List Dt} {x : Str} : dgetD (.dic ks ds) (.str x) = .ok (lookK ks ds (.inr x)) := rfl
def dputR (rest : Ev → Ot) (y : Dt) (x : Dt × (Dt → Ev)) (k : Dt) : Ot := match dputD x.1 k y with
  | some d => rest (x.2 d)
  | none => .no
theorem v_dput {Fp : Ev → Rs (Dt × (Dt → Ev))} {Fk : Ev → Rs Dt} {rest : Ev → Ot} : seqS (dputS Fa Fp Fk) rest ρ = bindS (Fa ρ) ρ fun y => bindS (Fp ρ) ρ fun x => bindS (Fk ρ) ρ fun k => dputR rest y x k := by
  refine bindS_seq.trans ?_
  congr 1
  funext y
  rw [bindS_seq]
  congr 1
  funext x
  rw [bindS_seq]
  congr 1
  funext k
  unfold dputR
  cases dputD x.1 k y <;> rfl
end
end Pm
namespace Pm
open PySem PySem.Spec L2
/-! ### reckoning, with conditions that omega shows -/
section
variable {ρ : Ev} {d a b c : Dt} {i j : Nat} {Fa Fb Fc Fe : Ev → Rs Dt} {Fs : List (Ev → Rs Dt)} {Ft Fu : Ev → Rs Bool} {F1 F2 F3 rest : Ev → Ot} {Post : Ot → Prop} {FG : Dt → Ev → Option Ev} {Fi : Ev → Rs (List Dt)} {ds es : List Dt} {vs : List Nat}
theorem v_fgt : fgtS vs F1 ρ = F1 (wipeE ρ vs) := rfl
def optR {α : Type} (o : Option α) : Rs α := match o with
  | some x => .ok x
  | none => .no
theorem x_optS {α : Type} {x : α} : optR (some x) = .ok x := rfl
theorem atI_natO {α : Type} {xs : List α} {k : Nat} : atI xs (k : Int) = xs[k]? := by
  cases h : xs[k]? with
  | some x => exact atI_nat h
  | none =>
    have hk : xs.length ≤ k := List.getElem?_eq_none_iff.mp h
    have e : ixN xs.length (k : Int) = none := by
      unfold ixN
      first | simp; omega | simp [hk]
    unfold atI
    rw [e]
    rfl
theorem atI_intO {α : Type} {xs : List α} {k : Int} (h : 0 ≤ k) : atI xs k = xs[k.toNat]? := by
  have := atI_natO (xs := xs) (k := k.toNat)
  rwa [Int.toNat_of_nonneg h] at this
theorem atI_last {α : Type} {xs : List α} : atI xs (-1) = xs.getLast? := by
  have e : ixN xs.length (-1) = if xs.length = 0 then none else some (xs.length - 1) := by
    unfold ixN
    by_cases h : xs.length = 0
    · rw [if_pos h]
      first | simp [h] | simp; omega
    · rw [if_neg h]
      first | simp; omega | simp [h]
  unfold atI
  rw [e]
  by_cases h : xs.length = 0
  · rw [if_pos h]
    have : xs = [] := List.eq_nil_of_length_eq_zero h
    subst this
    rfl
  · rw [if_neg h, List.getLast?_eq_getElem?]
    rfl
theorem x_ixL : ixD (.lst ds) (.int k) = optR (atI ds k) := by
  show (match atI ds k with | some d => (Rs.ok d : Rs Dt) | none => .no) = _
  cases atI ds k <;> rfl
theorem x_ixT {k : Int} : ixD (.tup ds) (.int k) = optR (atI ds k) := by
  show (match atI ds k with | some d => (Rs.ok d : Rs Dt) | none => .no) = _
  cases atI ds k <;> rfl
theorem x_ixC {k : Int} : ixD (.scr ds) (.int k) = optR (atI ds k) := by
  show (match atI ds k with | some d => (Rs.ok d : Rs Dt) | none => .no) = _
  cases atI ds k <;> rfl
theorem x_ixLn {k : Nat} : ixD (.lst ds) (.int (k : Nat)) = optR ds[k]? := by rw [x_ixL, atI_natO]
theorem x_ixTn {k : Nat} : ixD (.tup ds) (.int (k : Nat)) = optR ds[k]? := by rw [x_ixT, atI_natO]
theorem x_ixCn {k : Nat} : ixD (.scr ds) (.int (k : Nat)) = optR ds[k]? := by rw [x_ixC, atI_natO]
theorem x_ixLm : ixD (.lst ds) (.int (-1)) = optR ds.getLast? := by rw [x_ixL, atI_last]
theorem x_ixTm : ixD (.tup ds) (.int (-1)) = optR ds.getLast? := by rw [x_ixT, atI_last]
theorem x_ixLi {k : Int} (h : 0 ≤ k) : ixD (.lst ds) (.int k) = optR ds[k.toNat]? := by rw [x_ixL, atI_intO h]
theorem x_ixTi {k : Int} (h : 0 ≤ k) : ixD (.tup ds) (.int k) = optR ds[k.toNat]? := by rw [x_ixT, atI_intO h]
theorem x_ixCi {k : Int} (h : 0 ≤ k) : ixD (.scr ds) (.int k) = optR ds[k.toNat]? := by rw [x_ixC, atI_intO h]
theorem x_t0 : ixD (.tup (a :: ds)) (.int 0) = .ok a := v_ixT (atI_nat (k := 0) rfl)
theorem x_t1 : ixD (.tup (a :: b :: ds)) (.int 1) = .ok b := v_ixT (atI_nat (k := 1) rfl)
theorem x_t2 : ixD (.tup (a :: b :: c :: ds)) (.int 2) = .ok c := v_ixT (atI_nat (k := 2) rfl)
theorem x_t3 : ixD (.tup (a :: b :: c :: d :: ds)) (.int 3) = .ok d := v_ixT (atI_nat (k := 3) rfl)
theorem x_l0 : ixD (.lst (a :: ds)) (.int 0) = .ok a := v_ixL (atI_nat (k := 0) rfl)
theorem x_mulA {x y : Int} (h1 : -9000000000000000000 ≤ x) (h2 : x ≤ 9000000000000000000) : mulI x y = .ok (.int (x * y)) := v_mulL (smallI_of h1 h2)
theorem x_mulB {x y : Int} (h1 : -9000000000000000000 ≤ y) (h2 : y ≤ 9000000000000000000) : mulI x y = .ok (.int (x * y)) := v_mulR (smallI_of h1 h2)
theorem x_divA {x y : Int} (h1 : 0 < y) (h2 : y < 1000000000000000000000000000000000000000000000000000000000000) : divI x y = .ok (.int (x / y)) := v_divI (divOk_of h1 h2)
theorem x_dvmA {x y : Int} (h1 : 0 < y) (h2 : y < 1073741824) : dvmD (.int x) (.int y) = .ok (.tup [.int (x / y), .int (x % y)]) := v_dvm (dvmOk_of h1 h2)
theorem x_modA {x y : Int} (h1 : 0 < y) : modI x y = .ok (.int (x % y)) := v_modI h1
theorem x_appA {p : Dt → Ev} {y : Dt} (h : ds.length ≤ 1000000) : appR rest y (.lst ds, p) = rest (p (.lst (ds ++ [y]))) := v_appR (lenSz_of h)
theorem x_setA {p : Dt → Ev} {y : Dt} {k : Nat} (h : k < ds.length) : setR rest y (.lst ds, p) (.int (k : Nat)) = rest (p (.lst (ds.set k y))) := v_setR h
theorem x_rngA1 {x : Int} (h : -1000000000 ≤ x) (h2 : x ≤ 1000000000) : rngD [.int x] = .ok (rangeL 0 x.toNat) := v_rngD1 (intSz_of h h2)
theorem x_rngA2 {x y : Int} (h : -1000000000 ≤ x) (h2 : x ≤ 1000000000) (h3 : -1000000000 ≤ y) (h4 : y ≤ 1000000000) : rngD [.int x, .int y] = .ok (rangeL x (y - x).toNat) := v_rngD2 (by rw [intSz_of h h2, intSz_of h3 h4]; rfl)
theorem x_plusA (h : ds.length + es.length ≤ 1000000) : plusD (.lst ds) (.lst es) = .ok (.lst (ds ++ es)) := v_plusL (lenSz_of h)
theorem x_plusT (h : ds.length + es.length ≤ 1000000) : plusD (.tup ds) (.tup es) = .ok (.tup (ds ++ es)) := v_plusT (lenSz_of h)
theorem x_catA (h : ds.length + es.length ≤ 1000000) : catD (.lst ds) (.lst es) = .ok (.lst (ds ++ es)) := v_catL (lenSz_of h)
section
variable {ρ : Ev} {d : Dt} {i j : Nat} {m : Mode} {Fa Fb Fe : Ev → Rs Dt} {Fs : List (Ev → Rs Dt)} {rest : Ev → Ot} {Fn : List Dt → Rs Dt} {Fp : Ev → Rs (Dt × (Dt → Ev))} {ds : List Dt}
theorem v_ltT : ltTE Fa Fb ρ = (Fa ρ >>= fun a => Fb ρ >>= fun b => tupLtD a b) := rfl
theorem v_gtT : gtTE Fa Fb ρ = (Fa ρ >>= fun a => Fb ρ >>= fun b => tupLtD b a) := rfl
theorem v_sortN : sortNE Fa ρ = (Fa ρ >>= sortND) := rfl
theorem v_sortI : sortIE Fa ρ = (Fa ρ >>= sortID) := rfl
theorem v_sortP : sortPE Fa ρ = (Fa ρ >>= sortPD) := rfl
theorem v_int1 : intE Fa ρ = (Fa ρ >>= intD) := rfl
theorem v_intI {a : Int} : intD (.int a) = .ok (.int a) := rfl
theorem v_intB {b : Bool} : intD (.bl b) = .ok (.int (if b = true then 1 else 0)) := rfl
theorem v_bm1 {g : List Dt → Dt → Rs Dt} : bm1E g Fa Fb ρ = (Fa ρ >>= fun a => lstOf a >>= fun ds => Fb ρ >>= fun b => g ds b) := rfl
theorem v_index : indexE Fa Fb ρ = (Fa ρ >>= fun a => lstOf a >>= fun ds => Fb ρ >>= fun b => indexD ds b) := rfl
theorem v_count : countE Fa Fb ρ = (Fa ρ >>= fun a => lstOf a >>= fun ds => Fb ρ >>= fun b => countD ds b) := rfl
theorem v_isCE {C : Str} : isCE C Fa ρ = (Fa ρ >>= isCD C) := rfl
theorem v_isBE {c : Bool} : isBE c Fa ρ = (Fa ρ >>= isBD c) := rfl
theorem v_isxT {tabs : List (List (Str × Bool))} {c : Str} : isxTE tabs c ρ = (match tabs.mapM fun t => t.lookup c with
  | some bs => .ok (.bl (bs.any id))
  | none => .no) := rfl
/-! try .. except X as n -/
def clrR (i : Nat) (rest : Ev → Ot) (o : Ot) : Ot := match o with
  | .nx ρ => rest (ρ.set i none)
  | .bk ρ => .bk (ρ.set i none)
  | .ct ρ => .ct (ρ.set i none)
  | .rt d => .rt d
  | _ => .no
def tryAR (i : Nat) (subs : List (Str × Bool)) (Fh : Str → Ev → Ot) (rest : Ev → Ot) (o : Ot) : Ot := match o with
  | .ex c ρ' => (match subs.lookup c.1 with
    | some true => (match c.2 with
      | none => clrR i rest (Fh c.1 (ρ'.set i none))
      | some _ => .no)
    | some false => .ex c ρ'
    | none => .no)
  | .nx ρ' => rest ρ'
  | o => o
theorem v_tryA {i : Nat} {subs : List (Str × Bool)} {Fb : Ev → Ot} {Fh : Str → Ev → Ot} : seqS (tryA i subs Fb Fh) rest ρ = tryAR i subs Fh rest (Fb ρ) := by
  show (match tryA i subs Fb Fh ρ with
    | .nx ρ1 => rest ρ1
    | o => o) = _
  unfold tryA tryAR
  cases Fb ρ with
  | ex c r =>
    obtain ⟨c1, c2⟩ := c
    dsimp only
    cases subs.lookup c1 with
    | none => rfl
    | some b =>
      cases b with
      | false => rfl
      | true =>
        cases c2 with
        | some _ => rfl
        | none =>
          dsimp only
          cases Fh c1 (r.set i none) <;> rfl
  | _ => rfl
theorem v_tryAN {i : Nat} {subs : List (Str × Bool)} {Fh : Str → Ev → Ot} : tryAR i subs Fh rest (.nx ρ) = rest ρ := rfl
theorem v_tryART {i : Nat} {subs : List (Str × Bool)} {Fh : Str → Ev → Ot} : tryAR i subs Fh rest (.rt d) = .rt d := rfl
theorem x_tryA {i : Nat} {subs : List (Str × Bool)} {Fh : Str → Ev → Ot} {c : Str} (h : subs.lookup c = some true) : tryAR i subs Fh rest (.ex (c, none) ρ) = clrR i rest (Fh c (ρ.set i none)) := by
  unfold tryAR
  simp only [h]
theorem v_clrN {i : Nat} : clrR i rest (.nx ρ) = rest (ρ.set i none) := rfl
theorem v_clrRt {i : Nat} : clrR i rest (.rt d) = .rt d := rfl
def noXR (rest : Ev → Ot) (o : Ot) : Ot := match noX o with
  | .nx ρ1 => rest ρ1
  | o => o
theorem x_tryT {subs : List (Str × Bool)} {Fh : Ev → Ot} {c : Str} (h : subs.lookup c = some true) : tryR subs Fh rest (.ex (c, none) ρ) = noXR rest (Fh ρ) := v_tryT h
theorem x_tryF {subs : List (Str × Bool)} {Fh : Ev → Ot} {c : Str} (h : subs.lookup c = some false) : tryR subs Fh rest (.ex (c, none) ρ) = .ex (c, none) ρ := v_tryF h
theorem v_noXN : noXR rest (.nx ρ) = rest ρ := rfl
theorem v_noXRt : noXR rest (.rt d) = .rt d := rfl
theorem v_fgtSeq : seqS (fgtS vs F1) rest ρ = seqS F1 rest (wipeE ρ vs) := rfl
theorem v_inDt : inDE Fa Fb ρ = (Fa ρ >>= fun a => Fb ρ >>= fun b => inDD a b) := rfl
theorem v_callL : callLE m Fn Fs ρ = (argsE Fs ρ >>= fun ds => leafR m (Fn ds)) := rfl
theorem v_methL {C mm : Str} : methLE m C mm Fn Fa Fs ρ = (Fa ρ >>= fun s => noMeth C mm s >>= fun _ => argsE Fs ρ >>= fun ds => leafR m (Fn (s :: ds))) := rfl
theorem v_leafR : leafR m (.ok d) = if leafOk m d = true then .ok d else .no := rfl
theorem v_pop : seqS (popS Fp Fe) rest ρ = bindS (Fp ρ) ρ fun x => bindS (lstOf x.1) ρ fun ds => bindS (Fe ρ) ρ fun k => bindS (popD ds k) ρ fun y => rest (x.2 (.lst y.2)) := by
  refine bindS_seq.trans ?_
  congr 1; funext x
  rw [bindS_seq]
  congr 1; funext ds
  rw [bindS_seq]
  congr 1; funext k
  rw [bindS_seq]
theorem v_asgPop : seqS (asgPopS i Fp Fe) rest ρ = bindS (Fp ρ) ρ fun x => bindS (lstOf x.1) ρ fun ds => bindS (Fe ρ) ρ fun k => bindS (popD ds k) ρ fun y => rest ((x.2 (.lst y.2)).set i (some y.1)) := by
  refine bindS_seq.trans ?_
  congr 1; funext x
  rw [bindS_seq]
  congr 1; funext ds
  rw [bindS_seq]
  congr 1; funext k
  rw [bindS_seq]
def appPopR (rest : Ev → Ot) (b : Bool) (ρ1 : Ev) : Ot := if b = true then rest ρ1 else .no
theorem v_appPop : seqS (appPopS Fp j Fe) rest ρ = bindS (Fp ρ) ρ fun x => bindS (lstOf x.1) ρ fun ds => bindS (varE j ρ) ρ fun q => bindS (lstOf q) ρ fun xs => bindS (Fe ρ) ρ fun k => bindS (popD xs k) ρ fun y =>
  bindS (varE j (x.2 (.lst (ds ++ [y.1])))) ρ fun q2 => bindS (lstOf q2) ρ fun xs2 => bindS (popD xs2 k) ρ fun y2 => appPopR rest (lenSz ds.length && decide (xs2.length = xs.length)) ((x.2 (.lst (ds ++ [y.1]))).set j (some (.lst y2.2))) := by
  refine bindS_seq.trans ?_
  congr 1; funext x
  rw [bindS_seq]
  congr 1; funext ds
  rw [bindS_seq]
  congr 1; funext q
  rw [bindS_seq]
  congr 1; funext xs
  rw [bindS_seq]
  congr 1; funext k
  rw [bindS_seq]
  congr 1; funext y
  rw [bindS_seq]
  congr 1; funext q2
  rw [bindS_seq]
  congr 1; funext xs2
  rw [bindS_seq]
  congr 1; funext y2
  unfold appPopR
  cases lenSz ds.length && decide (xs2.length = xs.length) <;> rfl
theorem x_appPop {n : Nat} {ρ1 : Ev} (h : n ≤ 1000000) : appPopR rest (lenSz n && true) ρ1 = rest ρ1 := by
  unfold appPopR
  rw [lenSz_of h]
  rfl
theorem x_appPop2 {n : Nat} {ρ1 : Ev} (h : n ≤ 1000000) : appPopR rest (lenSz n) ρ1 = rest ρ1 := by
  unfold appPopR
  rw [lenSz_of h]
  rfl
end
section
variable {ρ : Ev} {Fa : Ev → Rs Dt}
def lrngD (d : Dt) : Rs Dt := match d with
  | .int j => if intSz j = true then (if lenSz j.toNat = true then .ok (.lst (rangeL 0 j.toNat)) else .no) else .no
  | _ => .no
theorem v_lrng1 : lrng1E Fa ρ = (Fa ρ >>= lrngD) := rfl
theorem x_lrng {j : Int} (h : -1000000 ≤ j) (h2 : j ≤ 1000000) : lrngD (.int j) = .ok (.lst (rangeL 0 j.toNat)) := (if_pos (intSz_of (by omega) (by omega))).trans (if_pos (lenSz_of (by omega)))
end
/-! ### places -/
section
variable {ρ : Ev} {d e : Dt} {i j k : Nat} {Fi : Ev → Rs Dt} {Fp : Ev → Rs (Dt × (Dt → Ev))} {ds es : List Dt} {put : Dt → Ev} {C f : Str}
def ixPR (x : Dt × (Dt → Ev)) (k : Dt) : Rs (Dt × (Dt → Ev)) := match x.1, k with
  | .lst ds, .int i => (match ixN ds.length i with
    | some j => (match ds[j]? with
      | some e => .ok (e, fun y => x.2 (.lst (ds.set j y)))
      | none => .no)
    | none => .no)
  | _, _ => .no
theorem v_ixP : ixP Fp Fi ρ = (Fp ρ >>= fun x => Fi ρ >>= fun k => ixPR x k) := rfl
theorem x_ixPl : ixPR (.lst (es ++ [e]), put) (.int (-1)) = .ok (e, fun y => put (.lst (es ++ [y]))) := by
  have e1 : ixN (es ++ [e]).length (-1) = some es.length := by
    unfold ixN
    rw [if_neg (by decide), if_pos (by rw [List.length_append, List.length_singleton]; omega), List.length_append, List.length_singleton]
    congr 1
    omega
  show (match ixN (es ++ [e]).length (-1) with
    | some j => (match (es ++ [e])[j]? with
      | some e' => Rs.ok (e', fun y => put (.lst ((es ++ [e]).set j y)))
      | none => .no)
    | none => .no) = _
  rw [e1]
  simp
def tixR (j : Nat) (x : Dt × (Dt → Ev)) : Rs (Dt × (Dt → Ev)) := match x.1 with
  | .tup ds => (match ds[j]? with
    | some e => .ok (e, fun y => x.2 (.tup (ds.set j y)))
    | none => .no)
  | _ => .no
theorem v_tixP : tixP j Fp ρ = (Fp ρ >>= tixR j) := rfl
theorem x_tix0 {a b : Dt} : tixR 0 (.tup [a, b], put) = .ok (a, fun y => put (.tup [y, b])) := rfl
theorem x_tix1 {a b : Dt} : tixR 1 (.tup [a, b], put) = .ok (b, fun y => put (.tup [a, y])) := rfl
def fldPR (C f : Str) (j : Nat) (x : Dt × (Dt → Ev)) : Rs (Dt × (Dt → Ev)) := match x.1 with
  | .ins C' ns ds => if C' = C ∧ fix f ns = some j then (match ds[j]? with
    | some e => .ok (e, fun y => x.2 (.ins C' ns (ds.set j y)))
    | none => .no) else .no
  | _ => .no
theorem v_fldP : fldP C f j Fp ρ = (Fp ρ >>= fldPR C f j) := rfl
end
/-! ### more changes of lists -/
section
variable {ρ : Ev} {d e : Dt} {Fe : Ev → Rs Dt} {Fs : List (Ev → Rs Dt)} {rest : Ev → Ot} {Fp : Ev → Rs (Dt × (Dt → Ev))} {ds es : List Dt} {put : Dt → Ev} {f : List Dt → List Dt}
def chgR (rest : Ev → Ot) (put : Dt → Ev) (o : Option (List Dt)) : Ot := match o with
  | some es => rest (put (.lst es))
  | none => .no
theorem v_ext : seqS (extS Fp Fe) rest ρ = bindS (Fp ρ) ρ fun x => bindS (lstOf x.1) ρ fun ds => bindS (Fe ρ) ρ fun e => chgR rest x.2 (extD ds e) := by
  refine bindS_seq.trans ?_
  congr 1; funext x
  obtain ⟨a, p⟩ := x
  cases a with
  | lst ds =>
    refine bindS_seq.trans ?_
    show _ = bindS (Fe ρ) ρ fun e => chgR rest p (extD ds e)
    congr 1; funext e
    unfold chgR
    cases extD ds e <;> rfl
  | _ => rfl
theorem x_ext (h : ds.length + es.length ≤ 1000000) : chgR rest put (extD ds (.lst es)) = rest (put (.lst (ds ++ es))) := by
  show chgR rest put (if lenSz (ds.length + es.length) = true then some (ds ++ es) else none) = _
  rw [if_pos (lenSz_of h)]
  rfl
theorem v_ins : seqS (insS Fp Fs) rest ρ = bindS (Fp ρ) ρ fun x => bindS (lstOf x.1) ρ fun ds => bindS (argsE Fs ρ) ρ fun as => chgR rest x.2 (insD ds as) := by
  refine bindS_seq.trans ?_
  congr 1; funext x
  obtain ⟨a, p⟩ := x
  cases a with
  | lst ds =>
    refine bindS_seq.trans ?_
    show _ = bindS (argsE Fs ρ) ρ fun as => chgR rest p (insD ds as)
    congr 1; funext e
    unfold chgR
    cases insD ds e <;> rfl
  | _ => rfl
theorem x_ins {i : Int} (h : ds.length ≤ 1000000) (h0 : 0 ≤ i) (h1 : i ≤ 1000000000) : chgR rest put (insD ds [.int i, e]) = rest (put (.lst (ds.take i.toNat ++ [e] ++ ds.drop i.toNat))) := by
  show chgR rest put (if (lenSz ds.length && (decide (0 ≤ i) && intSz i)) = true then some (ds.take i.toNat ++ [e] ++ ds.drop i.toNat) else none) = _
  rw [if_pos (by rw [lenSz_of h, decide_eq_true h0, intSz_of (by omega) h1]; rfl)]
  rfl
theorem v_chg0 : seqS (chg0S f Fp) rest ρ = bindS (Fp ρ) ρ fun x => bindS (lstOf x.1) ρ fun ds => rest (x.2 (.lst (f ds))) := by
  refine bindS_seq.trans ?_
  congr 1; funext x
  obtain ⟨a, p⟩ := x
  cases a <;> rfl
end
/-! ### fields -/
theorem fldD_of {C f : Str} {j : Nat} {ns : List Str} {ds : List Dt} {d : Dt} (hf : fix f ns = some j) (hd : ds[j]? = some d) : fldD C f (.ins C ns ds) = .ok d := by
  show (if C = C then (match fix f ns with
      | some j => (match ds[j]? with | some e => Rs.ok e | none => .no)
      | none => .no) else .no) = _
  rw [if_pos rfl, hf]
  simp only [hd]
theorem noMeth_of {C m : Str} {ns : List Str} {ds : List Dt} (hf : fix m ns = none) : noMeth C m (.ins C ns ds) = .ok (.ins C ns ds) := if_pos ⟨rfl, hf⟩
theorem x_nnN : isNonD .non = true := rfl
theorem x_nnT {ds : List Dt} : isNonD (.tup ds) = false := rfl
theorem x_nnL {ds : List Dt} : isNonD (.lst ds) = false := rfl
theorem x_nnI {i : Int} : isNonD (.int i) = false := rfl
theorem x_nnS {s : Str} : isNonD (.str s) = false := rfl
theorem x_nnB {b : Bool} : isNonD (.bl b) = false := rfl
theorem x_tyT {ds : List Dt} : isiD .tuple (.tup ds) = .ok (.bl true) := rfl
theorem x_tyTL {ds : List Dt} : isiD .tuple (.lst ds) = .ok (.bl false) := rfl
theorem x_tyL {ds : List Dt} : isiD .list (.lst ds) = .ok (.bl true) := rfl
theorem x_tyLT {ds : List Dt} : isiD .list (.tup ds) = .ok (.bl false) := rfl
theorem x_tyS {s : Str} : isiD .str (.str s) = .ok (.bl true) := rfl
/-! ### lists without doubles -/
/-! ### dicts of ints -/
section
variable {α : Type} {kv : List (Int × α)} {f : α → Dt} {x : Int} {a : α} {rest : Ev → Ot} {p : Dt → Ev}
def dicI (kv : List (Int × α)) (f : α → Dt) : Dt := .dic (kv.map fun q => Sum.inl q.1) (kv.map fun q => f q.2)
theorem lookK_kv : ∀ kv : List (Int × α), lookK (kv.map fun q => (Sum.inl q.1 : Key)) (kv.map fun q => f q.2) (.inl x) = (kv.lookup x).map f
  | [] => rfl
  | q :: kv => by
    have ih := lookK_kv kv
    unfold lookK at ih ⊢
    rw [List.map_cons, List.map_cons, List.zip_cons_cons]
    by_cases e : q.1 = x
    · rw [List.find?_cons_of_pos (by simp [e])]
      rw [List.lookup, show (x == q.1) = true by simp [e]]
      rfl
    · rw [List.find?_cons_of_neg (by simp [e]), ih, List.lookup, show (x == q.1) = false by simp; exact fun z => e z.symm]
theorem x_dget : dgetD (dicI kv f) (.int x) = .ok ((kv.lookup x).map f) := by
  show Rs.ok (lookK _ _ (Sum.inl x : Key)) = _
  rw [lookK_kv]
theorem x_dlen : dlenD (dicI kv f) = .ok (.int kv.length) := by
  show Rs.ok (Dt.int ((kv.map _).length : Nat)) = _
  rw [List.length_map]
end
theorem enumL_zip {α : Type} {g : α → Dt} : ∀ (n : Nat) (xs : List α), enumL n (xs.map g) = (xs.zipIdx n).map fun q => .tup [.int (q.2 : Nat), g q.1]
  | _, [] => rfl
  | n, x :: xs => by rw [List.map_cons, enumL, List.zipIdx_cons, List.map_cons, enumL_zip]
/-! ### == of data, by what it encodes -/
theorem pyDs_lay : ∀ ds : List Dt, PyData.canLayAll0 (pyDs ds) = ds.all fun d => (pyD d).canLay0
  | [] => rfl
  | d :: ds => by rw [pyDs, PyData.canLayAll0, pyDs_lay ds, List.all_cons]
theorem pyDs_depth {n : Nat} : ∀ {ds : List Dt}, (∀ d ∈ ds, (pyD d).depth ≤ n) → PyData.depthAll (pyDs ds) ≤ n
  | [], _ => Nat.zero_le _
  | d :: ds, h => by
    rw [pyDs, PyData.depthAll]
    exact Nat.max_le.mpr ⟨h d List.mem_cons_self, pyDs_depth fun e he => h e (List.mem_cons_of_mem _ he)⟩
/-- g tells its arguments apart, as == does -/
structure Enc {α : Type} (n : Nat) (P : α → Prop) (g : α → Dt) : Prop where
  lay : ∀ x, P x → (pyD (g x)).canLay0 = true
  dep : ∀ x, P x → (pyD (g x)).depth ≤ n
  eq : ∀ x y, P x → P y → (deq (g x) (g y) = true ↔ x = y)
section
variable {α β γ : Type} {n m : Nat} {P : α → Prop} {R : β → Prop} {g : α → Dt} {f : β → Dt}
theorem Enc.ok (h : Enc n P g) (hn : n ≤ 64) {x : α} (hx : P x) : eqOK (g x) = true := by
  unfold eqOK SeqAt.shaped
  rw [h.lay x hx, decide_eq_true (Nat.le_trans (h.dep x hx) hn)]
  rfl
theorem Enc.eqD [DecidableEq α] (h : Enc n P g) {x y : α} (hx : P x) (hy : P y) (hn : n ≤ 64 := by decide) : Pm.eqD (g x) (g y) = .ok (.bl (decide (x = y))) := by
  unfold Pm.eqD
  rw [h.ok hn hx, h.ok hn hy]
  have : deq (g x) (g y) = decide (x = y) := by
    by_cases e : x = y
    · rw [decide_eq_true e]; exact (h.eq x y hx hy).mpr e
    · rw [decide_eq_false e, ← Bool.not_eq_true]; exact fun z => e ((h.eq x y hx hy).mp z)
  rw [this]
  rfl
theorem Enc.inDD (h : Enc n P g) {x : α} {xs : List α} {b : Bool} (hx : P x) (hs : ∀ y ∈ xs, P y) (hb : x ∈ xs ↔ b = true) (hn : n ≤ 63 := by decide) : Pm.inDD (g x) (.lst (xs.map g)) = .ok (.bl b) := by
  have e : inD (g x) (xs.map g) = b := by
    rw [Bool.eq_iff_iff, ← hb]
    unfold inD
    rw [List.any_map, List.any_eq_true]
    constructor
    · rintro ⟨y, hy, e⟩
      have := (h.eq y x (hs y hy) hx).mp e
      rw [← this]; exact hy
    · exact fun hm => ⟨x, hm, (h.eq x x hx hx).mpr rfl⟩
  have ok : eqOK (.lst (xs.map g)) = true := by
    have hl : PyData.canLayAll0 (pyDs (xs.map g)) = true := by
      rw [pyDs_lay, List.all_map, List.all_eq_true]
      exact fun y hy => h.lay y (hs y hy)
    have hd : PyData.depthAll (pyDs (xs.map g)) ≤ n := pyDs_depth fun d hd => by
      obtain ⟨y, hy, rfl⟩ := List.mem_map.mp hd
      exact h.dep y (hs y hy)
    exact Bool.and_eq_true_iff.mpr ⟨hl, decide_eq_true (show PyData.depthAll (pyDs (xs.map g)) + 1 ≤ 64 by omega)⟩
  show (if (eqOK (g x) && eqOK (.lst (xs.map g))) = true then Rs.ok (Dt.bl (inD (g x) (xs.map g))) else .no) = _
  rw [h.ok (by omega) hx, ok, e]
  rfl
theorem Enc.neD [DecidableEq α] (h : Enc n P g) {x y : α} (hx : P x) (hy : P y) (hn : n ≤ 64 := by decide) : Pm.neD (g x) (g y) = .ok (.bl (!decide (x = y))) := by
  unfold Pm.neD
  rw [h.ok hn hx, h.ok hn hy]
  have : deq (g x) (g y) = decide (x = y) := by
    by_cases e : x = y
    · rw [decide_eq_true e]; exact (h.eq x y hx hy).mpr e
    · rw [decide_eq_false e, ← Bool.not_eq_true]; exact fun z => e ((h.eq x y hx hy).mp z)
  rw [this]
  rfl
theorem enc_int : Enc 0 (fun _ : Int => True) Dt.int := ⟨fun _ _ => rfl, fun _ _ => Nat.le_refl _, fun x y _ _ => by
  show (x == y) = true ↔ _
  exact beq_iff_eq⟩
theorem enc_str : Enc 0 (fun x : Str => PyData.canLay0 (.str x) = true) Dt.str := ⟨fun _ h => h, fun _ _ => Nat.le_refl _, fun x y _ _ => by
  show (x == y) = true ↔ _
  exact beq_iff_eq⟩
theorem eqvAll_map (h : Enc n P g) : ∀ xs ys : List α, (∀ x ∈ xs, P x) → (∀ y ∈ ys, P y) → (PyData.eqvAll (pyDs (xs.map g)) (pyDs (ys.map g)) = true ↔ xs = ys)
  | [], [], _, _ => ⟨fun _ => rfl, fun _ => rfl⟩
  | [], y :: ys, _, _ => by
    constructor
    · intro z; cases z
    · intro z; cases z
  | x :: xs, [], _, _ => by
    constructor
    · intro z; cases z
    · intro z; cases z
  | x :: xs, y :: ys, hx, hy => by
    have ih := eqvAll_map h xs ys (fun z hz => hx z (List.mem_cons_of_mem _ hz)) (fun z hz => hy z (List.mem_cons_of_mem _ hz))
    have e := h.eq x y (hx x List.mem_cons_self) (hy y List.mem_cons_self)
    show (PyData.eqv (pyD (g x)) (pyD (g y)) && PyData.eqvAll (pyDs (xs.map g)) (pyDs (ys.map g))) = true ↔ _
    unfold deq at e
    rw [Bool.and_eq_true, e, ih, List.cons_eq_cons]
theorem lay_map (h : Enc n P g) {xs : List α} (hx : ∀ x ∈ xs, P x) : PyData.canLayAll0 (pyDs (xs.map g)) = true := by
  rw [pyDs_lay, List.all_eq_true]
  intro d hd
  obtain ⟨x, hm, rfl⟩ := List.mem_map.mp hd
  exact h.lay x (hx x hm)
theorem dep_map (h : Enc n P g) {xs : List α} (hx : ∀ x ∈ xs, P x) : PyData.depthAll (pyDs (xs.map g)) ≤ n := pyDs_depth fun d hd => by
  obtain ⟨x, hm, rfl⟩ := List.mem_map.mp hd
  exact h.dep x (hx x hm)
theorem Enc.lst (h : Enc n P g) : Enc (n + 1) (fun xs : List α => ∀ x ∈ xs, P x) (fun xs => .lst (xs.map g)) := ⟨fun xs hx => lay_map h hx, fun xs hx => Nat.succ_le_succ (dep_map h hx), fun xs ys hx hy => eqvAll_map h xs ys hx hy⟩
theorem Enc.scr (h : Enc n P g) : Enc (n + 1) (fun xs : List α => ∀ x ∈ xs, P x) (fun xs => .scr (xs.map g)) := ⟨fun xs hx => lay_map h hx, fun xs hx => Nat.succ_le_succ (dep_map h hx), fun xs ys hx hy => eqvAll_map h xs ys hx hy⟩
theorem Enc.tup (h : Enc n P g) : Enc (n + 1) (fun xs : List α => ∀ x ∈ xs, P x) (fun xs => .tup (xs.map g)) := ⟨fun xs hx => lay_map h hx, fun xs hx => Nat.succ_le_succ (dep_map h hx), fun xs ys hx hy => eqvAll_map h xs ys hx hy⟩
theorem Enc.pair (h : Enc n P g) (k : Enc m R f) : Enc (max n m + 1) (fun q : α × β => P q.1 ∧ R q.2) (fun q => .tup [g q.1, f q.2]) := by
  refine ⟨fun q hq => ?_, fun q hq => ?_, fun q r hq hr => ?_⟩
  · show ((pyD (g q.1)).canLay0 && ((pyD (f q.2)).canLay0 && true)) = true
    rw [h.lay _ hq.1, k.lay _ hq.2]
    rfl
  · show max (pyD (g q.1)).depth (max (pyD (f q.2)).depth 0) + 1 ≤ _
    have := h.dep _ hq.1
    have := k.dep _ hq.2
    omega
  · have e1 := h.eq q.1 r.1 hq.1 hr.1
    have e2 := k.eq q.2 r.2 hq.2 hr.2
    show (PyData.eqv (pyD (g q.1)) (pyD (g r.1)) && (PyData.eqv (pyD (f q.2)) (pyD (f r.2)) && true)) = true ↔ _
    unfold deq at e1 e2
    rw [Bool.and_true, Bool.and_eq_true, e1, e2, Prod.ext_iff]
theorem Enc.mono (h : Enc n P g) {P' : α → Prop} (hp : ∀ x, P' x → P x) : Enc n P' g := ⟨fun x q => h.lay x (hp x q), fun x q => h.dep x (hp x q), fun x y q r => h.eq x y (hp x q) (hp y r)⟩
end
/-! ### loops by a state -/
theorem wp_forI {α σ : Type} {ds : List Dt} (xs : List α) (g : α → Dt) (st : σ → Ev) (I : List α → σ → Prop) (s0 : σ) (hd : ds = xs.map g) (hρ : ρ = st s0) (h0 : I [] s0)
    (hs : ∀ pre x post s, xs = pre ++ x :: post → I pre s → ∃ ρ1, FG (g x) (st s) = some ρ1 ∧ LoopP Post rest (fun ρ => ∃ s', ρ = st s' ∧ I (pre ++ [x]) s') (F1 ρ1))
    (hk : ∀ s, I xs s → Post (rest (st s))) : Post (forR FG F1 rest ds ρ) := by
  subst hd hρ
  refine wp_for (fun n ρ => ∃ s', ρ = st s' ∧ I (xs.take n) s') ⟨s0, rfl, h0⟩ ?_ ?_
  · rintro n d ρ hd ⟨s, rfl, hI⟩
    obtain ⟨x, hx, rfl⟩ := of_at_map hd
    have hn := lt_of_at hx
    have e : xs[n] = x := by
      rw [List.getElem?_eq_getElem hn] at hx
      exact Option.some.inj hx
    have sp : xs = xs.take n ++ x :: xs.drop (n + 1) := by
      rw [← e, ← List.drop_eq_getElem_cons hn, List.take_append_drop]
    have tk : xs.take (n + 1) = xs.take n ++ [x] := by rw [List.take_add_one, hx]; rfl
    obtain ⟨ρ1, h1, h2⟩ := hs _ _ _ s sp hI
    refine ⟨ρ1, h1, ?_⟩
    rw [tk]
    exact h2
  · rintro ρ ⟨s, rfl, hI⟩
    rw [List.length_map, List.take_length] at hI
    exact hk s hI
/-- both ways go on, from one state -/
theorem wp_ite2 {c : Bool} {ρ1 : Ev} (h : c = true → F1 ρ = .nx ρ1) (k : c = false → F2 ρ = .nx ρ1) (hk : Post (rest ρ1)) : Post (iteS c F1 F2 rest ρ) := by
  unfold iteS seqS
  cases c with
  | true => rw [if_pos rfl, h rfl]; exact hk
  | false => rw [if_neg (by simp), k rfl]; exact hk
theorem wp_rng {σ : Type} (lo : Int) (n : Nat) (st : σ → Ev) (I : Nat → σ → Prop) (s0 : σ) (hρ : ρ = st s0) (h0 : I 0 s0)
    (hs : ∀ k s, k < n → I k s → ∃ ρ1, FG (.int (lo + (k : Nat))) (st s) = some ρ1 ∧ LoopP Post rest (fun ρ => ∃ s', ρ = st s' ∧ I (k + 1) s') (F1 ρ1))
    (hk : ∀ s, I n s → Post (rest (st s))) : Post (forR FG F1 rest (rangeL lo n) ρ) := by
  subst hρ
  refine wp_for (fun k ρ => ∃ s', ρ = st s' ∧ I k s') ⟨s0, rfl, h0⟩ ?_ ?_
  · rintro k d ρ hd ⟨s, rfl, hI⟩
    obtain ⟨hk, rfl⟩ := rangeL_at hd
    exact hs k s hk hI
  · rintro ρ ⟨s, rfl, hI⟩
    rw [rangeL_len] at hI
    exact hk s hI
theorem wp_rng0 {σ : Type} (n : Nat) (st : σ → Ev) (I : Nat → σ → Prop) (s0 : σ) (hρ : ρ = st s0) (h0 : I 0 s0)
    (hs : ∀ k s, k < n → I k s → ∃ ρ1, FG (.int (k : Nat)) (st s) = some ρ1 ∧ LoopP Post rest (fun ρ => ∃ s', ρ = st s' ∧ I (k + 1) s') (F1 ρ1))
    (hk : ∀ s, I n s → Post (rest (st s))) : Post (forR FG F1 rest (rangeL 0 n) ρ) := by
  refine wp_rng 0 n st I s0 hρ h0 (fun k s hk hI => ?_) hk
  rw [Int.zero_add]
  exact hs k s hk hI
theorem x_powA {x y : Int} (h1 : 0 ≤ y) (h2 : y ≤ 1000) (h3 : -9000000000000000000 ≤ x) (h4 : x ≤ 9000000000000000000) : powI x y = .ok (.int (x ^ y.toNat)) := by
  unfold powI
  have : powOk x y = true := by
    unfold powOk
    rw [decide_eq_true h1, decide_eq_true h2, decide_eq_true (show x.natAbs < 2 ^ 64 by omega)]
    rfl
  rw [if_pos this]
theorem comp_rng {n : Nat} (f : Nat → Dt) (hl : n ≤ 1000000) (h : ∀ k, k < n → ∃ ρ1, FG (.int (k : Nat)) ρ = some ρ1 ∧ Fe ρ1 = .ok (f k)) : compR FG yesT Fe ρ (rangeL 0 n) = .ok (.lst ((List.range n).map f)) := by
  rw [rangeL0_map]
  exact comp_map (lenSz_of (by rw [List.length_range]; exact hl)) fun k hk => h k (List.mem_range.mp hk)
/-- one of a written list -/
theorem lit_at {α : Type} {xs : List α} {k : Int} (h0 : 0 ≤ k) (h1 : k < xs.length) : ∃ x, x ∈ xs ∧ xs[k.toNat]? = some x := by
  obtain ⟨v, hv, hm⟩ := at_of_lt (xs := xs) (k := k.toNat) (by omega)
  exact ⟨v, hm, hv⟩
theorem x_lit {α : Type} {xs : List α} {g : α → Dt} {k : Int} (h0 : 0 ≤ k) (h1 : k < xs.length) : ∃ x, x ∈ xs ∧ ixD (.lst (xs.map g)) (.int k) = .ok (g x) := by
  obtain ⟨v, hm, hv⟩ := lit_at h0 h1
  exact ⟨v, hm, by rw [x_ixLi h0, List.getElem?_map, hv]; rfl⟩
theorem comp_mapE {α : Type} {xs : List α} {g : α → Dt} (f : α → Dt) (hl : xs.length ≤ 1000000) (h : ∀ x, x ∈ xs → ∃ ρ1, FG (g x) ρ = some ρ1 ∧ Fe ρ1 = .ok (f x)) : compR FG yesT Fe ρ (xs.map g) = .ok (.lst (xs.map f)) := comp_map (lenSz_of hl) h
def whlR (Ft : Ev → Rs Bool) (F1 : Ev → Ot) (n : Nat) (rest : Ev → Ot) (ρ : Ev) : Ot := match whlL Ft F1 n ρ with
  | .nx ρ1 => rest ρ1
  | o => o
theorem v_whl {n : Nat} : seqS (whlL Ft F1 n) rest ρ = whlR Ft F1 n rest ρ := rfl
end
end Pm
namespace Pm
open PySem PySem.Spec L2
/-! ### reckoning: the newer words -/
section
variable {ρ : Ev} {d a b c : Dt} {i j : Nat} {Fa Fb Fc Fe : Ev → Rs Dt} {Fs : List (Ev → Rs Dt)} {Ft Fu : Ev → Rs Bool} {F1 F2 F3 rest : Ev → Ot} {Post : Ot → Prop} {FG : Dt → Ev → Option Ev} {Fi : Ev → Rs (List Dt)} {ds es : List Dt} {vs : List Nat}
theorem v_notBE {c : Bool} : notBE c Fa ρ = (Fa ρ >>= notBD c) := rfl
theorem x_notB {b c : Bool} : notBD c (.bl b) = .ok (.bl (!decide (b = c))) := rfl
theorem x_isB {b c : Bool} : isBD c (.bl b) = .ok (.bl (decide (b = c))) := rfl
/-! for x in P, x changed -/
def forMR (j : Nat) (pth : Option Nat) (x : Nat) (F1 rest : Ev → Ot) (ρ : Ev) : Ot := match forM j pth x F1 ρ with
  | .nx ρ1 => rest ρ1
  | o => o
theorem v_forM {pth : Option Nat} {x : Nat} : seqS (forM j pth x F1) rest ρ = forMR j pth x F1 rest ρ := rfl
theorem forML_map {α : Type} {pth : Option Nat} {x : Nat} {d : Dt} (xs : List α) (g h : α → Dt) (hjx : j ≠ x) (hd : ∀ ds, tgetD pth (tputD pth d (.lst ds)) = some (.lst ds)) (hdd : ∀ ds es, tputD pth (tputD pth d (.lst ds)) (.lst es) = tputD pth d (.lst es)) (hj : j < ρ.length) (hx : ρ[x]? = some none)
    (hs : ∀ a ∈ xs, F1 ((ρ.set j none).set x (some (g a))) = .nx ((ρ.set j none).set x (some (h a)))) :
    ∀ (n : Nat) (pre post : List α), xs = pre ++ post → n = post.length → forML j pth x F1 n pre.length (ρ.set j (some (tputD pth d (.lst (pre.map h ++ post.map g))))) = .nx (ρ.set j (some (tputD pth d (.lst (xs.map h)))))
  | 0, pre, post, e, hn => by
    have : post = [] := List.eq_nil_of_length_eq_zero hn.symm
    subst this
    rw [List.append_nil] at e
    subst e
    rw [List.map_nil, List.append_nil]
    rfl
  | n + 1, pre, [], e, hn => by cases hn
  | n + 1, pre, a :: post, e, hn => by
    have hxl : x < ρ.length := (List.getElem?_eq_some_iff.mp hx).1
    have e1 : (ρ.set j (some (tputD pth d (.lst (pre.map h ++ (a :: post).map g)))))[j]? = some (some (tputD pth d (.lst (pre.map h ++ (a :: post).map g)))) := List.getElem?_set_self hj
    have e2 : (pre.map h ++ (a :: post).map g)[pre.length]? = some (g a) := by
      rw [List.getElem?_append_right (by rw [List.length_map]; exact Nat.le_refl _), List.length_map, Nat.sub_self]
      rfl
    have e3 : (((ρ.set j none).set x (some (h a))) : Ev)[x]? = some (some (h a)) := List.getElem?_set_self (by rw [List.length_set]; exact hxl)
    have e4 : (ρ.set j (some (tputD pth d (.lst (pre.map h ++ (a :: post).map g))))).set j none = ρ.set j none := List.set_set ..
    have e5 : (pre.map h ++ (a :: post).map g).set pre.length (h a) = (pre ++ [a]).map h ++ post.map g := by
      rw [List.set_append_right _ _ (by rw [List.length_map]; exact Nat.le_refl _), List.length_map, Nat.sub_self, List.map_append, List.append_assoc]
      rfl
    have e6 : (((ρ.set j none).set x (some (h a))).set x none : Ev) = ρ.set j none := by
      rw [List.set_set]
      refine List.ext_getElem? fun k => ?_
      by_cases hk : x = k
      · subst hk
        rw [List.getElem?_set_self (by rw [List.length_set]; exact hxl), List.getElem?_set_ne hjx, hx]
      · rw [List.getElem?_set_ne hk]
    have ih := forML_map xs g h hjx hd hdd hj hx hs n (pre ++ [a]) post (by rw [e, List.append_assoc]; rfl) (by rw [List.length_cons] at hn; omega)
    unfold forML
    rw [e1]
    dsimp only
    rw [hd]
    dsimp only
    rw [e2]
    dsimp only
    rw [e4, hs a (by rw [e]; simp)]
    dsimp only
    rw [e3]
    dsimp only
    rw [hdd, e5, e6, List.set_set]
    rw [List.length_append, List.length_singleton] at ih
    exact ih
/-- each item is changed by itself -/
theorem forM_map {α : Type} {pth : Option Nat} {x : Nat} {d : Dt} (xs : List α) (g h : α → Dt) (hr : ρ[j]? = some (some d)) (hg : tgetD pth d = some (.lst (xs.map g))) (hx : ρ[x]? = some none) (hjx : j ≠ x)
    (hs : ∀ a ∈ xs, F1 ((ρ.set j none).set x (some (g a))) = .nx ((ρ.set j none).set x (some (h a)))) : forMR j pth x F1 rest ρ = rest (ρ.set j (some (tputD pth d (.lst (xs.map h))))) := by
  have hj := (List.getElem?_eq_some_iff.mp hr).1
  have t1 : tputD pth d (.lst (xs.map g)) = d := by
    cases pth with
    | none => cases hg; rfl
    | some k =>
      cases d with
      | tup es =>
        have hg : es[k]? = some (.lst (xs.map g)) := hg
        obtain ⟨hk, e⟩ := List.getElem?_eq_some_iff.mp hg
        show Dt.tup (es.set k _) = _
        rw [← e, List.set_getElem_self]
      | lst es =>
        have hg : es[k]? = some (.lst (xs.map g)) := hg
        obtain ⟨hk, e⟩ := List.getElem?_eq_some_iff.mp hg
        show Dt.lst (es.set k _) = _
        rw [← e, List.set_getElem_self]
      | _ => cases hg
  have m := forML_map (F1 := F1) (pth := pth) (d := d) xs g h hjx (fun ds => by
    cases pth with
    | none => rfl
    | some k =>
      cases d with
      | tup es =>
        have hg : es[k]? = some (.lst (xs.map g)) := hg
        show (es.set k _)[k]? = _
        exact List.getElem?_set_self (List.getElem?_eq_some_iff.mp hg).1
      | lst es =>
        have hg : es[k]? = some (.lst (xs.map g)) := hg
        show (es.set k _)[k]? = _
        exact List.getElem?_set_self (List.getElem?_eq_some_iff.mp hg).1
      | _ => cases hg) (fun ds es => by
    cases pth with
    | none => rfl
    | some k =>
      cases d with
      | tup qs => show Dt.tup ((qs.set k _).set k _) = Dt.tup (qs.set k _); rw [List.set_set]
      | lst qs => show Dt.lst ((qs.set k _).set k _) = Dt.lst (qs.set k _); rw [List.set_set]
      | _ => cases hg) hj hx hs xs.length [] xs rfl rfl
  rw [List.map_nil, List.nil_append, t1] at m
  have sr : ρ.set j (some d) = ρ := by
    obtain ⟨hk, e⟩ := List.getElem?_eq_some_iff.mp hr
    rw [← e, List.set_getElem_self]
  rw [sr] at m
  unfold forMR forM
  rw [hr]
  dsimp only
  rw [hg]
  dsimp only
  rw [List.length_map]
  have m : forML j pth x F1 xs.length 0 ρ = _ := m
  rw [m]
end
/-! d.setdefault(k, []).append(x); sorted(d) -/
section
variable {ρ : Ev} {Fp : Ev → Rs (Dt × (Dt → Ev))} {Fk Fa : Ev → Rs Dt} {rest : Ev → Ot} {i : Nat} {ks : List Key} {ds : List Dt} {k y d : Dt} {z : Key} {put : Dt → Ev}
def sdAppR (rest : Ev → Ot) (x : Dt × (Dt → Ev)) (ks : List Key) (ds : List Dt) (k y : Dt) : Ot := match sdAppK x ks ds k y with
  | .nx ρ1 => rest ρ1
  | o => o
def dicOf (d : Dt) : Rs (List Key × List Dt) := match d with
  | .dic ks ds => .ok (ks, ds)
  | _ => .no
theorem x_dicOf : dicOf (.dic ks ds) = .ok (ks, ds) := rfl
theorem v_sdApp : seqS (sdAppS Fp Fk i) rest ρ = bindS (Fp ρ) ρ fun x => bindS (dicOf x.1) ρ fun q => bindS (Fk ρ) ρ fun k => bindS (varE i ρ) ρ fun y => sdAppR rest x q.1 q.2 k y := by
  refine bindS_seq.trans ?_
  congr 1; funext x
  obtain ⟨a, p⟩ := x
  cases a with
  | dic ks ds =>
    refine bindS_seq.trans ?_
    show _ = bindS (Fk ρ) ρ fun k => bindS (varE i ρ) ρ fun y => sdAppR rest (.dic ks ds, p) ks ds k y
    congr 1; funext k
    refine bindS_seq.trans ?_
    rfl
  | _ => rfl
theorem v_sortDI : sortDIE Fa ρ = (Fa ρ >>= sortDI) := rfl
end
theorem v_rrg {F : Ev → Rs Dt} {ρ : Ev} {j : Int} (h : F ρ = .ok (.int j)) (h1 : -1000000000 ≤ j) (h2 : j ≤ 1000000000) : rrgI F ρ = .ok (rangeL 0 j.toNat).reverse := by
  unfold rrgI
  rw [h]
  show (if intSz j = true then _ else _) = _
  rw [if_pos (intSz_of h1 h2)]
def chK (g2 : Dt → Dt → Rs Dt) (Fc : Ev → Rs Dt) (ρ : Ev) (b : Dt) : Dt → Rs Dt
  | .bl true => Fc ρ >>= fun c => g2 b c
  | .bl false => .ok (.bl false)
  | _ => .no
theorem v_chE {g1 g2 : Dt → Dt → Rs Dt} {Fa Fb Fc : Ev → Rs Dt} {ρ : Ev} : chE g1 g2 Fa Fb Fc ρ = (Fa ρ >>= fun a => Fb ρ >>= fun b => g1 a b >>= chK g2 Fc ρ b) := by
  unfold chE
  refine congrArg _ (funext fun a => congrArg _ (funext fun b => congrArg _ (funext fun z => ?_)))
  cases z with
  | bl k => cases k <;> rfl
  | _ => rfl
theorem v_chK {g2 : Dt → Dt → Rs Dt} {Fc : Ev → Rs Dt} {ρ : Ev} {b : Dt} {k : Bool} : chK g2 Fc ρ b (.bl k) = if k = true then (Fc ρ >>= fun c => g2 b c) else .ok (.bl false) := by cases k <;> rfl
def appVR (rest : Ev → Ot) (r i : Nat) (ρ : Ev) (ds : List Dt) (y : Dt) : Ot := if lenSz ds.length = true then rest ((ρ.set r (some (.lst (ds ++ [y])))).set i none) else .no
theorem v_appV {r i : Nat} {rest : Ev → Ot} {ρ : Ev} : seqS (appVS r i) rest ρ = bindS (varE r ρ) ρ fun x => bindS (lstOf x) ρ fun ds => bindS (varE i ρ) ρ fun y => appVR rest r i ρ ds y := by
  unfold seqS appVS varE
  cases ρ[r]? with
  | none => rfl
  | some o =>
    cases o with
    | none => rfl
    | some d =>
      cases d with
      | lst ds =>
        cases ρ[i]? with
        | none => rfl
        | some o2 =>
          cases o2 with
          | none => rfl
          | some y =>
            by_cases c : lenSz ds.length = true
            · show (match (if lenSz ds.length = true then Ot.nx _ else Ot.no) with | .nx ρ1 => rest ρ1 | o => o) = appVR rest r i ρ ds y
              unfold appVR
              rw [if_pos c, if_pos c]
            · show (match (if lenSz ds.length = true then Ot.nx _ else Ot.no) with | .nx ρ1 => rest ρ1 | o => o) = appVR rest r i ρ ds y
              unfold appVR
              rw [if_neg c, if_neg c]
      | _ => rfl
theorem x_appV {r i : Nat} {rest : Ev → Ot} {ρ : Ev} {ds : List Dt} {y : Dt} (h : ds.length ≤ 1000000) : appVR rest r i ρ ds y = rest ((ρ.set r (some (.lst (ds ++ [y])))).set i none) := if_pos (lenSz_of h)
/-! names for the parts of a tuple -/
def asgTR (rest : Ev → Ot) (l : List Nat) (ρ : Ev) (d : Dt) : Ot := match d with
  | .tup ds => if ds.length = l.length then rest (setsE ρ l ds) else .no
  | _ => .no
theorem v_asgT {l : List Nat} {rest : Ev → Ot} {ρ : Ev} : seqS (asgT l Fe) rest ρ = bindS (Fe ρ) ρ (asgTR rest l ρ) := by
  unfold seqS asgT
  cases Fe ρ with
  | ok d =>
    cases d with
    | tup ds =>
      rw [bindS_ok, bindS_ok]
      unfold asgTR
      dsimp only
      by_cases h : ds.length = l.length
      · rw [if_pos h, if_pos h]
      · rw [if_neg h, if_neg h]
    | _ => rfl
  | ex c => rfl
  | no => rfl
theorem x_asgT2 {rest : Ev → Ot} {i j : Nat} {ρ : Ev} {a b : Dt} : asgTR rest [i, j] ρ (.tup [a, b]) = rest ((ρ.set i (some a)).set j (some b)) := rfl
theorem x_asgT3 {rest : Ev → Ot} {i j k : Nat} {ρ : Ev} {a b c : Dt} : asgTR rest [i, j, k] ρ (.tup [a, b, c]) = rest (((ρ.set i (some a)).set j (some b)).set k (some c)) := rfl
theorem x_tix30 {a b c : Dt} {put : Dt → Ev} : tixR 0 (.tup [a, b, c], put) = .ok (a, fun y => put (.tup [y, b, c])) := rfl
theorem x_tix31 {a b c : Dt} {put : Dt → Ev} : tixR 1 (.tup [a, b, c], put) = .ok (b, fun y => put (.tup [a, y, c])) := rfl
theorem x_tix32 {a b c : Dt} {put : Dt → Ev} : tixR 2 (.tup [a, b, c], put) = .ok (c, fun y => put (.tup [a, b, y])) := rfl
theorem v_minP : minPE Fa ρ = (Fa ρ >>= minPD) := rfl
theorem v_leT : leTE Fa Fb ρ = (Fa ρ >>= fun a => Fb ρ >>= fun b => tupLeD a b) := rfl
theorem v_revS : revSE Fa Fb ρ = (Fa ρ >>= fun a => Fb ρ >>= fun b => revLD a b) := rfl
theorem x_revL {ds : List Dt} : revLD (.lst ds) (.int (-1)) = .ok (.lst ds.reverse) := rfl
theorem v_maxP : maxPE Fa ρ = (Fa ρ >>= maxPD) := rfl
theorem v_callS {m : Mode} {Fn : List Dt → Rs Dt} {Fs : List (Ev → Rs Dt)} {ρ : Ev} : callSE m Fn Fs ρ = (argsE Fs ρ >>= fun ds => flatR m (Fn ds)) := rfl
def lstAD (d : Dt) : Rs Dt := match d with
  | .lst ds => .ok (.lst ds)
  | _ => .no
theorem v_lstA {F : Ev → Rs Dt} {ρ : Ev} : lstA F ρ = (F ρ >>= lstAD) := rfl
theorem x_lstA {ds : List Dt} : lstAD (.lst ds) = .ok (.lst ds) := rfl
/-! dicts gone through -/
section
variable {j i k : Nat} {vs : List Nat} {FG : Dt → Ev → Option Ev} {Ft : Ev → Rs Bool} {Fe : Ev → Rs Dt} {Fb rest : Ev → Ot} {ρ : Ev} {Post : Ot → Prop} {ks : List Key} {ds : List Dt}
def forKR (FG : Dt → Ev → Option Ev) (Fb rest : Ev → Ot) (d : Dt) (ρ : Ev) : Ot := match d with
  | .dic ks _ => (match forL FG Fb (ks.map keyDt) ρ with
    | .nx ρ2 => rest ρ2
    | _ => .no)
  | _ => .no
theorem v_forK : seqS (forK j FG Fb) rest ρ = bindS (varE j ρ) ρ fun d => forKR FG Fb rest d ρ := by
  unfold seqS forK
  cases q : varE j ρ with
  | ex c => unfold varE at q; split at q <;> cases q
  | no => rfl
  | ok d =>
    cases d with
    | dic ks ds =>
      show _ = forKR FG Fb rest (.dic ks ds) ρ
      unfold forKR
      dsimp only
      cases forL FG Fb (ks.map keyDt) ρ <;> rfl
    | _ => rfl
def compKR (FG : Dt → Ev → Option Ev) (Ft : Ev → Rs Bool) (Fe : Ev → Rs Dt) (ρ : Ev) (d : Dt) : Rs Dt := match d with
  | .dic ks _ => compR FG Ft Fe ρ (ks.map keyDt) >>= fun r => if scalL r = true then .ok r else .no
  | _ => .no
theorem v_compK : compK j vs FG Ft Fe ρ = (varE j ρ >>= compKR FG Ft Fe (wipeE ρ vs)) := rfl
theorem v_maxV : maxVE j ρ = (varE j ρ >>= maxVD) := rfl
theorem x_maxV : maxVD (.dic ks ds) = maxD (.lst ds) := rfl
theorem v_dcon {c : Key} {d : Dt} : dconE c d ρ = .ok (.dic [c] [d]) := rfl
theorem v_mv : seqS (mvS i k) rest ρ = bindS (varE k ρ) ρ fun d => rest ((ρ.set k none).set i (some d)) := bindS_seq
end
/-! methods that change their self -/
section
variable {C C' f g mm : Str} {i j k : Nat} {Fe : Ev → Rs Dt} {rest : Ev → Ot} {ρ : Ev} {Fn : List Dt → Rs Dt} {Fs : List (Ev → Rs Dt)} {y d d' : Dt} {ns : List Str} {ds as xs : List Dt}
def setFldR (C f : Str) (i j : Nat) (rest : Ev → Ot) (y d : Dt) (ρ : Ev) : Ot := match d with
  | .ins C' ns ds => if C' = C ∧ fix f ns = some j ∧ ns.length < 100 then rest (ρ.set i (some (.ins C' ns (ds.set j y)))) else .no
  | _ => .no
theorem v_setFld : seqS (setFld C f i j Fe) rest ρ = bindS (Fe ρ) ρ fun y => bindS (varE i ρ) ρ fun d => setFldR C f i j rest y d ρ := by
  refine bindS_seq.trans ?_
  congr 1; funext y
  refine bindS_seq.trans ?_
  congr 1; funext d
  unfold setFldR
  cases d with
  | ins C' ns ds =>
    dsimp only
    by_cases h : C' = C ∧ fix f ns = some j ∧ ns.length < 100
    · rw [if_pos h, if_pos h]
    · rw [if_neg h, if_neg h]
  | _ => rfl
def appPopFR (C f g : Str) (i j k : Nat) (Fe : Ev → Rs Dt) (rest : Ev → Ot) (d : Dt) (ρ : Ev) : Ot := seqS (fun ρ => match d with
  | .ins C' ns ds => if C' = C ∧ fix f ns = some j ∧ fix g ns = some k then bindS (lstOf (ds.getD j .non)) ρ fun as => bindS (lstOf (ds.getD k .non)) ρ fun xs => bindS (Fe ρ) ρ fun y => bindS (popD xs y) ρ fun z => if lenSz as.length = true then .nx (ρ.set i (some (.ins C' ns ((ds.set j (.lst (as ++ [z.1]))).set k (.lst z.2))))) else .no else .no
  | _ => .no) rest ρ
theorem v_appPopF : seqS (appPopF C f g i j k Fe) rest ρ = bindS (varE i ρ) ρ fun d => appPopFR C f g i j k Fe rest d ρ := by
  unfold appPopF
  exact bindS_seq
def lendR (i : Nat) (rest : Ev → Ot) (r : Rs Dt) (ρ : Ev) : Ot := match r with
  | .ok d' => rest (ρ.set i (some d'))
  | _ => .no
theorem v_lendS : seqS (lendS C mm i Fn Fs) rest ρ = bindS (varE i ρ) ρ fun d => bindS (noMeth C mm d) ρ fun _ => bindS (argsE Fs ρ) ρ fun ds => lendR i rest (Fn (d :: ds)) ρ := by
  refine bindS_seq.trans ?_
  congr 1; funext d
  refine bindS_seq.trans ?_
  congr 1; funext _
  refine bindS_seq.trans ?_
  congr 1; funext ds
  unfold lendR
  cases Fn (d :: ds) <;> rfl
theorem x_lend : lendR i rest (.ok d') ρ = rest (ρ.set i (some d')) := rfl
theorem v_retFld : seqS (retFld C f i j) rest ρ = bindS (fldIE C f j i ρ) ρ fun d => .rt d := bindS_seq
theorem x_outL {o : List (Option Dt)} : outL (.nx (some d :: o)) = .ok d := rfl
end
/-! several clauses with a name -/
section
variable {i : Nat} {hs r : List (List (Str × Bool) × (Str → Ev → Ot))} {Fb rest : Ev → Ot} {Fh : Str → Ev → Ot} {ρ : Ev} {d : Dt} {c : Str} {subs : List (Str × Bool)}
def tryMR (i : Nat) (hs : List (List (Str × Bool) × (Str → Ev → Ot))) (rest : Ev → Ot) : Ot → Ot
  | .ex c ρ' => (match goA i hs c ρ' with
    | .nx ρ1 => rest ρ1
    | o => o)
  | .nx ρ => rest ρ
  | o => o
theorem v_tryMm : seqS (tryM i hs Fb) rest ρ = tryMR i hs rest (Fb ρ) := by
  show (match tryM i hs Fb ρ with
    | .nx ρ1 => rest ρ1
    | o => o) = _
  unfold tryM tryMR
  cases Fb ρ <;> rfl
theorem v_tryMN : tryMR i hs rest (.nx ρ) = rest ρ := rfl
theorem v_tryMRt : tryMR i hs rest (.rt d) = .rt d := rfl
theorem clr_rest (o : Ot) : (match clrO i o with
    | .nx ρ1 => rest ρ1
    | o => o) = clrR i rest o := by cases o <;> rfl
theorem x_tryMT (h : subs.lookup c = some true) : tryMR i ((subs, Fh) :: r) rest (.ex (c, none) ρ) = clrR i rest (Fh c (ρ.set i none)) := by
  rw [← clr_rest]
  show (match goA i ((subs, Fh) :: r) (c, none) ρ with
    | .nx ρ1 => rest ρ1
    | o => o) = _
  unfold goA
  simp only [h]
theorem x_tryMF (h : subs.lookup c = some false) : tryMR i ((subs, Fh) :: r) rest (.ex (c, none) ρ) = tryMR i r rest (.ex (c, none) ρ) := by
  show (match goA i ((subs, Fh) :: r) (c, none) ρ with
    | .nx ρ1 => rest ρ1
    | o => o) = (match goA i r (c, none) ρ with
    | .nx ρ1 => rest ρ1
    | o => o)
  conv => lhs; unfold goA
  simp only [h]
end
def setSlR (rest : Ev → Ot) (x : Dt × (Dt → Ev)) (y k : Dt) : Ot := someO rest (setSlO x y k)
theorem v_setSl {Fe Fi : Ev → Rs Dt} {Fp : Ev → Rs (Dt × (Dt → Ev))} {rest : Ev → Ot} {ρ : Ev} : seqS (setSlS Fe Fp Fi) rest ρ = bindS (Fe ρ) ρ fun y => bindS (Fp ρ) ρ fun x => bindS (Fi ρ) ρ fun k => setSlR rest x y k := by
  unfold seqS setSlS
  cases Fe ρ with
  | ok y =>
    rw [bindS_ok, bindS_ok]
    cases Fp ρ with
    | ok x =>
      rw [bindS_ok, bindS_ok]
      cases Fi ρ with
      | ok k =>
        rw [bindS_ok, bindS_ok]
        unfold setSlR
        cases setSlO x y k <;> rfl
      | ex c => rfl
      | no => rfl
    | ex c => rfl
    | no => rfl
  | ex c => rfl
  | no => rfl
/-! texts -/
section
variable {Fa Fb Fc : Ev → Rs Dt} {ρ : Ev}
theorem v_inS : inSE Fa Fb ρ = (Fa ρ >>= fun a => Fb ρ >>= fun b => inSD a b) := rfl
theorem v_ninS : ninSE Fa Fb ρ = (Fa ρ >>= fun a => Fb ρ >>= fun b => ninSD a b) := rfl
theorem x_inS {c : Nat} {z : Str} : inSD (.str ⟨#[c]⟩) (.str z) = .ok (.bl (decide (c ∈ z.cps.toList))) := rfl
theorem x_ninS {c : Nat} {z : Str} : ninSD (.str ⟨#[c]⟩) (.str z) = .ok (.bl (!decide (c ∈ z.cps.toList))) := rfl
def strID (d : Dt) : Rs (List Dt) := match d with
  | .str x => .ok (signsD x)
  | _ => .no
theorem v_strI : strI Fa ρ = (Fa ρ >>= strID) := rfl
theorem x_strI {x : Str} : strID (.str x) = .ok (signsD x) := rfl
theorem v_str1 : strE Fa ρ = (Fa ρ >>= strD) := rfl
theorem x_str1 {i : Int} (h : numSz i = true) : strD (.int i) = .ok (.str (toString i)) := if_pos h
theorem v_intT : intTE Fa ρ = (Fa ρ >>= intTD) := rfl
theorem x_intT {x : Str} {n : Int} (h : txtSz x = true) (h2 : txtNum x = some n) : intTD (.str x) = .ok (.int n) := by
  show (if txtSz x = true then (match txtNum x with | some n => Rs.ok (Dt.int n) | none => .no) else .no) = _
  rw [if_pos h, h2]
theorem v_join : joinE Fa Fb ρ = (Fa ρ >>= fun a => strOf a >>= fun x => Fb ρ >>= fun b => joinD x b) := rfl
theorem v_split : splitE Fa Fb ρ = (Fa ρ >>= fun a => strOf a >>= fun x => Fb ρ >>= fun b => splitD x b) := rfl
theorem v_part : partE Fa Fb ρ = (Fa ρ >>= fun a => strOf a >>= fun x => Fb ρ >>= fun b => partD x b) := rfl
theorem v_sw : swE Fa Fb ρ = (Fa ρ >>= fun a => strOf a >>= fun x => Fb ρ >>= fun b => swD x b) := rfl
theorem x_strOf {x : Str} : strOf (.str x) = .ok x := rfl
theorem x_join {a : Str} {ys : List Str} (h : joinSz a ys = true) : joinD a (.lst (ys.map Dt.str)) = .ok (.str (Txt.join a ys)) := by
  show joinSD a (ys.map Dt.str) = _
  unfold joinSD
  rw [strsOf_map]
  exact if_pos h
theorem spSz_of {x y : Str} (h : strSz x = true) (hy : txt0 y = false) : (strSz x && !txt0 y) = true := by rw [h, hy]; rfl
theorem x_split {x y : Str} (h : strSz x = true) (hy : txt0 y = false) : splitD x (.str y) = .ok (.lst ((Txt.split x y).map Dt.str)) := if_pos (spSz_of h hy)
theorem x_part {x y : Str} (h : strSz x = true) (hy : txt0 y = false) : partD x (.str y) = .ok (.tup [.str (Txt.partition x y).1, .str (Txt.partition x y).2.1, .str (Txt.partition x y).2.2]) := if_pos (spSz_of h hy)
theorem x_sw {x y : Str} : swD x (.str y) = .ok (.bl (Txt.startswith x y)) := rfl
theorem v_mulS : mulSE Fa Fb ρ = (Fa ρ >>= fun a => Fb ρ >>= fun b => mulSD a b) := rfl
theorem x_mulS {x : Str} {n : Int} (h : repSz x n = true) : mulSD (.str x) (.int n) = .ok (.str (repSt x n.toNat)) := if_pos h
theorem x_lenS {x : Str} (h : strSz x = true) : lenD (.str x) = .ok (.int x.length) := if_pos h
theorem x_plusS {a b : Str} (h : lenSz (a.length + b.length) = true) : plusD (.str a) (.str b) = .ok (.str (a ++ b)) := if_pos h
theorem x_cutS {x : Str} {lo hi : Option Int} (h : strSz x = true) : cutD (.str x) lo hi = .ok (.str (cutS x lo hi)) := if_pos h
theorem x_isiS {x : Str} : isiD .str (.str x) = .ok (.bl true) := rfl
def rng3D (ds : List Dt) : Rs (List Dt) := match ds with
  | [.int i, .int j, .int c] => if (intSz i && intSz j && intSz c && decide (0 < c)) = true then .ok (stepL i c (stepN i j c)) else .no
  | _ => .no
theorem v_rng3 : rng3I [Fa, Fb, Fc] ρ = (Fa ρ >>= fun a => Fb ρ >>= fun b => Fc ρ >>= fun c => rng3D [a, b, c]) := by
  unfold rng3I
  rw [v_args1, v_args1, v_args1]
  cases Fa ρ with
  | ok a =>
    cases Fb ρ with
    | ok b =>
      cases Fc ρ with
      | ok c => rfl
      | ex c => rfl
      | no => rfl
    | ex c => rfl
    | no => rfl
  | ex c => rfl
  | no => rfl
theorem x_rng3 {i j c : Int} (hi : intSz i = true) (hj : intSz j = true) (hc : intSz c = true) (h : 0 < c) : rng3D [.int i, .int j, .int c] = .ok (stepL i c (stepN i j c)) := by
  show (if _ then _ else _) = _
  rw [hi, hj, hc, decide_eq_true h]
  rfl
end
/-! a raise that bears a number -/
def raiR (c : Str) (ρ : Ev) (d : Dt) : Ot := match d with
  | .int n => .ex (c, some n) ρ
  | _ => .no
theorem v_raiN {c : Str} {Fe : Ev → Rs Dt} {rest : Ev → Ot} {ρ : Ev} : seqS (raiNS c Fe) rest ρ = bindS (Fe ρ) ρ fun d => raiR c ρ d := by
  unfold seqS raiNS
  cases Fe ρ with
  | ok d => cases d <;> rfl
  | ex c => rfl
  | no => rfl
theorem x_raiN {c : Str} {ρ : Ev} {n : Int} : raiR c ρ (.int n) = .ex (c, some n) ρ := rfl
theorem v_sortT {Fa : Ev → Rs Dt} {ρ : Ev} : sortTE Fa ρ = (Fa ρ >>= sortTD) := rfl
/-! clauses with a name or without; what an exception bears -/
section
variable {i : Nat} {hs r : List Cl} {Fb rest F : Ev → Ot} {Fh : Xn → Ev → Ot} {ρ : Ev} {d : Dt} {c : Xn} {subs : List (Str × Bool)} {nm : Option Nat}
def tryXR (hs : List Cl) (rest : Ev → Ot) : Ot → Ot
  | .ex c ρ' => (match goX hs c ρ' with
    | .nx ρ1 => rest ρ1
    | o => o)
  | .nx ρ => rest ρ
  | o => o
theorem v_tryX : seqS (tryX hs Fb) rest ρ = tryXR hs rest (Fb ρ) := by
  show (match tryX hs Fb ρ with
    | .nx ρ1 => rest ρ1
    | o => o) = _
  unfold tryX tryXR
  cases Fb ρ <;> rfl
theorem v_tryXN : tryXR hs rest (.nx ρ) = rest ρ := rfl
theorem v_tryXRt : tryXR hs rest (.rt d) = .rt d := rfl
theorem x_tryXT (h : subs.lookup c.1 = some true) : tryXR ((some i, subs, Fh) :: r) rest (.ex c ρ) = clrR i rest (Fh c (ρ.set i none)) := by
  rw [← clr_rest]
  show (match goX ((some i, subs, Fh) :: r) c ρ with
    | .nx ρ1 => rest ρ1
    | o => o) = _
  unfold goX
  simp only [h]
theorem x_tryXO (h : subs.lookup c.1 = some true) : tryXR ((none, subs, Fh) :: r) rest (.ex c ρ) = noXR rest (Fh c ρ) := by
  show (match goX ((none, subs, Fh) :: r) c ρ with
    | .nx ρ1 => rest ρ1
    | o => o) = _
  unfold goX noXR
  simp only [h]
  all_goals (cases noX (Fh c ρ) <;> rfl)
theorem x_tryXF (h : subs.lookup c.1 = some false) : tryXR ((nm, subs, Fh) :: r) rest (.ex c ρ) = tryXR r rest (.ex c ρ) := by
  show (match goX ((nm, subs, Fh) :: r) c ρ with
    | .nx ρ1 => rest ρ1
    | o => o) = (match goX r c ρ with
    | .nx ρ1 => rest ρ1
    | o => o)
  conv => lhs; unfold goX
  simp only [h]
theorem x_tryX0 : tryXR [] rest (.ex c ρ) = .ex c ρ := rfl
theorem x_row {C : Str} {n : Int} : excRowE C (C, some n) ρ = .ok (.int n) := if_pos rfl
end
/-! min, max with default=; sorted of texts -/
theorem v_minD {Fa Fb : Ev → Rs Dt} {ρ : Ev} : minDE Fa Fb ρ = (Fa ρ >>= fun a => Fb ρ >>= fun b => bestDD bestMin a b) := rfl
theorem v_maxD {Fa Fb : Ev → Rs Dt} {ρ : Ev} : maxDE Fa Fb ρ = (Fa ρ >>= fun a => Fb ρ >>= fun b => bestDD bestMax a b) := rfl
theorem v_sortS {Fa : Ev → Rs Dt} {ρ : Ev} : sortSE Fa ρ = (Fa ρ >>= sortSD) := rfl
/-! comprehensions whose elements may raise -/
section
variable {Fi : Ev → Rs (List Dt)} {FG : Dt → Ev → Option Ev} {Ft : Ev → Rs Bool} {Fe : Ev → Rs Dt} {ρ : Ev}
def compRX (FG : Dt → Ev → Option Ev) (Ft : Ev → Rs Bool) (Fe : Ev → Rs Dt) (ρ : Ev) (ds : List Dt) : Rs Dt := if lenSz ds.length = true then compLX FG Ft Fe ρ ds >>= fun ys => .ok (.lst ys) else .no
theorem v_compX {vs : List Nat} : compXE Fi vs FG Ft Fe ρ = (Fi ρ >>= fun ds => compRX FG Ft Fe (wipeE ρ vs) ds) := rfl
end
end Pm
namespace Pm
open PySem PySem.Spec L2
/-! ### pure tools 4: lent calls -/
section
variable {α β : Type} {a : α} {c : Xn} {ρ ρ' : Ev} {k : α → Rx β} {k2 : α → Ev → Rx β} {Fx Fy : Ev → Rx Dt} {Xt Xu : Ev → Rx Bool} {Fe Fa Fi Fk F1' F2' : Ev → Rs Dt} {Ft : Ev → Rs Bool} {Fs : List (Ev → Rs Dt)} {F1 F2 rest : Ev → Ot} {d l r y : Dt} {i j j1 j2 n : Nat} {b g : Bool} {m : Mode} {C C' mm f f1 f2 h : Str} {Fp : Ev → Rs (Dt × (Dt → Ev))} {Fn : List Dt → Ln} {put : Dt → Ev} {ds xs : List Dt} {ns : List Str}
theorem bindX_ok : bindX (.ok a) ρ k = k a := rfl
theorem bindX_ex : bindX (.ex c : Rs α) ρ k = .ex c ρ := rfl
theorem thenX_ok : thenX (.ok a ρ) k2 = k2 a ρ := rfl
theorem thenX_ex : thenX (.ex c ρ : Rx α) k2 = .ex c ρ := rfl
def dropXR (rest : Ev → Ot) : Rx Dt → Ot
  | .ok _ ρ => rest ρ
  | .ex c ρ => .ex c ρ
  | .no => .no
theorem v_dropX : seqS (dropX Fx) rest ρ = dropXR rest (Fx ρ) := by
  unfold seqS dropX
  cases Fx ρ <;> rfl
theorem x_dropX : dropXR rest (.ok d ρ) = rest ρ := rfl
theorem x_dropXE : dropXR rest (.ex c ρ) = .ex c ρ := rfl
def asgXR (i : Nat) (rest : Ev → Ot) : Rx Dt → Ot
  | .ok d ρ => rest (ρ.set i (some d))
  | .ex c ρ => .ex c ρ
  | .no => .no
theorem v_asgX : seqS (asgX i Fx) rest ρ = asgXR i rest (Fx ρ) := by
  unfold seqS asgX
  cases Fx ρ <;> rfl
theorem x_asgX : asgXR i rest (.ok d ρ) = rest (ρ.set i (some d)) := rfl
theorem x_asgXE : asgXR i rest (.ex c ρ) = .ex c ρ := rfl
def ifXR (F1 F2 rest : Ev → Ot) : Rx Bool → Ot
  | .ok b ρ => iteS b F1 F2 rest ρ
  | .ex c ρ => .ex c ρ
  | .no => .no
theorem v_ifX : seqS (ifX Xt F1 F2) rest ρ = ifXR F1 F2 rest (Xt ρ) := by
  unfold seqS ifX ifXR iteS seqS
  cases Xt ρ with
  | ok b ρ' => cases b <;> rfl
  | _ => rfl
theorem x_ifX : ifXR F1 F2 rest (.ok b ρ) = iteS b F1 F2 rest ρ := rfl
theorem x_ifXE : ifXR F1 F2 rest (.ex c ρ) = .ex c ρ := rfl
def retXR : Rx Dt → Ot
  | .ok d _ => .rt d
  | .ex c ρ => .ex c ρ
  | .no => .no
theorem v_retX : seqS (retX Fx) rest ρ = retXR (Fx ρ) := by
  unfold seqS retX
  cases Fx ρ <;> rfl
theorem x_retX : retXR (.ok d ρ) = .rt d := rfl
def retWR (d : Dt) : Option (Option Dt) → Ot
  | some (some l) => .rt (.tup [d, l])
  | _ => .no
theorem x_retW : retWR d (some (some l)) = .rt (.tup [d, l]) := rfl
theorem v_retW : seqS (retW j Fe) rest ρ = bindS (Fe ρ) ρ fun d => retWR d ρ[j]? := by
  refine bindS_seq.trans ?_
  congr 1; funext d
  unfold retWR
  cases ρ[j]? with
  | none => rfl
  | some x => cases x <;> rfl
theorem v_retWN : seqS (retWN j) rest ρ = retWR .non ρ[j]? := by
  unfold seqS retWN retWR
  cases ρ[j]? with
  | none => rfl
  | some x => cases x <;> rfl
def retWXR (j : Nat) : Rx Dt → Ot
  | .ok d ρ => retWR d ρ[j]?
  | .ex c ρ => .ex c ρ
  | .no => .no
theorem v_retWX : seqS (retWX j Fx) rest ρ = retWXR j (Fx ρ) := by
  unfold seqS retWX retWXR
  cases Fx ρ with
  | ok d ρ' =>
    dsimp only
    unfold retWR
    cases ρ'[j]? with
    | none => rfl
    | some x => cases x <;> rfl
  | _ => rfl
theorem x_retWX : retWXR j (.ok d ρ) = retWR d ρ[j]? := rfl
theorem v_pureX : pureX Fe ρ = bindX (Fe ρ) ρ fun d => .ok d ρ := rfl
theorem v_pureXT : pureXT Ft ρ = bindX (Ft ρ) ρ fun d => .ok d ρ := rfl
theorem v_opX {g : Dt → Ev → Rs Dt} : opX Fx g ρ = thenX (Fx ρ) fun d ρ' => if scal d = true then bindX (g d ρ') ρ' fun e => .ok e ρ' else .no := rfl
theorem v_valXT : valXT Fx ρ = thenX (Fx ρ) fun d ρ' => bindX (asB d) ρ' fun b => .ok b ρ' := rfl
theorem v_notXT : notXT Xt ρ = thenX (Xt ρ) fun b ρ' => .ok (!b) ρ' := rfl
theorem v_andXT : andXT Xt Xu ρ = thenX (Xt ρ) fun b ρ' => if b = true then Xu ρ' else .ok false ρ' := rfl
theorem v_orXT : orXT Xt Xu ρ = thenX (Xt ρ) fun b ρ' => if b = true then .ok true ρ' else Xu ρ' := rfl
theorem v_andX : andX Fx Fy ρ = thenX (Fx ρ) fun d ρ' => bindX (asB d) ρ' fun b => if b = true then Fy ρ' else .ok (.bl false) ρ' := rfl
theorem v_methX : methX C mm Fp Fn Fs ρ = bindX (Fp ρ) ρ fun x => bindX (noMeth C mm x.1) ρ fun _ => bindX (argsE Fs ρ) ρ fun ds => lnX (Fn (x.1 :: ds)) x.2 := rfl
theorem v_callX0 : callX0 Fp Fn Fs ρ = bindX (Fp ρ) ρ fun x => bindX (argsE Fs ρ) ρ fun ds => lnX (Fn (x.1 :: ds)) x.2 := rfl
theorem v_callX2 : callX2 F1' F2' Fp Fn ρ = bindX (F1' ρ) ρ fun x => bindX (F2' ρ) ρ fun y => bindX (Fp ρ) ρ fun z => lnX (Fn [x, y, z.1]) z.2 := rfl
theorem x_lnX : lnX (.ok r d) put = .ok r (put d) := rfl
theorem x_lnXE : lnX (.ex c d) put = .ex c (put d) := rfl
theorem x_scalRE : scalR (.ex c) = .ex c := rfl
theorem x_leafRE : leafR m (.ex c) = .ex c := rfl
theorem v_look : lookE m Fe ρ = leafR m (Fe ρ) := rfl
def outWR : Option (Option Dt) → Ln
  | some (some d) => .ok .non d
  | _ => .no
theorem x_outWN : outW g .F j (.nx ρ) = outWR ρ[j]? := by
  unfold outWR
  show (if isF .F = true then (match ρ[j]? with
    | some (some d) => Ln.ok .non d
    | _ => .no) else .no) = _
  rw [if_pos (show isF .F = true from rfl)]
theorem x_outWR : outWR (some (some d)) = .ok .non d := rfl
theorem x_outWT : outW g m j (.rt (.tup [r, d])) = .ok r d := rfl
def outWE (c : Xn) : Option (Option Dt) → Ln
  | some (some d) => .ex c d
  | _ => .no
theorem x_outWX : outW true m j (.ex c ρ) = outWE c ρ[j]? := by
  unfold outWE
  show (if true = true then (match ρ[j]? with
    | some (some d) => Ln.ex c d
    | _ => .no) else .no) = _
  rw [if_pos rfl]
theorem x_outWE : outWE c (some (some d)) = .ex c d := rfl
def remR (rest : Ev → Ot) (xp : Dt → Ev) (ds : List Dt) (y : Dt) : Ot := match remD xp ds y with
  | .nx ρ => rest ρ
  | o => o
theorem v_rem : seqS (remS Fp Fe) rest ρ = bindS (Fp ρ) ρ fun x => bindS (lstOf x.1) ρ fun ds => bindS (Fe ρ) ρ fun y => remR rest x.2 ds y := by
  refine bindS_seq.trans ?_
  congr 1; funext x
  refine bindS_seq.trans ?_
  congr 1; funext ds
  exact bindS_seq
theorem v_setPart : seqS (setPart C f i j Fk Fi) rest ρ = bindS (Fk ρ) ρ fun kd => bindS (varE i ρ) ρ fun d => bindS (fldLst C f j d) ρ fun xs => bindS (Fi ρ) ρ fun z => bindS (partAt xs z) ρ fun r => rest (ρ.set i (some (fldSet j (.lst (xs.set r.1 (.tup [kd, r.2]))) d))) := by
  refine bindS_seq.trans ?_
  congr 1; funext x
  refine bindS_seq.trans ?_
  congr 1; funext x
  refine bindS_seq.trans ?_
  congr 1; funext x
  refine bindS_seq.trans ?_
  congr 1; funext x
  exact bindS_seq
theorem v_popTo : seqS (popTo C f1 f2 h i j1 j2 n) rest ρ = bindS (varE i ρ) ρ fun d => bindS (fldLst C h n d) ρ fun xs => bindS (lastTwo xs) ρ fun r => bindS (fixTwo f1 f2 j1 j2 d) ρ fun _ => rest (ρ.set i (some (fldSet j2 r.2 (fldSet j1 r.1 (fldSet n (.lst xs.dropLast) d))))) := by
  refine bindS_seq.trans ?_
  congr 1; funext x
  refine bindS_seq.trans ?_
  congr 1; funext x
  refine bindS_seq.trans ?_
  congr 1; funext x
  exact bindS_seq
theorem x_fldSet : fldSet j y (.ins C ns ds) = .ins C ns (ds.set j y) := rfl
theorem v_pop0 : seqS (pop0S Fp) rest ρ = bindS (Fp ρ) ρ fun x => bindS (lstOf x.1) ρ fun ds => bindS (pop0D ds) ρ fun y => rest (x.2 (.lst y.2)) := by
  refine bindS_seq.trans ?_
  congr 1; funext x
  refine bindS_seq.trans ?_
  congr 1; funext x
  exact bindS_seq
theorem v_asgPop0 : seqS (asgPop0 i Fp) rest ρ = bindS (Fp ρ) ρ fun x => bindS (lstOf x.1) ρ fun ds => bindS (pop0D ds) ρ fun y => rest ((x.2 (.lst y.2)).set i (some y.1)) := by
  refine bindS_seq.trans ?_
  congr 1; funext x
  refine bindS_seq.trans ?_
  congr 1; funext x
  exact bindS_seq
theorem x_pop0 : pop0D (xs ++ [y]) = .ok (y, xs) := by
  unfold pop0D
  simp
def ifLen (b : Bool) (o : Ot) : Ot := if b = true then o else .no
theorem x_ifLen {o : Ot} : ifLen true o = o := rfl
theorem v_appNew : seqS (appNew Fe Fa) rest ρ = bindS (Fe ρ) ρ fun d => bindS (lstOf d) ρ fun ds => bindS (Fa ρ) ρ fun _ => ifLen (lenSz ds.length) (rest ρ) := by
  refine bindS_seq.trans ?_
  congr 1; funext x
  refine bindS_seq.trans ?_
  congr 1; funext x
  refine bindS_seq.trans ?_
  congr 1; funext y
  unfold ifLen
  cases lenSz x.length <;> rfl
theorem v_appPopP : seqS (appPopP n Fp Fe) rest ρ = bindS (varE n ρ) ρ fun d0 => bindS (lstOf d0) ρ fun _ => bindS (Fp ρ) ρ fun x => bindS (lstOf x.1) ρ fun xs => bindS (Fe ρ) ρ fun k => bindS (popD xs k) ρ fun y =>
    bindS (varE n (x.2 (.lst y.2))) ρ fun d1 => bindS (lstOf d1) ρ fun ds => ifLen (lenSz ds.length) (rest ((x.2 (.lst y.2)).set n (some (.lst (ds ++ [y.1]))))) := by
  refine bindS_seq.trans ?_
  congr 1; funext x
  refine bindS_seq.trans ?_
  congr 1; funext x
  refine bindS_seq.trans ?_
  congr 1; funext x
  refine bindS_seq.trans ?_
  congr 1; funext x
  refine bindS_seq.trans ?_
  congr 1; funext x
  refine bindS_seq.trans ?_
  congr 1; funext x
  refine bindS_seq.trans ?_
  congr 1; funext x
  refine bindS_seq.trans ?_
  congr 1; funext x
  unfold ifLen
  cases lenSz x.length <;> rfl
end
/-! for k, x in P, x changed -/
section
variable {ρ : Ev} {F1 rest : Ev → Ot} {j kd x : Nat}
def forTR (j : Nat) (pth : Option Nat) (kd x : Nat) (F1 rest : Ev → Ot) (ρ : Ev) : Ot := match forT j pth kd x F1 ρ with
  | .nx ρ' => rest ρ'
  | o => o
theorem v_forT {pth : Option Nat} : seqS (forT j pth kd x F1) rest ρ = forTR j pth kd x F1 rest ρ := rfl
end
theorem v_sortJ {Fa : Ev → Rs Dt} {ρ : Ev} : sortJE Fa ρ = (Fa ρ >>= sortJD) := rfl
theorem v_sortDE {Fa : Ev → Rs Dt} {ρ : Ev} : sortDE Fa ρ = (Fa ρ >>= sortDD) := rfl
theorem v_callSO {m : Mode} {Fn : List Dt → Rs Dt} {Fs : List (Ev → Rs Dt)} {ρ : Ev} : callSO m Fn Fs ρ = (argsE Fs ρ >>= fun ds => flatRO m (Fn ds)) := rfl
theorem v_flatRO {m : Mode} {d : Dt} : flatRO m (.ok d) = if flatO m d = true then .ok d else .no := rfl
theorem x_flatROE {m : Mode} {c : Xn} : flatRO m (.ex c) = .ex c := rfl
/-! ### constructors to which owned things are lent -/
/-! ways, tuples of owned lists -/
section
variable {ρ : Ev} {F1 rest : Ev → Ot} {j : Nat}
def forUR (j : Nat) (x : Nat) (F1 rest : Ev → Ot) (ρ : Ev) : Ot := match forU j x F1 ρ with
  | .nx ρ1 => rest ρ1
  | o => o
theorem v_forU {x : Nat} : seqS (forU j x F1) rest ρ = forUR j x F1 rest ρ := rfl
theorem forUL_map {α : Type} {x : Nat} (xs : List α) (g h : α → Dt) (hjx : j ≠ x) (hj : j < ρ.length) (hx : ρ[x]? = some none)
    (hs : ∀ a ∈ xs, F1 ((ρ.set j none).set x (some (g a))) = .nx ((ρ.set j none).set x (some (h a)))) :
    ∀ (n : Nat) (pre post : List α), xs = pre ++ post → n = post.length → forUL j x F1 n pre.length (ρ.set j (some (.tup (pre.map h ++ post.map g)))) = .nx (ρ.set j (some (.tup (xs.map h))))
  | 0, pre, post, e, hn => by
    have : post = [] := List.eq_nil_of_length_eq_zero hn.symm
    subst this
    rw [List.append_nil] at e
    subst e
    rw [List.map_nil, List.append_nil]
    rfl
  | n + 1, pre, [], e, hn => by cases hn
  | n + 1, pre, a :: post, e, hn => by
    have hxl : x < ρ.length := (List.getElem?_eq_some_iff.mp hx).1
    have e1 : (ρ.set j (some (.tup (pre.map h ++ (a :: post).map g))))[j]? = some (some (.tup (pre.map h ++ (a :: post).map g))) := List.getElem?_set_self hj
    have e2 : (pre.map h ++ (a :: post).map g)[pre.length]? = some (g a) := by
      rw [List.getElem?_append_right (by rw [List.length_map]; exact Nat.le_refl _), List.length_map, Nat.sub_self]
      rfl
    have e3 : (((ρ.set j none).set x (some (h a))) : Ev)[x]? = some (some (h a)) := List.getElem?_set_self (by rw [List.length_set]; exact hxl)
    have e4 : (ρ.set j (some (.tup (pre.map h ++ (a :: post).map g)))).set j none = ρ.set j none := List.set_set ..
    have e5 : (pre.map h ++ (a :: post).map g).set pre.length (h a) = (pre ++ [a]).map h ++ post.map g := by
      rw [List.set_append_right _ _ (by rw [List.length_map]; exact Nat.le_refl _), List.length_map, Nat.sub_self, List.map_append, List.append_assoc]
      rfl
    have e6 : (((ρ.set j none).set x (some (h a))).set x none : Ev) = ρ.set j none := by
      rw [List.set_set]
      refine List.ext_getElem? fun k => ?_
      by_cases hk : x = k
      · subst hk
        rw [List.getElem?_set_self (by rw [List.length_set]; exact hxl), List.getElem?_set_ne hjx, hx]
      · rw [List.getElem?_set_ne hk]
    have ih := forUL_map xs g h hjx hj hx hs n (pre ++ [a]) post (by rw [e, List.append_assoc]; rfl) (by rw [List.length_cons] at hn; omega)
    unfold forUL
    rw [e1]
    dsimp only [tgetU]
    rw [e2]
    dsimp only
    rw [e4, hs a (by rw [e]; simp)]
    dsimp only
    rw [e3]
    dsimp only
    rw [e5, e6, List.set_set]
    rw [List.length_append, List.length_singleton] at ih
    exact ih
theorem forU_map {α : Type} {x : Nat} (xs : List α) (g h : α → Dt) (hr : ρ[j]? = some (some (.tup (xs.map g)))) (hx : ρ[x]? = some none) (hjx : j ≠ x)
    (hs : ∀ a ∈ xs, F1 ((ρ.set j none).set x (some (g a))) = .nx ((ρ.set j none).set x (some (h a)))) : forUR j x F1 rest ρ = rest (ρ.set j (some (.tup (xs.map h)))) := by
  have hj := (List.getElem?_eq_some_iff.mp hr).1
  have m := forUL_map (F1 := F1) xs g h hjx hj hx hs xs.length [] xs rfl rfl
  have sr : ρ.set j (some (.tup (xs.map g))) = ρ := by
    obtain ⟨hk, e⟩ := List.getElem?_eq_some_iff.mp hr
    rw [← e, List.set_getElem_self]
  rw [List.map_nil, List.nil_append, sr] at m
  unfold forUR forU
  rw [hr]
  dsimp only [tgetU]
  rw [List.length_map]
  have m : forUL j x F1 xs.length 0 ρ = _ := m
  rw [m]
theorem v_makeO {i : Nat} {ns : List Mode} {Fn : List Dt → Rs Dt} : makeOE i ns Fn ρ = (varE i ρ >>= fun d => if okO d = true then flatRO (.I ns) (Fn [d]) else .no) := rfl
theorem v_tupN {n : Nat} {F : Ev → Rs Dt} : tupNE n F ρ = (F ρ >>= tupND n) := rfl
theorem x_tupN {n : Nat} {ds : List Dt} (h : ds.length = n) : tupND n (.lst ds) = .ok (.tup ds) := if_pos h
theorem v_case3 {w p : Nat} {i : Int} {F0 F1 : Ev → Ot} {F2 : Nat → Ev → Ot} (h : ρ[w]? = some (some (.int i))) : case3 w p F0 F1 F2 ρ = if i = 0 then F0 ρ else if i = 1 ∨ lenOf ρ p = 0 then F1 ρ else F2 (lenOf ρ p) ρ := by
  unfold case3
  rw [h]
end
end Pm
namespace Pm
open PySem PySem.Spec PyProof.Rows L2 C8
structure Txt (K : PySem.W.Frag) (mg : Str → Option Value) : Prop where
  d_pockets_kept : ∃ fd, FunD K "pockets_kept" "pockets_kept" (defArgs s_pockets_kept) (defBody s_pockets_kept) (defScope s_pockets_kept) [] [] (He.ga K "pockets_kept") fd
  g_pockets_kept : mg "pockets_kept" = some (.ref (He.ga K "pockets_kept"))
  d_Mill___init__ : ∃ fd, FunD K "__init__" "Mill.__init__" (defArgs s_Mill___init__) (defBody s_Mill___init__) (defScope s_Mill___init__) [] [] (He.ma K (He.ga K "Mill") "__init__") fd
  d_Mill_codes : ∃ fd, FunD K "codes" "Mill.codes" (defArgs s_Mill_codes) (defBody s_Mill_codes) (defScope s_Mill_codes) [] [] (He.ma K (He.ga K "Mill") "codes") fd
  m_Mill_codes : Meth K (He.ga K "Mill") "codes" (He.ma K (He.ga K "Mill") "codes")
  d_Mill_many : ∃ fd, FunD K "many" "Mill.many" (defArgs s_Mill_many) (defBody s_Mill_many) (defScope s_Mill_many) [] [] (He.ma K (He.ga K "Mill") "many") fd
  m_Mill_many : Meth K (He.ga K "Mill") "many" (He.ma K (He.ga K "Mill") "many")
  d_codes_ahead : ∃ fd, FunD K "codes_ahead" "codes_ahead" (defArgs s_codes_ahead) (defBody s_codes_ahead) (defScope s_codes_ahead) [] [] (He.ga K "codes_ahead") fd
  g_codes_ahead : mg "codes_ahead" = some (.ref (He.ga K "codes_ahead"))
  d__law_cell_at : ∃ fd, FunD K "_law_cell_at" "_law_cell_at" (defArgs s__law_cell_at) (defBody s__law_cell_at) (defScope s__law_cell_at) [] [] (He.ga K "_law_cell_at") fd
  g__law_cell_at : mg "_law_cell_at" = some (.ref (He.ga K "_law_cell_at"))
  d__law_part : ∃ fd, FunD K "_law_part" "_law_part" (defArgs s__law_part) (defBody s__law_part) (defScope s__law_part) [] [] (He.ga K "_law_part") fd
  g__law_part : mg "_law_part" = some (.ref (He.ga K "_law_part"))
  d__law_folded : ∃ fd, FunD K "_law_folded" "_law_folded" (defArgs s__law_folded) (defBody s__law_folded) (defScope s__law_folded) [] [] (He.ga K "_law_folded") fd
  g__law_folded : mg "_law_folded" = some (.ref (He.ga K "_law_folded"))
  d__law_pocket : ∃ fd, FunD K "_law_pocket" "_law_pocket" (defArgs s__law_pocket) (defBody s__law_pocket) (defScope s__law_pocket) [] [] (He.ga K "_law_pocket") fd
  g__law_pocket : mg "_law_pocket" = some (.ref (He.ga K "_law_pocket"))
  d__law_passes : ∃ fd, FunD K "_law_passes" "_law_passes" (defArgs s__law_passes) (defBody s__law_passes) (defScope s__law_passes) [] [] (He.ga K "_law_passes") fd
  g__law_passes : mg "_law_passes" = some (.ref (He.ga K "_law_passes"))
  d__law_whole : ∃ fd, FunD K "_law_whole" "_law_whole" (defArgs s__law_whole) (defBody s__law_whole) (defScope s__law_whole) [] [] (He.ga K "_law_whole") fd
  g__law_whole : mg "_law_whole" = some (.ref (He.ga K "_law_whole"))
  d__law_handed : ∃ fd, FunD K "_law_handed" "_law_handed" (defArgs s__law_handed) (defBody s__law_handed) (defScope s__law_handed) [] [] (He.ga K "_law_handed") fd
  g__law_handed : mg "_law_handed" = some (.ref (He.ga K "_law_handed"))
  d__law_kept : ∃ fd, FunD K "_law_kept" "_law_kept" (defArgs s__law_kept) (defBody s__law_kept) (defScope s__law_kept) [] [] (He.ga K "_law_kept") fd
  g__law_kept : mg "_law_kept" = some (.ref (He.ga K "_law_kept"))
  d_law : ∃ fd, FunD K "law" "law" (defArgs s_law) (defBody s_law) (defScope s_law) [] [] (He.ga K "law") fd
  g_law : mg "law" = some (.ref (He.ga K "law"))
  g_Mill : mg "Mill" = some (.ref (He.ga K "Mill"))
  c_Mill : Cls K (He.ga K "Mill")
  k_Mill : Mk K (He.ga K "Mill") (He.ma K (He.ga K "Mill") "__init__")
  n_Mill_passes : NoAttr K (He.ga K "Mill") "passes"
  g_MillError : mg "MillError" = some (.ref (He.ga K "MillError"))
  x_MillError : PySem.W.excIn K (He.ga K "MillError") He.veBase "ValueError.__new__" = true ∧ PySem.W.keepIn K (.ref (He.ga K "MillError")) = true ∧ PySem.W.subIn K (.ref (He.ga K "MillError")) (.type "BaseException") = some true ∧ PySem.W.typeIn K (.ref (He.ga K "MillError")) = some (.type "type")
  g_BadMill : mg "BadMill" = some (.ref (He.ga K "BadMill"))
  x_BadMill : PySem.W.excIn K (He.ga K "BadMill") He.veBase "ValueError.__new__" = true ∧ PySem.W.keepIn K (.ref (He.ga K "BadMill")) = true ∧ PySem.W.subIn K (.ref (He.ga K "BadMill")) (.type "BaseException") = some true ∧ PySem.W.typeIn K (.ref (He.ga K "BadMill")) = some (.type "type")
  i_MOST_PASSES : ∃ t, mg "MOST_PASSES" = some (.int 6 t)
  i_MOST_POCKETS : ∃ t, mg "MOST_POCKETS" = some (.int 6 t)
  i_MOST_CODES : ∃ t, mg "MOST_CODES" = some (.int 1000 t)
  i_WIDEST : ∃ t, mg "WIDEST" = some (.int 9 t)
  g_KINDS : mg "KINDS" = some (.ref (He.ga K "KINDS"))
  t_KINDS : ∀ H : Hp, SqT K H (He.ga K "KINDS") [.str "queue", .str "pile"]
  b_ValueError : mg "ValueError" = none
  b_bool : mg "bool" = none
  b_int : mg "int" = none
  b_isinstance : mg "isinstance" = none
  b_len : mg "len" = none
  b_list : mg "list" = none
  b_range : mg "range" = none
  b_str : mg "str" = none
  b_tuple : mg "tuple" = none
/-! ### each def as a function, and that it keeps to it -/
def B_pockets_kept_1 : Ev → Ot := (seqS (ifS (orT (boolT (ninE (varE 2) (conE (.ktp [.str "queue", .str "pile"])))) (orT (boolT (ltE (varE 3) (conE (.int 0)))) (boolT (gtE (varE 3) (conE (.int 9)))))) (seqS (raiS "BadMill")
 nextS) nextS)
 (seqS (appS (varP 1) (tupE [(varE 2), (varE 3)]))
 (fgtS [2, 3] nextS)))
theorem e_B_pockets_kept_1 {ρ : Ev} : B_pockets_kept_1 ρ = (seqS (ifS (orT (boolT (ninE (varE 2) (conE (.ktp [.str "queue", .str "pile"])))) (orT (boolT (ltE (varE 3) (conE (.int 0)))) (boolT (gtE (varE 3) (conE (.int 9)))))) (seqS (raiS "BadMill")
 nextS) nextS)
 (seqS (appS (varP 1) (tupE [(varE 2), (varE 3)]))
 (fgtS [2, 3] nextS))) ρ := rfl
def C_pockets_kept_2 : Ev → Ot := (seqS (retS (tupleE (varE 1)))
 nextS)
theorem e_C_pockets_kept_2 {ρ : Ev} : C_pockets_kept_2 ρ = (seqS (retS (tupleE (varE 1)))
 nextS) ρ := rfl
def Fb_pockets_kept : Ev → Ot := (seqS (ifS (orT (boolT (ltE (lenE (varE 0)) (conE (.int 1)))) (boolT (gtE (lenE (varE 0)) (conE (.int 6))))) (seqS (raiS "BadMill")
 nextS) nextS)
 (seqS (asgS 1 (lstE []))
 (seqS (forS (seqI (varE 0)) (tupG 2 (consG (nameG 2) (consG (nameG 3) nilG))) B_pockets_kept_1)
 C_pockets_kept_2)))
def F_pockets_kept : List Dt → Rs Dt := defF 1 4 .F Fb_pockets_kept
def Fb_Mill_many : Ev → Ot := (seqS (retS (lenE (fldE "Mill" "passes" (varE 0))))
 nextS)
def F_Mill_many : List Dt → Rs Dt := defF 1 1 .F Fb_Mill_many
def B_codes_ahead_1 : Ev → Ot := (seqS (asgS 2 (mulE (varE 2) (lenE (varE 3))))
 (fgtS [3] nextS))
theorem e_B_codes_ahead_1 {ρ : Ev} : B_codes_ahead_1 ρ = (seqS (asgS 2 (mulE (varE 2) (lenE (varE 3))))
 (fgtS [3] nextS)) ρ := rfl
def C_codes_ahead_2 : Ev → Ot := (seqS (retS (varE 2))
 nextS)
theorem e_C_codes_ahead_2 {ρ : Ev} : C_codes_ahead_2 ρ = (seqS (retS (varE 2))
 nextS) ρ := rfl
def Fb_codes_ahead : Ev → Ot := (seqS (asgS 2 (conE (.int 1)))
 (seqS (forS (seqI (slcE (fldE "Mill" "passes" (varE 0)) noPart (partO (varE 1)))) (nameG 3) B_codes_ahead_1)
 C_codes_ahead_2))
def F_codes_ahead : List Dt → Rs Dt := defF 2 4 .F Fb_codes_ahead
def Fb_Mill_codes : Ev → Ot := (seqS (retS (callE F_codes_ahead [(varE 0), (methE "Mill" "many" F_Mill_many (varE 0) [])]))
 nextS)
def F_Mill_codes : List Dt → Rs Dt := defF 1 1 .F Fb_Mill_codes
def Fb_Mill___init__ : Ev → Ot := (seqS (ifS (boolT (gtE (lenE (varE 1)) (conE (.int 6)))) (seqS (raiS "BadMill")
 nextS) nextS)
 (seqS (newF "Mill" "passes" 0 (tupleE (compE (seqI (varE 1)) [2] (nameG 2) yesT (callE F_pockets_kept [(varE 2)]))))
 (seqS (ifS (boolT (gtE (methBE "Mill" "codes" F_Mill_codes (varE 0) []) (conE (.int 1000)))) (seqS (raiS "BadMill")
 nextS) nextS)
 nextS)))
def F_Mill___init__ : List Dt → Rs Dt := initF "Mill" 2 3 Fb_Mill___init__
def Fb__law_cell_at : Ev → Ot := (seqS (ifS (boolT (ltE (varE 1) (lenE (varE 0)))) (seqS (retS (ixE (varE 0) (varE 1)))
 nextS) nextS)
 (seqS (retS (conE (.int 0)))
 nextS))
def F__law_cell_at : List Dt → Rs Dt := defF 2 2 .F Fb__law_cell_at
def B__law_part_1 : Ev → Ot := (seqS (asgS 0 (divE (varE 0) (conE (.int 1000000))))
 (fgtS [2] nextS))
theorem e_B__law_part_1 {ρ : Ev} : B__law_part_1 ρ = (seqS (asgS 0 (divE (varE 0) (conE (.int 1000000))))
 (fgtS [2] nextS)) ρ := rfl
def C__law_part_2 : Ev → Ot := (seqS (retS (modE (varE 0) (conE (.int 1000000))))
 nextS)
theorem e_C__law_part_2 {ρ : Ev} : C__law_part_2 ρ = (seqS (retS (modE (varE 0) (conE (.int 1000000))))
 nextS) ρ := rfl
def Fb__law_part : Ev → Ot := (seqS (forS (rng1I [(varE 1)]) (nameG 2) B__law_part_1)
 C__law_part_2)
def F__law_part : List Dt → Rs Dt := defF 2 3 .F Fb__law_part
def B__law_folded_1 : Ev → Ot := (seqS (asgS 2 (modE (addE (addE (mulE (varE 2) (varE 2)) (mulE (varE 3) (conE (.int 131)))) (conE (.int 17))) (conE (.int 1000000000039))))
 (fgtS [3] nextS))
theorem e_B__law_folded_1 {ρ : Ev} : B__law_folded_1 ρ = (seqS (asgS 2 (modE (addE (addE (mulE (varE 2) (varE 2)) (mulE (varE 3) (conE (.int 131)))) (conE (.int 17))) (conE (.int 1000000000039))))
 (fgtS [3] nextS)) ρ := rfl
def B__law_folded_2 : Ev → Ot := (seqS (asgS 2 (modE (addE (addE (mulE (varE 2) (varE 2)) (mulE (conE (.int 48271)) (varE 5))) (conE (.int 11))) (conE (.int 1000000000039))))
 (seqS (appS (varP 4) (varE 2))
 (fgtS [5] nextS)))
theorem e_B__law_folded_2 {ρ : Ev} : B__law_folded_2 ρ = (seqS (asgS 2 (modE (addE (addE (mulE (varE 2) (varE 2)) (mulE (conE (.int 48271)) (varE 5))) (conE (.int 11))) (conE (.int 1000000000039))))
 (seqS (appS (varP 4) (varE 2))
 (fgtS [5] nextS))) ρ := rfl
def B__law_folded_3 : Ev → Ot := (seqS (asgS 6 (modE (varE 5) (varE 1)))
 (seqS (setS (modE (addE (mulE (ixE (varE 4) (varE 6)) (conE (.int 131))) (ixE (varE 0) (varE 5))) (conE (.int 1000000000039))) (varP 4) (varE 6))
 (fgtS [5, 6] nextS)))
theorem e_B__law_folded_3 {ρ : Ev} : B__law_folded_3 ρ = (seqS (asgS 6 (modE (varE 5) (varE 1)))
 (seqS (setS (modE (addE (mulE (ixE (varE 4) (varE 6)) (conE (.int 131))) (ixE (varE 0) (varE 5))) (conE (.int 1000000000039))) (varP 4) (varE 6))
 (fgtS [5, 6] nextS))) ρ := rfl
def C__law_folded_4 : Ev → Ot := (seqS (retS (varE 4))
 nextS)
theorem e_C__law_folded_4 {ρ : Ev} : C__law_folded_4 ρ = (seqS (retS (varE 4))
 nextS) ρ := rfl
def C__law_folded_5 : Ev → Ot := (fgtS [2] (seqS (forS (rng1I [(lenE (varE 0))]) (nameG 5) B__law_folded_3)
 C__law_folded_4))
theorem e_C__law_folded_5 {ρ : Ev} : C__law_folded_5 ρ = (fgtS [2] (seqS (forS (rng1I [(lenE (varE 0))]) (nameG 5) B__law_folded_3)
 C__law_folded_4)) ρ := rfl
def C__law_folded_6 : Ev → Ot := (seqS (asgS 4 (lstE []))
 (seqS (forS (rng1I [(varE 1)]) (nameG 5) B__law_folded_2)
 C__law_folded_5))
theorem e_C__law_folded_6 {ρ : Ev} : C__law_folded_6 ρ = (seqS (asgS 4 (lstE []))
 (seqS (forS (rng1I [(varE 1)]) (nameG 5) B__law_folded_2)
 C__law_folded_5)) ρ := rfl
def Fb__law_folded : Ev → Ot := (seqS (ifS (boolT (eqE (modE (callE F__law_cell_at [(varE 0), (conE (.int 0))]) (conE (.int 2))) (conE (.int 1)))) (seqS (retS (compE (rng1I [(varE 1)]) [5] (nameG 5) yesT (callE F__law_part [(callE F__law_cell_at [(varE 0), (addE (conE (.int 1)) (modE (varE 5) (conE (.int 16))))]), (divE (varE 5) (conE (.int 16)))])))
 nextS) nextS)
 (seqS (asgS 2 (conE (.int 7)))
 (seqS (forS (seqI (varE 0)) (nameG 3) B__law_folded_1)
 C__law_folded_6)))
def F__law_folded : List Dt → Rs Dt := defF 2 7 .F Fb__law_folded
def Fb__law_pocket : Ev → Ot := (seqS (asgS 1 (ixE (lstE [(conE (.int 9)), (conE (.int 9)), (conE (.int 9)), (conE (.int 2)), (modE (divE (varE 0) (conE (.int 16))) (conE (.int 10)))]) (modE (divE (varE 0) (conE (.int 2))) (conE (.int 5)))))
 (seqS (retS (tupE [(ixE (lstE [(conE (.str "queue")), (conE (.str "pile"))]) (modE (varE 0) (conE (.int 2)))), (varE 1)]))
 nextS))
def F__law_pocket : List Dt → Rs Dt := defF 1 2 .F Fb__law_pocket
def B__law_passes_1 : Ev → Ot := (seqS (asgS 5 (ixE (lstE [(conE (.int 1)), (conE (.int 2)), (conE (.int 3)), (conE (.int 2)), (conE (.int 3)), (conE (.int 2)), (conE (.int 4)), (conE (.int 6))]) (modE (divE (ixE (varE 0) (addE (conE (.int 1)) (mulE (conE (.int 7)) (varE 4)))) (conE (.int 5))) (conE (.int 8)))))
 (seqS (ifS (boolT (gtE (mulE (varE 3) (varE 5)) (varE 1))) (seqS (asgS 5 (conE (.int 1)))
 nextS) nextS)
 (seqS (asgS 3 (mulE (varE 3) (varE 5)))
 (seqS (appS (varP 2) (compE (rng1I [(varE 5)]) [6] (nameG 6) yesT (callE F__law_pocket [(ixE (varE 0) (addE (addE (conE (.int 2)) (mulE (conE (.int 7)) (varE 4))) (varE 6)))])))
 (fgtS [4, 5] nextS)))))
theorem e_B__law_passes_1 {ρ : Ev} : B__law_passes_1 ρ = (seqS (asgS 5 (ixE (lstE [(conE (.int 1)), (conE (.int 2)), (conE (.int 3)), (conE (.int 2)), (conE (.int 3)), (conE (.int 2)), (conE (.int 4)), (conE (.int 6))]) (modE (divE (ixE (varE 0) (addE (conE (.int 1)) (mulE (conE (.int 7)) (varE 4)))) (conE (.int 5))) (conE (.int 8)))))
 (seqS (ifS (boolT (gtE (mulE (varE 3) (varE 5)) (varE 1))) (seqS (asgS 5 (conE (.int 1)))
 nextS) nextS)
 (seqS (asgS 3 (mulE (varE 3) (varE 5)))
 (seqS (appS (varP 2) (compE (rng1I [(varE 5)]) [6] (nameG 6) yesT (callE F__law_pocket [(ixE (varE 0) (addE (addE (conE (.int 2)) (mulE (conE (.int 7)) (varE 4))) (varE 6)))])))
 (fgtS [4, 5] nextS))))) ρ := rfl
def C__law_passes_2 : Ev → Ot := (fgtS [3] (seqS (retS (varE 2))
 nextS))
theorem e_C__law_passes_2 {ρ : Ev} : C__law_passes_2 ρ = (fgtS [3] (seqS (retS (varE 2))
 nextS)) ρ := rfl
def Fb__law_passes : Ev → Ot := (seqS (asgS 2 (lstE []))
 (seqS (asgS 3 (conE (.int 1)))
 (seqS (forS (rng1I [(ixE (lstE [(conE (.int 1)), (conE (.int 2)), (conE (.int 3)), (conE (.int 2)), (conE (.int 5)), (conE (.int 4)), (conE (.int 0)), (conE (.int 6))]) (modE (divE (ixE (varE 0) (conE (.int 0))) (conE (.int 3))) (conE (.int 8))))]) (nameG 4) B__law_passes_1)
 C__law_passes_2)))
def F__law_passes : List Dt → Rs Dt := defF 2 7 .F Fb__law_passes
def Fb__law_whole : Ev → Ot := (seqS (retS (andE (isiE .int (varE 0)) (andE (notE (isiE .bool (varE 0))) (eqE (varE 0) (varE 1)))))
 nextS)
def F__law_whole : List Dt → Rs Dt := defF 2 2 .F Fb__law_whole
def Fb__law_handed : Ev → Ot := (seqS (ifS (boolT (eqE (varE 1) (conE (.int 0)))) (seqS (retS (compE (seqI (varE 0)) [2] (nameG 2) yesT (listE (varE 2))))
 nextS) nextS)
 (seqS (ifS (boolT (eqE (varE 1) (conE (.int 1)))) (seqS (retS (tupleE (compE (seqI (varE 0)) [2] (nameG 2) yesT (tupleE (varE 2)))))
 nextS) nextS)
 (seqS (retS (tupleE (compE (seqI (varE 0)) [2] (nameG 2) yesT (listE (varE 2)))))
 nextS)))
def F__law_handed : List Dt → Rs Dt := defF 2 3 .F Fb__law_handed
def Fb__law_handedV0 : Ev → Ot := (seqS (ifS (boolT (eqE (varE 1) (conE (.int 0)))) (seqS (retS (compE (seqI (varE 0)) [2] (nameG 2) yesT (listE (varE 2))))
 nextS) nextS)
 (seqS (ifS (boolT (eqE (varE 1) (conE (.int 1)))) (seqS noS
 nextS) nextS)
 (seqS noS
 nextS)))
def F__law_handedV0 : List Dt → Rs Dt := defF 2 3 (.L (.L .F)) (Fb__law_handedV0)
theorem R__law_handedV0 {d0 d1 : Dt} : F__law_handedV0 [d0, d1] = outF (.L (.L .F)) (Fb__law_handedV0 [some d0, some d1, none]) := v_def rfl
def Fb__law_handedV2 (n : Nat) : Ev → Ot := (seqS (ifS (boolT (eqE (varE 1) (conE (.int 0)))) (seqS noS
 nextS) nextS)
 (seqS (ifS (boolT (eqE (varE 1) (conE (.int 1)))) (seqS noS
 nextS) nextS)
 (seqS (retS (tupNE n (compE (seqI (varE 0)) [2] (nameG 2) yesT (listE (varE 2)))))
 nextS)))
def F__law_handedV2 (n : Nat) : List Dt → Rs Dt := defF 2 3 (.T (List.replicate n (.L .F))) (Fb__law_handedV2 n)
theorem R__law_handedV2 {n : Nat} {d0 d1 : Dt} : F__law_handedV2 n [d0, d1] = outF (.T (List.replicate n (.L .F))) (Fb__law_handedV2 n [some d0, some d1, none]) := v_def rfl
def B__law_kept_1 : Ev → Ot := (seqS (ifS (orT (notT (boolT (isiE .tuple (varE 4)))) (notT (boolT (isiE .str (ixE (varE 4) (conE (.int 0))))))) (seqS (retS (conE (.bl false)))
 nextS) nextS)
 (seqS (ifS (notT (boolT (callE F__law_whole [(ixE (varE 4) (conE (.int 1))), (ixE (varE 4) (conE (.int 1)))]))) (seqS (retS (conE (.bl false)))
 nextS) nextS)
 (fgtS [4] nextS)))
theorem e_B__law_kept_1 {ρ : Ev} : B__law_kept_1 ρ = (seqS (ifS (orT (notT (boolT (isiE .tuple (varE 4)))) (notT (boolT (isiE .str (ixE (varE 4) (conE (.int 0))))))) (seqS (retS (conE (.bl false)))
 nextS) nextS)
 (seqS (ifS (notT (boolT (callE F__law_whole [(ixE (varE 4) (conE (.int 1))), (ixE (varE 4) (conE (.int 1)))]))) (seqS (retS (conE (.bl false)))
 nextS) nextS)
 (fgtS [4] nextS))) ρ := rfl
def C__law_kept_2 : Ev → Ot := (seqS (asgS 2 (mulE (varE 2) (lenE (varE 3))))
 (fgtS [3, 4] nextS))
theorem e_C__law_kept_2 {ρ : Ev} : C__law_kept_2 ρ = (seqS (asgS 2 (mulE (varE 2) (lenE (varE 3))))
 (fgtS [3, 4] nextS)) ρ := rfl
def B__law_kept_3 : Ev → Ot := (seqS (ifS (notT (boolT (isiE .tuple (varE 3)))) (seqS (retS (conE (.bl false)))
 nextS) nextS)
 (seqS (forS (seqI (varE 3)) (nameG 4) B__law_kept_1)
 C__law_kept_2))
theorem e_B__law_kept_3 {ρ : Ev} : B__law_kept_3 ρ = (seqS (ifS (notT (boolT (isiE .tuple (varE 3)))) (seqS (retS (conE (.bl false)))
 nextS) nextS)
 (seqS (forS (seqI (varE 3)) (nameG 4) B__law_kept_1)
 C__law_kept_2)) ρ := rfl
def C__law_kept_4 : Ev → Ot := (seqS (retS (andE (callE F__law_whole [(methE "Mill" "codes" F_Mill_codes (varE 0) []), (varE 2)]) (callE F__law_whole [(methE "Mill" "many" F_Mill_many (varE 0) []), (lenE (varE 1))])))
 nextS)
theorem e_C__law_kept_4 {ρ : Ev} : C__law_kept_4 ρ = (seqS (retS (andE (callE F__law_whole [(methE "Mill" "codes" F_Mill_codes (varE 0) []), (varE 2)]) (callE F__law_whole [(methE "Mill" "many" F_Mill_many (varE 0) []), (lenE (varE 1))])))
 nextS) ρ := rfl
def Fb__law_kept : Ev → Ot := (seqS (ifS (orT (notT (boolT (isiE .tuple (fldE "Mill" "passes" (varE 0))))) (boolT (neE (fldE "Mill" "passes" (varE 0)) (tupleE (compE (seqI (varE 1)) [3] (nameG 3) yesT (tupleE (varE 3))))))) (seqS (retS (conE (.bl false)))
 nextS) nextS)
 (seqS (asgS 2 (conE (.int 1)))
 (seqS (forS (seqI (fldE "Mill" "passes" (varE 0))) (nameG 3) B__law_kept_3)
 C__law_kept_4)))
def F__law_kept : List Dt → Rs Dt := defF 2 5 .F Fb__law_kept
def B_law_1 : Ev → Ot := (seqS (asgG (tupG 2 (consG (nameG 7) (consG (nameG 8) nilG))) (ixE (varE 6) (conE (.int 0))))
 (seqS (setS (tupE [(ifE (boolT (eqE (varE 7) (conE (.str "queue")))) (conE (.str "pile")) (conE (.str "queue"))), (subE (conE (.int 9)) (varE 8))]) (varP 6) (conE (.int 0)))
 (fgtS [7, 8] nextS)))
theorem e_B_law_1 {ρ : Ev} : B_law_1 ρ = (seqS (asgG (tupG 2 (consG (nameG 7) (consG (nameG 8) nilG))) (ixE (varE 6) (conE (.int 0))))
 (seqS (setS (tupE [(ifE (boolT (eqE (varE 7) (conE (.str "queue")))) (conE (.str "pile")) (conE (.str "queue"))), (subE (conE (.int 9)) (varE 8))]) (varP 6) (conE (.int 0)))
 (fgtS [7, 8] nextS))) ρ := rfl
def C_law_2 : Ev → Ot := (fgtS [6, 7, 8] nextS)
theorem e_C_law_2 {ρ : Ev} : C_law_2 ρ = (fgtS [6, 7, 8] nextS) ρ := rfl
def C_law_3 : Ev → Ot := (fgtS [6, 7, 8] nextS)
theorem e_C_law_3 {ρ : Ev} : C_law_3 ρ = (fgtS [6, 7, 8] nextS) ρ := rfl
def B_law_4 : Ev → Ot := (seqS (asgG (tupG 2 (consG (nameG 7) (consG (nameG 8) nilG))) (ixE (varE 6) (conE (.int 0))))
 (seqS (setS (tupE [(ifE (boolT (eqE (varE 7) (conE (.str "queue")))) (conE (.str "pile")) (conE (.str "queue"))), (subE (conE (.int 9)) (varE 8))]) (varP 6) (conE (.int 0)))
 (fgtS [7, 8] nextS)))
theorem e_B_law_4 {ρ : Ev} : B_law_4 ρ = (seqS (asgG (tupG 2 (consG (nameG 7) (consG (nameG 8) nilG))) (ixE (varE 6) (conE (.int 0))))
 (seqS (setS (tupE [(ifE (boolT (eqE (varE 7) (conE (.str "queue")))) (conE (.str "pile")) (conE (.str "queue"))), (subE (conE (.int 9)) (varE 8))]) (varP 6) (conE (.int 0)))
 (fgtS [7, 8] nextS))) ρ := rfl
def C_law_5 : Ev → Ot := (fgtS [6, 7, 8] nextS)
theorem e_C_law_5 {ρ : Ev} : C_law_5 ρ = (fgtS [6, 7, 8] nextS) ρ := rfl
def Fb_law : Ev → Ot := (seqS (asgS 1 (callE F__law_folded [(varE 0), (conE (.int 44))]))
 (seqS (asgS 2 (callE F__law_passes [(varE 1), (conE (.int 1000))]))
 (seqS (asgS 3 (modE (ixE (varE 1) (conE (.int 43))) (conE (.int 3))))
 (case3 3 2 (seqS (asgS 4 (callE F__law_handedV0 [(varE 2), (varE 3)]))
 (seqS (asgS 5 (makeOE 4 [.F] F_Mill___init__))
 (seqS (ifS (boolT (neE (varE 4) (callE F__law_handedV0 [(varE 2), (varE 3)]))) (seqS (retS (conE (.bl false)))
 nextS) nextS)
 (seqS (ifS (boolT (neE (varE 3) (conE (.int 1)))) (seqS (forM 4 none 6 B_law_1)
 C_law_2) nextS)
 (seqS (ifS (boolT (eqE (varE 3) (conE (.int 0)))) (seqS (clrS (varP 4))
 nextS) nextS)
 (seqS (retS (andE (callE F__law_kept [(varE 5), (varE 2)]) (callE F__law_kept [(callE F_Mill___init__ [(listE (fldE "Mill" "passes" (varE 5)))]), (varE 2)])))
 nextS))))))
 (seqS (asgS 4 (callE F__law_handed [(varE 2), (varE 3)]))
 (seqS (asgS 5 (callE F_Mill___init__ [(varE 4)]))
 (seqS (ifS (boolT (neE (varE 4) (callE F__law_handed [(varE 2), (varE 3)]))) (seqS (retS (conE (.bl false)))
 nextS) nextS)
 (seqS (ifS (boolT (neE (varE 3) (conE (.int 1)))) (seqS (forS (seqI (varE 4)) (nameG 6) noS)
 C_law_3) nextS)
 (seqS (ifS (boolT (eqE (varE 3) (conE (.int 0)))) noS nextS)
 (seqS (retS (andE (callE F__law_kept [(varE 5), (varE 2)]) (callE F__law_kept [(callE F_Mill___init__ [(listE (fldE "Mill" "passes" (varE 5)))]), (varE 2)])))
 nextS))))))
 (fun n => (seqS (asgS 4 (callE (F__law_handedV2 n) [(varE 2), (varE 3)]))
 (seqS (asgS 5 (makeOE 4 [.F] F_Mill___init__))
 (seqS (ifS (boolT (neE (varE 4) (callE (F__law_handedV2 n) [(varE 2), (varE 3)]))) (seqS (retS (conE (.bl false)))
 nextS) nextS)
 (seqS (ifS (boolT (neE (varE 3) (conE (.int 1)))) (seqS (forU 4 6 B_law_4)
 C_law_5) nextS)
 (seqS (ifS (boolT (eqE (varE 3) (conE (.int 0)))) noS nextS)
 (seqS (retS (andE (callE F__law_kept [(varE 5), (varE 2)]) (callE F__law_kept [(callE F_Mill___init__ [(listE (fldE "Mill" "passes" (varE 5)))]), (varE 2)])))
 nextS)))))))))))
def F_law : List Dt → Rs Dt := defF 1 9 .F Fb_law
theorem R_pockets_kept {d0 : Dt} : F_pockets_kept [d0] = outF .F (Fb_pockets_kept [some d0, none, none, none]) := v_def rfl
theorem R_Mill_many {d0 : Dt} : F_Mill_many [d0] = outF .F (Fb_Mill_many [some d0]) := v_def rfl
theorem R_codes_ahead {d0 d1 : Dt} : F_codes_ahead [d0, d1] = outF .F (Fb_codes_ahead [some d0, some d1, none, none]) := v_def rfl
theorem R_Mill_codes {d0 : Dt} : F_Mill_codes [d0] = outF .F (Fb_Mill_codes [some d0]) := v_def rfl
theorem R_Mill___init__ {d0 : Dt} : F_Mill___init__ [d0] = outI (Fb_Mill___init__ [some (.ins "Mill" [] []), some d0, none]) := v_init rfl
theorem R__law_cell_at {d0 d1 : Dt} : F__law_cell_at [d0, d1] = outF .F (Fb__law_cell_at [some d0, some d1]) := v_def rfl
theorem R__law_part {d0 d1 : Dt} : F__law_part [d0, d1] = outF .F (Fb__law_part [some d0, some d1, none]) := v_def rfl
theorem R__law_folded {d0 d1 : Dt} : F__law_folded [d0, d1] = outF .F (Fb__law_folded [some d0, some d1, none, none, none, none, none]) := v_def rfl
theorem R__law_pocket {d0 : Dt} : F__law_pocket [d0] = outF .F (Fb__law_pocket [some d0, none]) := v_def rfl
theorem R__law_passes {d0 d1 : Dt} : F__law_passes [d0, d1] = outF .F (Fb__law_passes [some d0, some d1, none, none, none, none, none]) := v_def rfl
theorem R__law_whole {d0 d1 : Dt} : F__law_whole [d0, d1] = outF .F (Fb__law_whole [some d0, some d1]) := v_def rfl
theorem R__law_handed {d0 d1 : Dt} : F__law_handed [d0, d1] = outF .F (Fb__law_handed [some d0, some d1, none]) := v_def rfl
theorem R__law_kept {d0 d1 : Dt} : F__law_kept [d0, d1] = outF .F (Fb__law_kept [some d0, some d1, none, none, none]) := v_def rfl
theorem R_law {d0 : Dt} : F_law [d0] = outF .F (Fb_law [some d0, none, none, none, none, none, none, none, none]) := v_def rfl
section
variable {P : Program} {w : World} {K : PySem.W.Frag} {mg : Str → Option Value}
theorem sc_pockets_kept : FnScope ["pockets", "kept", "kind", "width"] ["pockets"] (defScope s_pockets_kept) := ⟨rfl, rfl, rfl, by decide +kernel, rfl, by decide +kernel, by decide +kernel⟩
theorem ok_pockets_kept (T : Txt K mg) : ∃ fd, (∀ base : Heap, FnOk P w K mg base (L2.CX P w) 1 (He.ga K "pockets_kept") fd ["pockets"] (spM K (He.ga K) 1 .F F_pockets_kept)) ∧ Binds K fd ["pockets"] [] ∧ PySem.W.keepIn K (.ref (He.ga K "pockets_kept")) = true := by
  obtain ⟨fd, F⟩ := T.d_pockets_kept
  have nd := sc_pockets_kept.nd
  refine ⟨fd, fun base => ?_, F.bindsN (fun _ _ _ _ _ _ us hl => match us, hl with | [_], _ => rfl), F.kp⟩
  refine fn_def (Γ0 := [.F, .F, .F, .F]) (Γ1 := [.F, .F, .F, .F]) F sc_pockets_kept rfl (hpF (n := 1) rfl (by decide)) (fun cdv A outer s H E hr => ?_)
  refine ⟨_, ?_, (ss_seq (ss_if (st_or (st_val (se_B (se_lt (se_B (se_len (se_B (se_var (i := 0) rfl)))) (se_B se_int)))) (st_val (se_B (se_gt (se_B (se_len (se_B (se_var (i := 0) rfl)))) (se_B se_int))))) (ss_seq (ss_rai (c := "BadMill") (.inl rfl))
 ss_next) ss_next (.inl rfl))
 (ss_seq (ss_asg (i := 1) (m := (.L .F)) (se_lst (m := .F) sz_nil) (.inl rfl))
 (ss_seq (ss_for (vs := [2, 3]) (si_seq (se_var (i := 0) rfl)) (sg_tup (n := 2) (sgs_cons (sg_name (i := 2)) (sgs_cons (sg_name (i := 3)) sgs_nil))) (ss_seq (ss_if (st_or (st_val (se_B (se_nin (se_B (se_var (i := 2) rfl)) (se_B (se_con (d := .ktp [.str "queue", .str "pile"]) fun G => .ktp (T.t_KINDS G) (.cons (.str _) (.cons (.str _) .nil))))))) (st_or (st_val (se_B (se_lt (se_B (se_var (i := 3) rfl)) (se_B se_int)))) (st_val (se_B (se_gt (se_B (se_var (i := 3) rfl)) (se_B se_int)))))) (ss_frz (i := 1) (ss_seq (ss_rai (c := "BadMill") (.inl rfl))
 ss_next)) ss_next (.inl rfl))
 (ss_seq (ss_app (sp_var (i := 1) rfl) (se_tupF (sz_cons (se_var (i := 2) rfl) (sz_cons (se_var (i := 3) rfl) sz_nil))) (.inl rfl))
 (ss_fgt (vs := [2, 3]) ss_next))) (.inl rfl))
 (ss_frz (i := 1) (ss_seq (ss_ret (se_tuple (se_var (i := 1) rfl)) (.inl rfl))
 ss_next)))))⟩
  exact (pss_cons (ps_if (PW.pt (pw_or (pt_cmpR op_lt (pe_callB call_len (by rfl) T.b_len (by decide +kernel) (pa_cons (pv 0) pa_nil)) pe_int (nomark _)) (pw_or1 (pt_cmpR op_gt (pe_callB call_len (by rfl) T.b_len (by decide +kernel) (pa_cons (pv 0) pa_nil)) (pe_globI T.i_MOST_POCKETS) (nomark _))))) (pss_cons (ps_raise rfl (takes_of rfl rfl rfl rfl) (pmk_own PySem.F.excBase_ValueError T.x_BadMill.1 T.g_BadMill T.x_BadMill.2.1 (raises_own T.x_BadMill.2.2.1 T.x_BadMill.2.2.2) (by rfl)))
 pss_nil) pss_nil)
 (pss_cons (ps_set (i := 1) nd rfl (by first | exact Or.inl rfl | exact Or.inr rfl) (pe_lst pa_nil))
 (pss_cons (ps_for (passes_of rfl) rfl (pi_seqA (pv 0)) (pg_tup rfl (pgs_cons (pg_name (i := 2) nd rfl (by first | exact Or.inl rfl | exact Or.inr rfl)) (pgs_cons (pg_name (i := 3) nd rfl (by first | exact Or.inl rfl | exact Or.inr rfl)) pgs_nil))) (pss_cons (ps_if (PW.pt (pw_or (pt_cmpR op_notIn_seq (pv 2) (pe_glob (v := .ref (He.ga _ "KINDS")) rfl T.g_KINDS rfl) (by rfl)) (pw_or (pt_cmpR op_lt (pv 3) pe_int (nomark _)) (pw_or1 (pt_cmpR op_gt (pv 3) (pe_globI T.i_WIDEST) (nomark _)))))) (pss_cons (ps_raise rfl (takes_of rfl rfl rfl rfl) (pmk_own PySem.F.excBase_ValueError T.x_BadMill.1 T.g_BadMill T.x_BadMill.2.1 (raises_own T.x_BadMill.2.2.1 T.x_BadMill.2.2.2) (by rfl)))
 pss_nil) pss_nil)
 (pss_cons (ps_expr (pe_bm PySem.F.plainAttrs_list PySem.F.slot_list_append PySem.F.type_list_append mt_append (pv 1) (pa_cons (pe_tup (pa_cons (pv 2) (pa_cons (pv 3) pa_nil))) pa_nil)))
 pss_nil)))
 (pss_cons (ps_ret (pe_callTy call_tuple_of (by rfl) T.b_tuple (by decide +kernel) (pa_cons (pv 1) pa_nil)))
 pss_nil))))
theorem sc_Mill_many : FnScope ["self"] ["self"] (defScope s_Mill_many) := ⟨rfl, rfl, rfl, by decide +kernel, rfl, by decide +kernel, by decide +kernel⟩
theorem ok_Mill_many (T : Txt K mg) : ∃ fd, (∀ base : Heap, FnOk P w K mg base (L2.CX P w) 1 (He.ma K (He.ga K "Mill") "many") fd ["self"] (spM K (He.ga K) 1 .F F_Mill_many)) ∧ Binds K fd ["self"] [] ∧ PySem.W.keepIn K (.ref (He.ma K (He.ga K "Mill") "many")) = true := by
  obtain ⟨fd, F⟩ := T.d_Mill_many
  have nd := sc_Mill_many.nd
  refine ⟨fd, fun base => ?_, F.bindsN (fun _ _ _ _ _ _ us hl => match us, hl with | [_], _ => rfl), F.kp⟩
  refine fn_def (Γ0 := [.F]) (Γ1 := [.F]) F sc_Mill_many rfl (hpF (n := 1) rfl (by decide)) (fun cdv A outer s H E hr => ?_)
  refine ⟨_, ?_, (ss_seq (ss_ret (se_len (se_B (se_fld T.c_Mill T.n_Mill_passes (se_var (i := 0) rfl)))) (.inl rfl))
 ss_next)⟩
  exact (pss_cons (ps_ret (pe_callB call_len (by rfl) T.b_len (by decide +kernel) (pa_cons (pe_fld (pv 0) rfl) pa_nil)))
 pss_nil)
theorem sc_codes_ahead : FnScope ["mill", "late", "product", "pockets"] ["mill", "late"] (defScope s_codes_ahead) := ⟨rfl, rfl, rfl, by decide +kernel, rfl, by decide +kernel, by decide +kernel⟩
theorem ok_codes_ahead (T : Txt K mg) : ∃ fd, (∀ base : Heap, FnOk P w K mg base (L2.CX P w) 1 (He.ga K "codes_ahead") fd ["mill", "late"] (spM K (He.ga K) 2 .F F_codes_ahead)) ∧ Binds K fd ["mill", "late"] [] ∧ PySem.W.keepIn K (.ref (He.ga K "codes_ahead")) = true := by
  obtain ⟨fd, F⟩ := T.d_codes_ahead
  have nd := sc_codes_ahead.nd
  refine ⟨fd, fun base => ?_, F.bindsN (fun _ _ _ _ _ _ us hl => match us, hl with | [_, _], _ => rfl), F.kp⟩
  refine fn_def (Γ0 := [.F, .F, .F, .F]) (Γ1 := [.F, .F, .F, .F]) F sc_codes_ahead rfl (hpF (n := 2) rfl (by decide)) (fun cdv A outer s H E hr => ?_)
  refine ⟨_, ?_, (ss_seq (ss_asgF (i := 2) se_int (.inl rfl))
 (ss_seq (ss_for (vs := [3]) (si_seq (se_slc (se_fld T.c_Mill T.n_Mill_passes (se_var (i := 0) rfl)) so_none (so_some (se_B (se_var (i := 1) rfl))))) (sg_name (i := 3)) (ss_seq (ss_asgF (i := 2) (se_mul (se_B (se_var (i := 2) rfl)) (se_B (se_len (se_B (se_var (i := 3) rfl))))) (.inl rfl))
 (ss_fgt (vs := [3]) ss_next)) (.inl rfl))
 (ss_seq (ss_ret (se_var (i := 2) rfl) (.inl rfl))
 ss_next)))⟩
  exact (pss_cons (ps_set (i := 2) nd rfl (by first | exact Or.inl rfl | exact Or.inr rfl) pe_int)
 (pss_cons (ps_for (passes_of rfl) rfl (pi_seqA (pe_slice sl_any (pe_fld (pv 0) rfl) po_none (po_some (pv 1)))) (pg_name (i := 3) nd rfl (by first | exact Or.inl rfl | exact Or.inr rfl)) (pss_cons (ps_set (i := 2) nd rfl (by first | exact Or.inl rfl | exact Or.inr rfl) (pe_op op_mul (pv 2) (pe_callB call_len (by rfl) T.b_len (by decide +kernel) (pa_cons (pv 3) pa_nil))))
 pss_nil))
 (pss_cons (ps_ret (pv 2))
 pss_nil)))
theorem sc_Mill_codes : FnScope ["self"] ["self"] (defScope s_Mill_codes) := ⟨rfl, rfl, rfl, by decide +kernel, rfl, by decide +kernel, by decide +kernel⟩
theorem ok_Mill_codes (T : Txt K mg) : ∃ fd, (∀ base : Heap, FnOk P w K mg base (L2.CX P w) 2 (He.ma K (He.ga K "Mill") "codes") fd ["self"] (spM K (He.ga K) 1 .F F_Mill_codes)) ∧ Binds K fd ["self"] [] ∧ PySem.W.keepIn K (.ref (He.ma K (He.ga K "Mill") "codes")) = true := by
  obtain ⟨fd, F⟩ := T.d_Mill_codes
  obtain ⟨fd_Mill_many, G_Mill_many, b_Mill_many, k_Mill_many⟩ := ok_Mill_many (P := P) (w := w) T
  obtain ⟨fd_codes_ahead, G_codes_ahead, b_codes_ahead, k_codes_ahead⟩ := ok_codes_ahead (P := P) (w := w) T
  have nd := sc_Mill_codes.nd
  refine ⟨fd, fun base => ?_, F.bindsN (fun _ _ _ _ _ _ us hl => match us, hl with | [_], _ => rfl), F.kp⟩
  have G_Mill_many := G_Mill_many base
  have G_codes_ahead := G_codes_ahead base
  refine fn_def (Γ0 := [.F]) (Γ1 := [.F]) F sc_Mill_codes rfl (hpF (n := 1) rfl (by decide)) (fun cdv A outer s H E hr => ?_)
  refine ⟨_, ?_, (ss_seq (ss_ret (se_call (m := .F) (sz_cons (se_var (i := 0) rfl) (sz_cons (se_meth (C := "Mill") (mm := "many") (m := .F) (se_var (i := 0) rfl) sz_nil) sz_nil))) (.inl rfl))
 ss_next)⟩
  exact (pss_cons (ps_ret (pe_callS G_codes_ahead (hr.mono (by decide)) rfl T.g_codes_ahead k_codes_ahead b_codes_ahead (fun σ => passAt (takes_of rfl rfl rfl rfl) σ) (pa_cons (pv 0) (pa_cons (pe_methS0 (pv 0) T.c_Mill T.m_Mill_many G_Mill_many (hr.mono (by decide)) b_Mill_many (fun σ => passAt (takes_of rfl rfl rfl rfl) σ)) pa_nil))))
 pss_nil)
theorem sc_Mill___init__ : FnScope ["self", "passes", "pockets"] ["self", "passes"] (defScope s_Mill___init__) := ⟨rfl, rfl, rfl, by decide +kernel, rfl, by decide +kernel, by decide +kernel⟩
theorem ok_Mill___init__ (T : Txt K mg) : ∃ fd, (∀ base : Heap, FnOk P w K mg base (L2.CX P w) 3 (He.ma K (He.ga K "Mill") "__init__") fd ["self", "passes"] (spI K (He.ga K) "Mill" 2 [.F] F_Mill___init__)) ∧ Binds K fd ["self", "passes"] [] ∧ PySem.W.keepIn K (.ref (He.ma K (He.ga K "Mill") "__init__")) = true := by
  obtain ⟨fd, F⟩ := T.d_Mill___init__
  obtain ⟨fd_Mill_codes, G_Mill_codes, b_Mill_codes, k_Mill_codes⟩ := ok_Mill_codes (P := P) (w := w) T
  obtain ⟨fd_pockets_kept, G_pockets_kept, b_pockets_kept, k_pockets_kept⟩ := ok_pockets_kept (P := P) (w := w) T
  have nd := sc_Mill___init__.nd
  refine ⟨fd, fun base => ?_, F.bindsN (fun _ _ _ _ _ _ us hl => match us, hl with | [_, _], _ => rfl), F.kp⟩
  have G_Mill_codes := G_Mill_codes base
  have G_pockets_kept := G_pockets_kept base
  refine fn_init (Γ0 := [.F, .F]) (Γ1 := [(.I [.F]), .F, .F]) F sc_Mill___init__ rfl (fun i hi => hpF (n := 1) rfl (by decide) i (by have hi : i + 1 < 2 := hi; omega)) rfl (fun cdv A outer s H E xv hr => ?_)
  refine ⟨_, ?_, (ss_seq (ss_if (st_val (se_B (se_gt (se_B (se_len (se_B (se_var (i := 1) rfl)))) (se_B se_int)))) (ss_seq (ss_rai (c := "BadMill") (.inl rfl))
 ss_next) ss_next (.inl rfl))
 (ss_seq (ss_newF (C := "Mill") (f := "passes") (i := 0) T.c_Mill T.n_Mill_passes rfl (se_tuple (se_frz (se_comp (vs := [2]) (m := .F) (six (si_seq (se_var (i := 1) rfl))) (sg_name (i := 2)) st_yes (se_call (m := .F) (sz_cons (se_var (i := 2) rfl) sz_nil))))) (.inl rfl))
 (ss_seq (ss_if (st_val (se_B (se_gt (se_B (se_methB (C := "Mill") (mm := "codes") (se_varB (i := 0)) sb_nil)) (se_B se_int)))) (ss_seq (ss_rai (c := "BadMill") (.inl rfl))
 ss_next) ss_next (.inl rfl))
 ss_next)))⟩
  exact (pss_cons (ps_if (pt_cmpR op_gt (pe_callB call_len (by rfl) T.b_len (by decide +kernel) (pa_cons (pv 1) pa_nil)) (pe_globI T.i_MOST_PASSES) (nomark _)) (pss_cons (ps_raise rfl (takes_of rfl rfl rfl rfl) (pmk_own PySem.F.excBase_ValueError T.x_BadMill.1 T.g_BadMill T.x_BadMill.2.1 (raises_own T.x_BadMill.2.2.1 T.x_BadMill.2.2.2) (by rfl)))
 pss_nil) pss_nil)
 (pss_cons (ps_fld (pv 0) (pe_callTy call_tuple_of (by rfl) T.b_tuple (by decide +kernel) (pa_cons (pe_lc (own := [("pockets", 2)]) rfl nd (pi_seqA (pv 1)) (blkOk_by (N := ["self", "passes", "pockets"]) (sc := defScope s_Mill___init__) (own := [("pockets", 2)]) (by decide +kernel)) (fun _ _ _ _ _ => (pg_name (i := 2) nd rfl (by first | exact Or.inl rfl | exact Or.inr rfl))) (fun _ _ _ _ _ => pts_nil) (fun _ _ _ _ _ => (pe_callS G_pockets_kept (hr.mono (by decide)) rfl T.g_pockets_kept k_pockets_kept b_pockets_kept (fun σ => passAt takes0 σ) (pa_cons (pv 2) pa_nil)))) pa_nil)) rfl)
 (pss_cons (ps_if (pt_cmpR op_gt (pe_methS0 (pv 0) T.c_Mill T.m_Mill_codes G_Mill_codes (hr.mono (by decide)) b_Mill_codes (fun σ => passAt (takes_of rfl rfl rfl rfl) σ)) (pe_globI T.i_MOST_CODES) (nomark _)) (pss_cons (ps_raise rfl (takes_of rfl rfl rfl rfl) (pmk_own PySem.F.excBase_ValueError T.x_BadMill.1 T.g_BadMill T.x_BadMill.2.1 (raises_own T.x_BadMill.2.2.1 T.x_BadMill.2.2.2) (by rfl)))
 pss_nil) pss_nil)
 pss_nil)))
theorem sc__law_cell_at : FnScope ["script", "k"] ["script", "k"] (defScope s__law_cell_at) := ⟨rfl, rfl, rfl, by decide +kernel, rfl, by decide +kernel, by decide +kernel⟩
theorem ok__law_cell_at (T : Txt K mg) : ∃ fd, (∀ base : Heap, FnOk P w K mg base (L2.CX P w) 1 (He.ga K "_law_cell_at") fd ["script", "k"] (spM K (He.ga K) 2 .F F__law_cell_at)) ∧ Binds K fd ["script", "k"] [] ∧ PySem.W.keepIn K (.ref (He.ga K "_law_cell_at")) = true := by
  obtain ⟨fd, F⟩ := T.d__law_cell_at
  have nd := sc__law_cell_at.nd
  refine ⟨fd, fun base => ?_, F.bindsN (fun _ _ _ _ _ _ us hl => match us, hl with | [_, _], _ => rfl), F.kp⟩
  refine fn_def (Γ0 := [.F, .F]) (Γ1 := [.F, .F]) F sc__law_cell_at rfl (hpF (n := 2) rfl (by decide)) (fun cdv A outer s H E hr => ?_)
  refine ⟨_, ?_, (ss_seq (ss_if (st_val (se_B (se_lt (se_B (se_var (i := 1) rfl)) (se_B (se_len (se_B (se_var (i := 0) rfl))))))) (ss_seq (ss_ret (se_ix (se_S (se_var (i := 0) rfl)) (se_B (se_var (i := 1) rfl))) (.inl rfl))
 ss_next) ss_next (.inl rfl))
 (ss_seq (ss_ret se_int (.inl rfl))
 ss_next))⟩
  exact (pss_cons (ps_if (pt_cmpR op_lt (pv 1) (pe_callB call_len (by rfl) T.b_len (by decide +kernel) (pa_cons (pv 0) pa_nil)) (nomark _)) (pss_cons (ps_ret (pe_ix ix_seq (pv 0) (pv 1) (fun _ _ => rfl)))
 pss_nil) pss_nil)
 (pss_cons (ps_ret pe_int)
 pss_nil))
theorem sc__law_part : FnScope ["cell", "at", "k"] ["cell", "at"] (defScope s__law_part) := ⟨rfl, rfl, rfl, by decide +kernel, rfl, by decide +kernel, by decide +kernel⟩
theorem ok__law_part (T : Txt K mg) : ∃ fd, (∀ base : Heap, FnOk P w K mg base (L2.CX P w) 1 (He.ga K "_law_part") fd ["cell", "at"] (spM K (He.ga K) 2 .F F__law_part)) ∧ Binds K fd ["cell", "at"] [] ∧ PySem.W.keepIn K (.ref (He.ga K "_law_part")) = true := by
  obtain ⟨fd, F⟩ := T.d__law_part
  have nd := sc__law_part.nd
  refine ⟨fd, fun base => ?_, F.bindsN (fun _ _ _ _ _ _ us hl => match us, hl with | [_, _], _ => rfl), F.kp⟩
  refine fn_def (Γ0 := [.F, .F, .F]) (Γ1 := [.F, .F, .F]) F sc__law_part rfl (hpF (n := 2) rfl (by decide)) (fun cdv A outer s H E hr => ?_)
  refine ⟨_, ?_, (ss_seq (ss_for (vs := [2]) (si_rng1 (sb_cons (se_B (se_var (i := 1) rfl)) sb_nil)) (sg_name (i := 2)) (ss_seq (ss_asgF (i := 0) (se_div (se_B (se_var (i := 0) rfl)) (se_B se_int)) (.inl rfl))
 (ss_fgt (vs := [2]) ss_next)) (.inl rfl))
 (ss_seq (ss_ret (se_mod (se_B (se_var (i := 0) rfl)) (se_B se_int)) (.inl rfl))
 ss_next))⟩
  exact (pss_cons (ps_for (passes_of rfl) rfl (pi_range1 rfl T.b_range (pa_cons (pv 1) pa_nil)) (pg_name (i := 2) nd rfl (by first | exact Or.inl rfl | exact Or.inr rfl)) (pss_cons (ps_set (i := 0) nd rfl (by first | exact Or.inl rfl | exact Or.inr rfl) (pe_op op_fdivW (pv 0) pe_int))
 pss_nil))
 (pss_cons (ps_ret (pe_op op_mod (pv 0) pe_int))
 pss_nil))
theorem sc__law_folded : FnScope ["script", "many", "stir", "cell", "found", "k", "at"] ["script", "many"] (defScope s__law_folded) := ⟨rfl, rfl, rfl, by decide +kernel, rfl, by decide +kernel, by decide +kernel⟩
theorem ok__law_folded (T : Txt K mg) : ∃ fd, (∀ base : Heap, FnOk P w K mg base (L2.CX P w) 2 (He.ga K "_law_folded") fd ["script", "many"] (spM K (He.ga K) 2 .F F__law_folded)) ∧ Binds K fd ["script", "many"] [] ∧ PySem.W.keepIn K (.ref (He.ga K "_law_folded")) = true := by
  obtain ⟨fd, F⟩ := T.d__law_folded
  obtain ⟨fd__law_cell_at, G__law_cell_at, b__law_cell_at, k__law_cell_at⟩ := ok__law_cell_at (P := P) (w := w) T
  obtain ⟨fd__law_part, G__law_part, b__law_part, k__law_part⟩ := ok__law_part (P := P) (w := w) T
  have nd := sc__law_folded.nd
  refine ⟨fd, fun base => ?_, F.bindsN (fun _ _ _ _ _ _ us hl => match us, hl with | [_, _], _ => rfl), F.kp⟩
  have G__law_cell_at := G__law_cell_at base
  have G__law_part := G__law_part base
  refine fn_def (Γ0 := [.F, .F, .F, .F, .F, .F, .F]) (Γ1 := [.F, .F, .F, .F, .F, .F, .F]) F sc__law_folded rfl (hpF (n := 2) rfl (by decide)) (fun cdv A outer s H E hr => ?_)
  refine ⟨_, ?_, (ss_seq (ss_if (st_val (se_B (se_eq (se_B (se_mod (se_B (se_call (m := .F) (sz_cons (se_var (i := 0) rfl) (sz_cons se_int sz_nil)))) (se_B se_int))) (se_B se_int)))) (ss_seq (ss_ret (se_frz (se_comp (vs := [5]) (m := .F) (six (si_rng1 (sb_cons (se_B (se_var (i := 1) rfl)) sb_nil))) (sg_name (i := 5)) st_yes (se_call (m := .F) (sz_cons (se_call (m := .F) (sz_cons (se_var (i := 0) rfl) (sz_cons (se_add (se_B se_int) (se_B (se_mod (se_B (se_var (i := 5) rfl)) (se_B se_int)))) sz_nil))) (sz_cons (se_div (se_B (se_var (i := 5) rfl)) (se_B se_int)) sz_nil))))) (.inl rfl))
 ss_next) ss_next (.inl rfl))
 (ss_seq (ss_asgF (i := 2) se_int (.inl rfl))
 (ss_seq (ss_for (vs := [3]) (si_seq (se_var (i := 0) rfl)) (sg_name (i := 3)) (ss_seq (ss_asgF (i := 2) (se_mod (se_B (se_add (se_B (se_add (se_B (se_mul (se_B (se_var (i := 2) rfl)) (se_B (se_var (i := 2) rfl)))) (se_B (se_mul (se_B (se_var (i := 3) rfl)) (se_B se_int))))) (se_B se_int))) (se_B se_int)) (.inl rfl))
 (ss_fgt (vs := [3]) ss_next)) (.inl rfl))
 (ss_seq (ss_asg (i := 4) (m := (.L .F)) (se_lst (m := .F) sz_nil) (.inl rfl))
 (ss_seq (ss_for (vs := [5]) (si_rng1 (sb_cons (se_B (se_var (i := 1) rfl)) sb_nil)) (sg_name (i := 5)) (ss_seq (ss_asgF (i := 2) (se_mod (se_B (se_add (se_B (se_add (se_B (se_mul (se_B (se_var (i := 2) rfl)) (se_B (se_var (i := 2) rfl)))) (se_B (se_mul (se_B se_int) (se_B (se_var (i := 5) rfl)))))) (se_B se_int))) (se_B se_int)) (.inl rfl))
 (ss_seq (ss_app (sp_var (i := 4) rfl) (se_var (i := 2) rfl) (.inl rfl))
 (ss_fgt (vs := [5]) ss_next))) (.inl rfl))
 (ss_fgt (vs := [2]) (ss_seq (ss_for (vs := [5]) (si_rng1 (sb_cons (se_B (se_len (se_B (se_var (i := 0) rfl)))) sb_nil)) (sg_name (i := 5)) (ss_seq (ss_asgF (i := 6) (se_mod (se_B (se_var (i := 5) rfl)) (se_B (se_var (i := 1) rfl))) (.inl rfl))
 (ss_seq (ss_set (se_mod (se_B (se_add (se_B (se_mul (se_B (se_ix (se_varS (i := 4) rfl) (se_B (se_var (i := 6) rfl)))) (se_B se_int))) (se_B (se_ix (se_S (se_var (i := 0) rfl)) (se_B (se_var (i := 5) rfl)))))) (se_B se_int)) (sp_var (i := 4) rfl) (se_B (se_var (i := 6) rfl)) (.inl rfl))
 (ss_fgt (vs := [5, 6]) ss_next))) (.inl rfl))
 (ss_frz (i := 4) (ss_seq (ss_ret (se_var (i := 4) rfl) (.inl rfl))
 ss_next)))))))))⟩
  exact (pss_cons (ps_if (pt_cmpR (op_eqD hr.units) (pe_op op_mod (pe_callS G__law_cell_at (hr.mono (by decide)) rfl T.g__law_cell_at k__law_cell_at b__law_cell_at (fun σ => passAt (takes_of rfl rfl rfl rfl) σ) (pa_cons (pv 0) (pa_cons pe_int pa_nil))) pe_int) pe_int (nomark _)) (pss_cons (ps_ret (pe_lc (own := [("k", 5)]) rfl nd (pi_range1 rfl T.b_range (pa_cons (pv 1) pa_nil)) (blkOk_by (N := ["script", "many", "stir", "cell", "found", "k", "at"]) (sc := defScope s__law_folded) (own := [("k", 5)]) (by decide +kernel)) (fun _ _ _ _ _ => (pg_name (i := 5) nd rfl (by first | exact Or.inl rfl | exact Or.inr rfl))) (fun _ _ _ _ _ => pts_nil) (fun _ _ _ _ _ => (pe_callS G__law_part (hr.mono (by decide)) rfl T.g__law_part k__law_part b__law_part (fun σ => passAt takes0 σ) (pa_cons (pe_callS G__law_cell_at (hr.mono (by decide)) rfl T.g__law_cell_at k__law_cell_at b__law_cell_at (fun σ => passAt takes0 σ) (pa_cons (pv 0) (pa_cons (pe_op op_add pe_int (pe_op op_mod (pv 5) pe_int)) pa_nil))) (pa_cons (pe_op op_fdivW (pv 5) pe_int) pa_nil))))))
 pss_nil) pss_nil)
 (pss_cons (ps_set (i := 2) nd rfl (by first | exact Or.inl rfl | exact Or.inr rfl) pe_int)
 (pss_cons (ps_for (passes_of rfl) rfl (pi_seqA (pv 0)) (pg_name (i := 3) nd rfl (by first | exact Or.inl rfl | exact Or.inr rfl)) (pss_cons (ps_set (i := 2) nd rfl (by first | exact Or.inl rfl | exact Or.inr rfl) (pe_op op_mod (pe_op op_add (pe_op op_add (pe_op op_mul (pv 2) (pv 2)) (pe_op op_mul (pv 3) pe_int)) pe_int) pe_int))
 pss_nil))
 (pss_cons (ps_set (i := 4) nd rfl (by first | exact Or.inl rfl | exact Or.inr rfl) (pe_lst pa_nil))
 (pss_cons (ps_for (passes_of rfl) rfl (pi_range1 rfl T.b_range (pa_cons (pv 1) pa_nil)) (pg_name (i := 5) nd rfl (by first | exact Or.inl rfl | exact Or.inr rfl)) (pss_cons (ps_set (i := 2) nd rfl (by first | exact Or.inl rfl | exact Or.inr rfl) (pe_op op_mod (pe_op op_add (pe_op op_add (pe_op op_mul (pv 2) (pv 2)) (pe_op op_mul pe_int (pv 5))) pe_int) pe_int))
 (pss_cons (ps_expr (pe_bm PySem.F.plainAttrs_list PySem.F.slot_list_append PySem.F.type_list_append mt_append (pv 4) (pa_cons (pv 2) pa_nil)))
 pss_nil)))
 (pss_cons (ps_for (passes_of rfl) rfl (pi_range1 rfl T.b_range (pa_cons (pe_callB call_len (by rfl) T.b_len (by decide +kernel) (pa_cons (pv 0) pa_nil)) pa_nil)) (pg_name (i := 5) nd rfl (by first | exact Or.inl rfl | exact Or.inr rfl)) (pss_cons (ps_set (i := 6) nd rfl (by first | exact Or.inl rfl | exact Or.inr rfl) (pe_op op_mod (pv 5) (pv 1)))
 (pss_cons (ps_asg (pe_op op_mod (pe_op op_add (pe_op op_mul (pe_ix ix_seq (pv 4) (pv 6) (fun _ _ => rfl)) pe_int) (pe_ix ix_seq (pv 0) (pv 5) (fun _ _ => rfl))) pe_int) (pg_sub (pv 4) (pv 6) set_list))
 pss_nil)))
 (pss_cons (ps_ret (pv 4))
 pss_nil)))))))
theorem sc__law_pocket : FnScope ["cell", "width"] ["cell"] (defScope s__law_pocket) := ⟨rfl, rfl, rfl, by decide +kernel, rfl, by decide +kernel, by decide +kernel⟩
theorem ok__law_pocket (T : Txt K mg) : ∃ fd, (∀ base : Heap, FnOk P w K mg base (L2.CX P w) 1 (He.ga K "_law_pocket") fd ["cell"] (spM K (He.ga K) 1 .F F__law_pocket)) ∧ Binds K fd ["cell"] [] ∧ PySem.W.keepIn K (.ref (He.ga K "_law_pocket")) = true := by
  obtain ⟨fd, F⟩ := T.d__law_pocket
  have nd := sc__law_pocket.nd
  refine ⟨fd, fun base => ?_, F.bindsN (fun _ _ _ _ _ _ us hl => match us, hl with | [_], _ => rfl), F.kp⟩
  refine fn_def (Γ0 := [.F, .F]) (Γ1 := [.F, .F]) F sc__law_pocket rfl (hpF (n := 1) rfl (by decide)) (fun cdv A outer s H E hr => ?_)
  refine ⟨_, ?_, (ss_seq (ss_asgF (i := 1) (se_ix (se_LS (se_lst (m := .F) (sz_cons se_int (sz_cons se_int (sz_cons se_int (sz_cons se_int (sz_cons (se_mod (se_B (se_div (se_B (se_var (i := 0) rfl)) (se_B se_int))) (se_B se_int)) sz_nil))))))) (se_B (se_mod (se_B (se_div (se_B (se_var (i := 0) rfl)) (se_B se_int))) (se_B se_int)))) (.inl rfl))
 (ss_seq (ss_ret (se_tupF (sz_cons (se_ix (se_LS (se_lst (m := .F) (sz_cons se_str (sz_cons se_str sz_nil)))) (se_B (se_mod (se_B (se_var (i := 0) rfl)) (se_B se_int)))) (sz_cons (se_var (i := 1) rfl) sz_nil))) (.inl rfl))
 ss_next))⟩
  exact (pss_cons (ps_set (i := 1) nd rfl (by first | exact Or.inl rfl | exact Or.inr rfl) (pe_ix ix_seq (pe_lst (pa_cons pe_int (pa_cons pe_int (pa_cons pe_int (pa_cons pe_int (pa_cons (pe_op op_mod (pe_op op_fdivW (pv 0) pe_int) pe_int) pa_nil)))))) (pe_op op_mod (pe_op op_fdivW (pv 0) pe_int) pe_int) (fun _ _ => rfl)))
 (pss_cons (ps_ret (pe_tup (pa_cons (pe_ix ix_seq (pe_lst (pa_cons pe_str (pa_cons pe_str pa_nil))) (pe_op op_mod (pv 0) pe_int) (fun _ _ => rfl)) (pa_cons (pv 1) pa_nil))))
 pss_nil))
theorem sc__law_passes : FnScope ["cells", "most", "passes", "product", "t", "many", "j"] ["cells", "most"] (defScope s__law_passes) := ⟨rfl, rfl, rfl, by decide +kernel, rfl, by decide +kernel, by decide +kernel⟩
theorem ok__law_passes (T : Txt K mg) : ∃ fd, (∀ base : Heap, FnOk P w K mg base (L2.CX P w) 2 (He.ga K "_law_passes") fd ["cells", "most"] (spM K (He.ga K) 2 .F F__law_passes)) ∧ Binds K fd ["cells", "most"] [] ∧ PySem.W.keepIn K (.ref (He.ga K "_law_passes")) = true := by
  obtain ⟨fd, F⟩ := T.d__law_passes
  obtain ⟨fd__law_pocket, G__law_pocket, b__law_pocket, k__law_pocket⟩ := ok__law_pocket (P := P) (w := w) T
  have nd := sc__law_passes.nd
  refine ⟨fd, fun base => ?_, F.bindsN (fun _ _ _ _ _ _ us hl => match us, hl with | [_, _], _ => rfl), F.kp⟩
  have G__law_pocket := G__law_pocket base
  refine fn_def (Γ0 := [.F, .F, .F, .F, .F, .F, .F]) (Γ1 := [.F, .F, .F, .F, .F, .F, .F]) F sc__law_passes rfl (hpF (n := 2) rfl (by decide)) (fun cdv A outer s H E hr => ?_)
  refine ⟨_, ?_, (ss_seq (ss_asg (i := 2) (m := (.L .F)) (se_lst (m := .F) sz_nil) (.inl rfl))
 (ss_seq (ss_asgF (i := 3) se_int (.inl rfl))
 (ss_seq (ss_for (vs := [4]) (si_rng1 (sb_cons (se_B (se_ix (se_LS (se_lst (m := .F) (sz_cons se_int (sz_cons se_int (sz_cons se_int (sz_cons se_int (sz_cons se_int (sz_cons se_int (sz_cons se_int (sz_cons se_int sz_nil)))))))))) (se_B (se_mod (se_B (se_div (se_B (se_ix (se_S (se_var (i := 0) rfl)) (se_B se_int))) (se_B se_int))) (se_B se_int))))) sb_nil)) (sg_name (i := 4)) (ss_seq (ss_asgF (i := 5) (se_ix (se_LS (se_lst (m := .F) (sz_cons se_int (sz_cons se_int (sz_cons se_int (sz_cons se_int (sz_cons se_int (sz_cons se_int (sz_cons se_int (sz_cons se_int sz_nil)))))))))) (se_B (se_mod (se_B (se_div (se_B (se_ix (se_S (se_var (i := 0) rfl)) (se_B (se_add (se_B se_int) (se_B (se_mul (se_B se_int) (se_B (se_var (i := 4) rfl)))))))) (se_B se_int))) (se_B se_int)))) (.inl rfl))
 (ss_seq (ss_if (st_val (se_B (se_gt (se_B (se_mul (se_B (se_var (i := 3) rfl)) (se_B (se_var (i := 5) rfl)))) (se_B (se_var (i := 1) rfl))))) (ss_seq (ss_asgF (i := 5) se_int (.inl rfl))
 ss_next) ss_next (.inl rfl))
 (ss_seq (ss_asgF (i := 3) (se_mul (se_B (se_var (i := 3) rfl)) (se_B (se_var (i := 5) rfl))) (.inl rfl))
 (ss_seq (ss_app (sp_var (i := 2) rfl) (se_frz (se_comp (vs := [6]) (m := .F) (six (si_rng1 (sb_cons (se_B (se_var (i := 5) rfl)) sb_nil))) (sg_name (i := 6)) st_yes (se_call (m := .F) (sz_cons (se_ix (se_S (se_var (i := 0) rfl)) (se_B (se_add (se_B (se_add (se_B se_int) (se_B (se_mul (se_B se_int) (se_B (se_var (i := 4) rfl)))))) (se_B (se_var (i := 6) rfl))))) sz_nil)))) (.inl rfl))
 (ss_fgt (vs := [4, 5]) ss_next))))) (.inl rfl))
 (ss_fgt (vs := [3]) (ss_frz (i := 2) (ss_seq (ss_ret (se_var (i := 2) rfl) (.inl rfl))
 ss_next))))))⟩
  exact (pss_cons (ps_set (i := 2) nd rfl (by first | exact Or.inl rfl | exact Or.inr rfl) (pe_lst pa_nil))
 (pss_cons (ps_set (i := 3) nd rfl (by first | exact Or.inl rfl | exact Or.inr rfl) pe_int)
 (pss_cons (ps_for (passes_of rfl) rfl (pi_range1 rfl T.b_range (pa_cons (pe_ix ix_seq (pe_lst (pa_cons pe_int (pa_cons pe_int (pa_cons pe_int (pa_cons pe_int (pa_cons pe_int (pa_cons pe_int (pa_cons pe_int (pa_cons pe_int pa_nil))))))))) (pe_op op_mod (pe_op op_fdivW (pe_ix ix_seq (pv 0) pe_int (fun _ _ => rfl)) pe_int) pe_int) (fun _ _ => rfl)) pa_nil)) (pg_name (i := 4) nd rfl (by first | exact Or.inl rfl | exact Or.inr rfl)) (pss_cons (ps_set (i := 5) nd rfl (by first | exact Or.inl rfl | exact Or.inr rfl) (pe_ix ix_seq (pe_lst (pa_cons pe_int (pa_cons pe_int (pa_cons pe_int (pa_cons pe_int (pa_cons pe_int (pa_cons pe_int (pa_cons pe_int (pa_cons pe_int pa_nil))))))))) (pe_op op_mod (pe_op op_fdivW (pe_ix ix_seq (pv 0) (pe_op op_add pe_int (pe_op op_mul pe_int (pv 4))) (fun _ _ => rfl)) pe_int) pe_int) (fun _ _ => rfl)))
 (pss_cons (ps_if (pt_cmpR op_gt (pe_op op_mul (pv 3) (pv 5)) (pv 1) (nomark _)) (pss_cons (ps_set (i := 5) nd rfl (by first | exact Or.inl rfl | exact Or.inr rfl) pe_int)
 pss_nil) pss_nil)
 (pss_cons (ps_set (i := 3) nd rfl (by first | exact Or.inl rfl | exact Or.inr rfl) (pe_op op_mul (pv 3) (pv 5)))
 (pss_cons (ps_expr (pe_bm PySem.F.plainAttrs_list PySem.F.slot_list_append PySem.F.type_list_append mt_append (pv 2) (pa_cons (pe_lc (own := [("j", 6)]) rfl nd (pi_range1 rfl T.b_range (pa_cons (pv 5) pa_nil)) (blkOk_by (N := ["cells", "most", "passes", "product", "t", "many", "j"]) (sc := defScope s__law_passes) (own := [("j", 6)]) (by decide +kernel)) (fun _ _ _ _ _ => (pg_name (i := 6) nd rfl (by first | exact Or.inl rfl | exact Or.inr rfl))) (fun _ _ _ _ _ => pts_nil) (fun _ _ _ _ _ => (pe_callS G__law_pocket (hr.mono (by decide)) rfl T.g__law_pocket k__law_pocket b__law_pocket (fun σ => passAt takes0 σ) (pa_cons (pe_ix ix_seq (pv 0) (pe_op op_add (pe_op op_add pe_int (pe_op op_mul pe_int (pv 4))) (pv 6)) (fun _ _ => rfl)) pa_nil)))) pa_nil)))
 pss_nil)))))
 (pss_cons (ps_ret (pv 2))
 pss_nil))))
theorem sc__law_whole : FnScope ["found", "due"] ["found", "due"] (defScope s__law_whole) := ⟨rfl, rfl, rfl, by decide +kernel, rfl, by decide +kernel, by decide +kernel⟩
theorem ok__law_whole (T : Txt K mg) : ∃ fd, (∀ base : Heap, FnOk P w K mg base (L2.CX P w) 1 (He.ga K "_law_whole") fd ["found", "due"] (spM K (He.ga K) 2 .F F__law_whole)) ∧ Binds K fd ["found", "due"] [] ∧ PySem.W.keepIn K (.ref (He.ga K "_law_whole")) = true := by
  obtain ⟨fd, F⟩ := T.d__law_whole
  have nd := sc__law_whole.nd
  refine ⟨fd, fun base => ?_, F.bindsN (fun _ _ _ _ _ _ us hl => match us, hl with | [_, _], _ => rfl), F.kp⟩
  refine fn_def (Γ0 := [.F, .F]) (Γ1 := [.F, .F]) F sc__law_whole rfl (hpF (n := 2) rfl (by decide)) (fun cdv A outer s H E hr => ?_)
  refine ⟨_, ?_, (ss_seq (ss_ret (se_and (se_B (se_isi (c := .int) (by decide) (se_B (se_var (i := 0) rfl)))) (se_and (se_B (se_not (se_B (se_isi (c := .bool) (by decide) (se_B (se_var (i := 0) rfl)))))) (se_eq (se_B (se_var (i := 0) rfl)) (se_B (se_var (i := 1) rfl))))) (.inl rfl))
 ss_next)⟩
  exact (pss_cons (ps_ret (pe_and (pe_callB call_isi (by rfl) T.b_isinstance (by decide +kernel) (pa_cons (pv 0) (pa_cons (pe_bltn (v := .ty "int") rfl T.b_int (by decide +kernel) rfl) pa_nil))) (pe_and (pe_not (pe_callB call_isi (by rfl) T.b_isinstance (by decide +kernel) (pa_cons (pv 0) (pa_cons (pe_bltn (v := .ty "bool") rfl T.b_bool (by decide +kernel) rfl) pa_nil)))) (pe_one (pe_cmpR (op_eqD hr.units) (pv 0) (pv 1) (nomark _))))))
 pss_nil)
theorem sc__law_handed : FnScope ["passes", "way", "pockets"] ["passes", "way"] (defScope s__law_handed) := ⟨rfl, rfl, rfl, by decide +kernel, rfl, by decide +kernel, by decide +kernel⟩
theorem ok__law_handed (T : Txt K mg) : ∃ fd, (∀ base : Heap, FnOk P w K mg base (L2.CX P w) 1 (He.ga K "_law_handed") fd ["passes", "way"] (spM K (He.ga K) 2 .F F__law_handed)) ∧ Binds K fd ["passes", "way"] [] ∧ PySem.W.keepIn K (.ref (He.ga K "_law_handed")) = true := by
  obtain ⟨fd, F⟩ := T.d__law_handed
  have nd := sc__law_handed.nd
  refine ⟨fd, fun base => ?_, F.bindsN (fun _ _ _ _ _ _ us hl => match us, hl with | [_, _], _ => rfl), F.kp⟩
  refine fn_def (Γ0 := [.F, .F, .F]) (Γ1 := [.F, .F, .F]) F sc__law_handed rfl (hpF (n := 2) rfl (by decide)) (fun cdv A outer s H E hr => ?_)
  refine ⟨_, ?_, (ss_seq (ss_if (st_val (se_B (se_eq (se_B (se_var (i := 1) rfl)) (se_B se_int)))) (ss_seq (ss_ret (se_frz (se_comp (vs := [2]) (m := .F) (six (si_seq (se_var (i := 0) rfl))) (sg_name (i := 2)) st_yes (se_frz (se_list (se_S (se_var (i := 2) rfl)))))) (.inl rfl))
 ss_next) ss_next (.inl rfl))
 (ss_seq (ss_if (st_val (se_B (se_eq (se_B (se_var (i := 1) rfl)) (se_B se_int)))) (ss_seq (ss_ret (se_tuple (se_frz (se_comp (vs := [2]) (m := .F) (six (si_seq (se_var (i := 0) rfl))) (sg_name (i := 2)) st_yes (se_tuple (se_var (i := 2) rfl))))) (.inl rfl))
 ss_next) ss_next (.inl rfl))
 (ss_seq (ss_ret (se_tuple (se_frz (se_comp (vs := [2]) (m := .F) (six (si_seq (se_var (i := 0) rfl))) (sg_name (i := 2)) st_yes (se_frz (se_list (se_S (se_var (i := 2) rfl))))))) (.inl rfl))
 ss_next)))⟩
  exact (pss_cons (ps_if (pt_cmpR (op_eqD hr.units) (pv 1) pe_int (nomark _)) (pss_cons (ps_ret (pe_lc (own := [("pockets", 2)]) rfl nd (pi_seqA (pv 0)) (blkOk_by (N := ["passes", "way", "pockets"]) (sc := defScope s__law_handed) (own := [("pockets", 2)]) (by decide +kernel)) (fun _ _ _ _ _ => (pg_name (i := 2) nd rfl (by first | exact Or.inl rfl | exact Or.inr rfl))) (fun _ _ _ _ _ => pts_nil) (fun _ _ _ _ _ => (pe_callTy call_list_of (by rfl) T.b_list (by decide +kernel) (pa_cons (pv 2) pa_nil)))))
 pss_nil) pss_nil)
 (pss_cons (ps_if (pt_cmpR (op_eqD hr.units) (pv 1) pe_int (nomark _)) (pss_cons (ps_ret (pe_callTy call_tuple_of (by rfl) T.b_tuple (by decide +kernel) (pa_cons (pe_lc (own := [("pockets", 2)]) rfl nd (pi_seqA (pv 0)) (blkOk_by (N := ["passes", "way", "pockets"]) (sc := defScope s__law_handed) (own := [("pockets", 2)]) (by decide +kernel)) (fun _ _ _ _ _ => (pg_name (i := 2) nd rfl (by first | exact Or.inl rfl | exact Or.inr rfl))) (fun _ _ _ _ _ => pts_nil) (fun _ _ _ _ _ => (pe_callTy call_tuple_of (by rfl) T.b_tuple (by decide +kernel) (pa_cons (pv 2) pa_nil)))) pa_nil)))
 pss_nil) pss_nil)
 (pss_cons (ps_ret (pe_callTy call_tuple_of (by rfl) T.b_tuple (by decide +kernel) (pa_cons (pe_lc (own := [("pockets", 2)]) rfl nd (pi_seqA (pv 0)) (blkOk_by (N := ["passes", "way", "pockets"]) (sc := defScope s__law_handed) (own := [("pockets", 2)]) (by decide +kernel)) (fun _ _ _ _ _ => (pg_name (i := 2) nd rfl (by first | exact Or.inl rfl | exact Or.inr rfl))) (fun _ _ _ _ _ => pts_nil) (fun _ _ _ _ _ => (pe_callTy call_list_of (by rfl) T.b_list (by decide +kernel) (pa_cons (pv 2) pa_nil)))) pa_nil)))
 pss_nil)))
theorem ok__law_handedV0 (T : Txt K mg) : ∃ fd, (∀ base : Heap, FnOk P w K mg base (L2.CX P w) 1 (He.ga K "_law_handed") fd ["passes", "way"] (spM K (He.ga K) 2 (.L (.L .F)) (F__law_handedV0))) ∧ Binds K fd ["passes", "way"] [] ∧ PySem.W.keepIn K (.ref (He.ga K "_law_handed")) = true := by
  obtain ⟨fd, F⟩ := T.d__law_handed
  have nd := sc__law_handed.nd
  refine ⟨fd, fun base => ?_, F.bindsN (fun _ _ _ _ _ _ us hl => match us, hl with | [_, _], _ => rfl), F.kp⟩
  refine fn_def (Γ0 := [.F, .F, .F]) (Γ1 := [.F, .F, .F]) F sc__law_handed rfl (hpF (n := 2) rfl (by decide)) (fun cdv A outer s H E hr => ?_)
  refine ⟨_, ?_, (ss_seq (ss_if (st_val (se_B (se_eq (se_B (se_var (i := 1) rfl)) (se_B se_int)))) (ss_seq (ss_ret (se_comp (vs := [2]) (m := (.L .F)) (six (si_seq (se_var (i := 0) rfl))) (sg_name (i := 2)) st_yes (se_list (se_S (se_var (i := 2) rfl)))) (.inl rfl))
 ss_next) ss_next (.inl rfl))
 (ss_seq (ss_if (st_val (se_B (se_eq (se_B (se_var (i := 1) rfl)) (se_B se_int)))) (ss_seq ss_no
 ss_next) ss_next (.inl rfl))
 (ss_seq ss_no
 ss_next)))⟩
  exact (pss_cons (ps_if (pt_cmpR (op_eqD hr.units) (pv 1) pe_int (nomark _)) (pss_cons (ps_ret (pe_lc (own := [("pockets", 2)]) rfl nd (pi_seqA (pv 0)) (blkOk_by (N := ["passes", "way", "pockets"]) (sc := defScope s__law_handed) (own := [("pockets", 2)]) (by decide +kernel)) (fun _ _ _ _ _ => (pg_name (i := 2) nd rfl (by first | exact Or.inl rfl | exact Or.inr rfl))) (fun _ _ _ _ _ => pts_nil) (fun _ _ _ _ _ => (pe_callTy call_list_of (by rfl) T.b_list (by decide +kernel) (pa_cons (pv 2) pa_nil)))))
 pss_nil) pss_nil)
 (pss_cons (ps_if (pt_cmpR (op_eqD hr.units) (pv 1) pe_int (nomark _)) (pss_cons ps_never
 pss_nil) pss_nil)
 (pss_cons ps_never
 pss_nil)))
theorem ok__law_handedV2 (T : Txt K mg) : ∃ fd, (∀ n, ∀ base : Heap, FnOk P w K mg base (L2.CX P w) 1 (He.ga K "_law_handed") fd ["passes", "way"] (spM K (He.ga K) 2 (.T (List.replicate n (.L .F))) (F__law_handedV2 n))) ∧ Binds K fd ["passes", "way"] [] ∧ PySem.W.keepIn K (.ref (He.ga K "_law_handed")) = true := by
  obtain ⟨fd, F⟩ := T.d__law_handed
  have nd := sc__law_handed.nd
  refine ⟨fd, fun n base => ?_, F.bindsN (fun _ _ _ _ _ _ us hl => match us, hl with | [_, _], _ => rfl), F.kp⟩
  refine fn_def (Γ0 := [.F, .F, .F]) (Γ1 := [.F, .F, .F]) F sc__law_handed rfl (hpF (n := 2) rfl (by decide)) (fun cdv A outer s H E hr => ?_)
  refine ⟨_, ?_, (ss_seq (ss_if (st_val (se_B (se_eq (se_B (se_var (i := 1) rfl)) (se_B se_int)))) (ss_seq ss_no
 ss_next) ss_next (.inl rfl))
 (ss_seq (ss_if (st_val (se_B (se_eq (se_B (se_var (i := 1) rfl)) (se_B se_int)))) (ss_seq ss_no
 ss_next) ss_next (.inl rfl))
 (ss_seq (ss_ret (se_tupN (n := n) (se_comp (vs := [2]) (m := (.L .F)) (six (si_seq (se_var (i := 0) rfl))) (sg_name (i := 2)) st_yes (se_list (se_S (se_var (i := 2) rfl))))) (.inl rfl))
 ss_next)))⟩
  exact (pss_cons (ps_if (pt_cmpR (op_eqD hr.units) (pv 1) pe_int (nomark _)) (pss_cons ps_never
 pss_nil) pss_nil)
 (pss_cons (ps_if (pt_cmpR (op_eqD hr.units) (pv 1) pe_int (nomark _)) (pss_cons ps_never
 pss_nil) pss_nil)
 (pss_cons (ps_ret (pe_callTy call_tuple_of (by rfl) T.b_tuple (by decide +kernel) (pa_cons (pe_lc (own := [("pockets", 2)]) rfl nd (pi_seqA (pv 0)) (blkOk_by (N := ["passes", "way", "pockets"]) (sc := defScope s__law_handed) (own := [("pockets", 2)]) (by decide +kernel)) (fun _ _ _ _ _ => (pg_name (i := 2) nd rfl (by first | exact Or.inl rfl | exact Or.inr rfl))) (fun _ _ _ _ _ => pts_nil) (fun _ _ _ _ _ => (pe_callTy call_list_of (by rfl) T.b_list (by decide +kernel) (pa_cons (pv 2) pa_nil)))) pa_nil)))
 pss_nil)))
theorem sc__law_kept : FnScope ["mill", "passes", "product", "pockets", "pocket"] ["mill", "passes"] (defScope s__law_kept) := ⟨rfl, rfl, rfl, by decide +kernel, rfl, by decide +kernel, by decide +kernel⟩
theorem ok__law_kept (T : Txt K mg) : ∃ fd, (∀ base : Heap, FnOk P w K mg base (L2.CX P w) 3 (He.ga K "_law_kept") fd ["mill", "passes"] (spM K (He.ga K) 2 .F F__law_kept)) ∧ Binds K fd ["mill", "passes"] [] ∧ PySem.W.keepIn K (.ref (He.ga K "_law_kept")) = true := by
  obtain ⟨fd, F⟩ := T.d__law_kept
  obtain ⟨fd_Mill_codes, G_Mill_codes, b_Mill_codes, k_Mill_codes⟩ := ok_Mill_codes (P := P) (w := w) T
  obtain ⟨fd_Mill_many, G_Mill_many, b_Mill_many, k_Mill_many⟩ := ok_Mill_many (P := P) (w := w) T
  obtain ⟨fd__law_whole, G__law_whole, b__law_whole, k__law_whole⟩ := ok__law_whole (P := P) (w := w) T
  have nd := sc__law_kept.nd
  refine ⟨fd, fun base => ?_, F.bindsN (fun _ _ _ _ _ _ us hl => match us, hl with | [_, _], _ => rfl), F.kp⟩
  have G_Mill_codes := G_Mill_codes base
  have G_Mill_many := G_Mill_many base
  have G__law_whole := G__law_whole base
  refine fn_def (Γ0 := [.F, .F, .F, .F, .F]) (Γ1 := [.F, .F, .F, .F, .F]) F sc__law_kept rfl (hpF (n := 2) rfl (by decide)) (fun cdv A outer s H E hr => ?_)
  refine ⟨_, ?_, (ss_seq (ss_if (st_or (st_not (st_valB (se_B (se_isi (c := .tuple) (by decide) (se_B (se_fld T.c_Mill T.n_Mill_passes (se_var (i := 0) rfl))))))) (st_val (se_B (se_ne (se_B (se_fld T.c_Mill T.n_Mill_passes (se_var (i := 0) rfl))) (se_B (se_tuple (se_frz (se_comp (vs := [3]) (m := .F) (six (si_seq (se_var (i := 1) rfl))) (sg_name (i := 3)) st_yes (se_tuple (se_var (i := 3) rfl)))))))))) (ss_seq (ss_ret se_bl (.inl rfl))
 ss_next) ss_next (.inl rfl))
 (ss_seq (ss_asgF (i := 2) se_int (.inl rfl))
 (ss_seq (ss_for (vs := [3]) (si_seq (se_fld T.c_Mill T.n_Mill_passes (se_var (i := 0) rfl))) (sg_name (i := 3)) (ss_seq (ss_if (st_not (st_valB (se_B (se_isi (c := .tuple) (by decide) (se_B (se_var (i := 3) rfl)))))) (ss_seq (ss_ret se_bl (.inl rfl))
 ss_next) ss_next (.inl rfl))
 (ss_seq (ss_for (vs := [4]) (si_seq (se_var (i := 3) rfl)) (sg_name (i := 4)) (ss_seq (ss_if (st_or (st_not (st_valB (se_B (se_isi (c := .tuple) (by decide) (se_B (se_var (i := 4) rfl)))))) (st_not (st_valB (se_B (se_isi (c := .str) (by decide) (se_B (se_ix (se_S (se_var (i := 4) rfl)) (se_B se_int)))))))) (ss_seq (ss_ret se_bl (.inl rfl))
 ss_next) ss_next (.inl rfl))
 (ss_seq (ss_if (st_not (st_valB (se_B (se_call (m := .F) (sz_cons (se_ix (se_S (se_var (i := 4) rfl)) (se_B se_int)) (sz_cons (se_ix (se_S (se_var (i := 4) rfl)) (se_B se_int)) sz_nil)))))) (ss_seq (ss_ret se_bl (.inl rfl))
 ss_next) ss_next (.inl rfl))
 (ss_fgt (vs := [4]) ss_next))) (.inl rfl))
 (ss_seq (ss_asgF (i := 2) (se_mul (se_B (se_var (i := 2) rfl)) (se_B (se_len (se_B (se_var (i := 3) rfl))))) (.inl rfl))
 (ss_fgt (vs := [3, 4]) ss_next)))) (.inl rfl))
 (ss_seq (ss_ret (se_and (se_B (se_call (m := .F) (sz_cons (se_meth (C := "Mill") (mm := "codes") (m := .F) (se_var (i := 0) rfl) sz_nil) (sz_cons (se_var (i := 2) rfl) sz_nil)))) (se_call (m := .F) (sz_cons (se_meth (C := "Mill") (mm := "many") (m := .F) (se_var (i := 0) rfl) sz_nil) (sz_cons (se_len (se_B (se_var (i := 1) rfl))) sz_nil)))) (.inl rfl))
 ss_next))))⟩
  exact (pss_cons (ps_if (PW.pt (pw_or (pt_not (pt_val (pe_callB call_isi (by rfl) T.b_isinstance (by decide +kernel) (pa_cons (pe_fld (pv 0) rfl) (pa_cons (pe_bltn (v := .ty "tuple") rfl T.b_tuple (by decide +kernel) rfl) pa_nil))))) (pw_or1 (pt_cmpR (op_neD hr.units) (pe_fld (pv 0) rfl) (pe_callTy call_tuple_of (by rfl) T.b_tuple (by decide +kernel) (pa_cons (pe_lc (own := [("pockets", 3)]) rfl nd (pi_seqA (pv 1)) (blkOk_by (N := ["mill", "passes", "product", "pockets", "pocket"]) (sc := defScope s__law_kept) (own := [("pockets", 3)]) (by decide +kernel)) (fun _ _ _ _ _ => (pg_name (i := 3) nd rfl (by first | exact Or.inl rfl | exact Or.inr rfl))) (fun _ _ _ _ _ => pts_nil) (fun _ _ _ _ _ => (pe_callTy call_tuple_of (by rfl) T.b_tuple (by decide +kernel) (pa_cons (pv 3) pa_nil)))) pa_nil)) (nomark _))))) (pss_cons (ps_ret pe_bl)
 pss_nil) pss_nil)
 (pss_cons (ps_set (i := 2) nd rfl (by first | exact Or.inl rfl | exact Or.inr rfl) pe_int)
 (pss_cons (ps_for (passes_of rfl) rfl (pi_seqA (pe_fld (pv 0) rfl)) (pg_name (i := 3) nd rfl (by first | exact Or.inl rfl | exact Or.inr rfl)) (pss_cons (ps_if (pt_not (pt_val (pe_callB call_isi (by rfl) T.b_isinstance (by decide +kernel) (pa_cons (pv 3) (pa_cons (pe_bltn (v := .ty "tuple") rfl T.b_tuple (by decide +kernel) rfl) pa_nil))))) (pss_cons (ps_ret pe_bl)
 pss_nil) pss_nil)
 (pss_cons (ps_for (passes_of rfl) rfl (pi_seqA (pv 3)) (pg_name (i := 4) nd rfl (by first | exact Or.inl rfl | exact Or.inr rfl)) (pss_cons (ps_if (PW.pt (pw_or (pt_not (pt_val (pe_callB call_isi (by rfl) T.b_isinstance (by decide +kernel) (pa_cons (pv 4) (pa_cons (pe_bltn (v := .ty "tuple") rfl T.b_tuple (by decide +kernel) rfl) pa_nil))))) (pw_or1 (pt_not (pt_val (pe_callB call_isi (by rfl) T.b_isinstance (by decide +kernel) (pa_cons (pe_ix ix_seq (pv 4) pe_int (fun _ _ => rfl)) (pa_cons (pe_bltn (v := .ty "str") rfl T.b_str (by decide +kernel) rfl) pa_nil)))))))) (pss_cons (ps_ret pe_bl)
 pss_nil) pss_nil)
 (pss_cons (ps_if (pt_not (pt_val (pe_callS G__law_whole (hr.mono (by decide)) rfl T.g__law_whole k__law_whole b__law_whole (fun σ => passAt (takes_of rfl rfl rfl rfl) σ) (pa_cons (pe_ix ix_seq (pv 4) pe_int (fun _ _ => rfl)) (pa_cons (pe_ix ix_seq (pv 4) pe_int (fun _ _ => rfl)) pa_nil))))) (pss_cons (ps_ret pe_bl)
 pss_nil) pss_nil)
 pss_nil)))
 (pss_cons (ps_set (i := 2) nd rfl (by first | exact Or.inl rfl | exact Or.inr rfl) (pe_op op_mul (pv 2) (pe_callB call_len (by rfl) T.b_len (by decide +kernel) (pa_cons (pv 3) pa_nil))))
 pss_nil))))
 (pss_cons (ps_ret (pe_and (pe_callS G__law_whole (hr.mono (by decide)) rfl T.g__law_whole k__law_whole b__law_whole (fun σ => passAt (takes_of rfl rfl rfl rfl) σ) (pa_cons (pe_methS0 (pv 0) T.c_Mill T.m_Mill_codes G_Mill_codes (hr.mono (by decide)) b_Mill_codes (fun σ => passAt (takes_of rfl rfl rfl rfl) σ)) (pa_cons (pv 2) pa_nil))) (pe_one (pe_callS G__law_whole (hr.mono (by decide)) rfl T.g__law_whole k__law_whole b__law_whole (fun σ => passAt (takes_of rfl rfl rfl rfl) σ) (pa_cons (pe_methS0 (pv 0) T.c_Mill T.m_Mill_many G_Mill_many (hr.mono (by decide)) b_Mill_many (fun σ => passAt (takes_of rfl rfl rfl rfl) σ)) (pa_cons (pe_callB call_len (by rfl) T.b_len (by decide +kernel) (pa_cons (pv 1) pa_nil)) pa_nil))))))
 pss_nil))))
theorem sc_law : FnScope ["script", "cells", "passes", "way", "handed", "mill", "pockets", "kind", "width"] ["script"] (defScope s_law) := ⟨rfl, rfl, rfl, by decide +kernel, rfl, by decide +kernel, by decide +kernel⟩
theorem ok_law (T : Txt K mg) : ∃ fd, (∀ base : Heap, FnOk P w K mg base (L2.CX P w) 5 (He.ga K "law") fd ["script"] (spM K (He.ga K) 1 .F F_law)) ∧ Binds K fd ["script"] [] ∧ PySem.W.keepIn K (.ref (He.ga K "law")) = true ∧ ∀ (s : Shared) (v : Value), BindsTo s fd ⟨[v], []⟩ [("script", v)] := by
  obtain ⟨fd, F⟩ := T.d_law
  obtain ⟨fd_Mill___init__, G_Mill___init__, b_Mill___init__, k_Mill___init__⟩ := ok_Mill___init__ (P := P) (w := w) T
  obtain ⟨fd__law_folded, G__law_folded, b__law_folded, k__law_folded⟩ := ok__law_folded (P := P) (w := w) T
  obtain ⟨fd__law_handed, G__law_handed, b__law_handed, k__law_handed⟩ := ok__law_handed (P := P) (w := w) T
  obtain ⟨fd__law_kept, G__law_kept, b__law_kept, k__law_kept⟩ := ok__law_kept (P := P) (w := w) T
  obtain ⟨fd__law_passes, G__law_passes, b__law_passes, k__law_passes⟩ := ok__law_passes (P := P) (w := w) T
  obtain ⟨fd__law_handedV0, G__law_handedV0, b__law_handedV0, k__law_handedV0⟩ := ok__law_handedV0 (P := P) (w := w) T
  obtain ⟨fd__law_handedV2, G__law_handedV2, b__law_handedV2, k__law_handedV2⟩ := ok__law_handedV2 (P := P) (w := w) T
  have nd := sc_law.nd
  refine ⟨fd, fun base => ?_, F.bindsN (fun _ _ _ _ _ _ us hl => match us, hl with | [_], _ => rfl), F.kp, fun s v => FunD.bindsA (ps := ["script"]) F (fun _ _ _ _ _ _ us hl => match us, hl with | [_], _ => rfl) s [v] rfl⟩
  have G_Mill___init__ := G_Mill___init__ base
  have G__law_folded := G__law_folded base
  have G__law_handed := G__law_handed base
  have G__law_kept := G__law_kept base
  have G__law_passes := G__law_passes base
  have G__law_handedV0 := G__law_handedV0 base
  have G__law_handedV2 := fun n => G__law_handedV2 n base
  refine fn_def (Γ0 := [.F, .F, .F, .F, .F, .F, .F, .F, .F]) (Γ1 := [.F, .F, .F, .F, .F, .F, .F, .F, .F]) F sc_law rfl (hpF (n := 1) rfl (by decide)) (fun cdv A outer s H E hr => ?_)
  refine ⟨_, ?_, (ss_seq (ss_asgF (i := 1) (se_call (m := .F) (sz_cons (se_var (i := 0) rfl) (sz_cons se_int sz_nil))) (.inl rfl))
 (ss_seq (ss_asgF (i := 2) (se_call (m := .F) (sz_cons (se_var (i := 1) rfl) (sz_cons se_int sz_nil))) (.inl rfl))
 (ss_seq (ss_asgF (i := 3) (se_mod (se_B (se_ix (se_S (se_var (i := 1) rfl)) (se_B se_int))) (se_B se_int)) (.inl rfl))
 (ss_case3 (w := 3) (p := 2) (ss_seq (ss_asg (i := 4) (m := (.L (.L .F))) (se_call (m := (.L (.L .F))) (sz_cons (se_var (i := 2) rfl) (sz_cons (se_var (i := 3) rfl) sz_nil))) (.inl rfl))
 (ss_seq (ss_asgF (i := 5) (se_frz (se_makeO (C := "Mill") (i := 4) (M := (.L (.L .F))) (ns := [.F]) rfl (nod_L rfl))) (.inl rfl))
 (ss_seq (ss_if (st_val (se_B (se_ne (se_varB (i := 4)) (se_B (se_call (m := (.L (.L .F))) (sz_cons (se_var (i := 2) rfl) (sz_cons (se_var (i := 3) rfl) sz_nil))))))) (ss_frz (i := 4) (ss_seq (ss_ret se_bl (.inl rfl))
 ss_next)) ss_next (.inl rfl))
 (ss_seq (ss_if (st_val (se_B (se_ne (se_B (se_var (i := 3) rfl)) (se_B se_int)))) (ss_seq (ss_forM (j := 4) (x := 6) (pth := none) (M := (.L (.L .F))) (m := (.L .F)) (ts := (tSeq (tAsg (tOp (rIx K) (tVar 6) (tC (.int 0))) (gTup K 2 (gCons (gName 7) (gCons (gName 8) gNil)))) (tSeq (tAsg (tTup (tCons (tIf (tTest (tOp (rEqD K) (tVar 7) (tC (.str "queue")))) (tC (.str "pile")) (tC (.str "queue"))) (tCons (tOp (rI0 fun i j => .int (i - j)) (tC (.int 9)) (tVar 8)) tNil))) (gSub (tVar 6) (tC (.int 0)) rSetL)) tNext))) rfl rfl (by decide) (by decide) rfl (fun _ _ => (ss_seq (ss_asgG (vs := [7, 8]) (se_ix (se_varS (i := 6) rfl) (se_B se_int)) (sg_tup (n := 2) (sgs_cons (sg_name (i := 7)) (sgs_cons (sg_name (i := 8)) sgs_nil))) (.inl rfl))
 (ss_seq (ss_set (se_tupF (sz_cons (se_if (st_val (se_B (se_eq (se_B (se_var (i := 7) rfl)) (se_B se_str)))) se_str se_str) (sz_cons (se_sub (se_B se_int) (se_B (se_var (i := 8) rfl))) sz_nil))) (sp_var (i := 6) rfl) (se_B se_int) (.inl rfl))
 (ss_fgt (vs := [7, 8]) ss_next)))))
 (ss_fgt (vs := [6, 7, 8]) ss_next)) ss_next (.inl rfl))
 (ss_seq (ss_if (st_val (se_B (se_eq (se_B (se_var (i := 3) rfl)) (se_B se_int)))) (ss_seq (ss_clr (sp_var (i := 4) rfl) (.inl rfl))
 (ss_frz (i := 4) ss_next)) (ss_frz (i := 4) ss_next) (.inl rfl))
 (ss_seq (ss_ret (se_and (se_B (se_call (m := .F) (sz_cons (se_var (i := 5) rfl) (sz_cons (se_var (i := 2) rfl) sz_nil)))) (se_call (m := .F) (sz_cons (se_frz (se_make (C := "Mill") (ns := [.F]) (sz_cons (se_frz (se_list (se_S (se_fld T.c_Mill T.n_Mill_passes (se_var (i := 5) rfl))))) sz_nil))) (sz_cons (se_var (i := 2) rfl) sz_nil)))) (.inl rfl))
 ss_next))))))
 (ss_seq (ss_asgF (i := 4) (se_call (m := .F) (sz_cons (se_var (i := 2) rfl) (sz_cons (se_var (i := 3) rfl) sz_nil))) (.inl rfl))
 (ss_seq (ss_asgF (i := 5) (se_frz (se_make (C := "Mill") (ns := [.F]) (sz_cons (se_var (i := 4) rfl) sz_nil))) (.inl rfl))
 (ss_seq (ss_if (st_val (se_B (se_ne (se_B (se_var (i := 4) rfl)) (se_B (se_call (m := .F) (sz_cons (se_var (i := 2) rfl) (sz_cons (se_var (i := 3) rfl) sz_nil))))))) (ss_seq (ss_ret se_bl (.inl rfl))
 ss_next) ss_next (.inl rfl))
 (ss_seq (ss_if (st_val (se_B (se_ne (se_B (se_var (i := 3) rfl)) (se_B se_int)))) (ss_seq (ss_for (vs := [6]) (si_seq (se_var (i := 4) rfl)) (sg_name (i := 6)) ss_no (.inl rfl))
 (ss_fgt (vs := [6, 7, 8]) ss_next)) ss_next (.inl rfl))
 (ss_seq (ss_if (st_val (se_B (se_eq (se_B (se_var (i := 3) rfl)) (se_B se_int)))) ss_no ss_next (.inl rfl))
 (ss_seq (ss_ret (se_and (se_B (se_call (m := .F) (sz_cons (se_var (i := 5) rfl) (sz_cons (se_var (i := 2) rfl) sz_nil)))) (se_call (m := .F) (sz_cons (se_frz (se_make (C := "Mill") (ns := [.F]) (sz_cons (se_frz (se_list (se_S (se_fld T.c_Mill T.n_Mill_passes (se_var (i := 5) rfl))))) sz_nil))) (sz_cons (se_var (i := 2) rfl) sz_nil)))) (.inl rfl))
 ss_next))))))
 (fun n => (ss_seq (ss_asg (i := 4) (m := (.T (List.replicate n (.L .F)))) (se_call (m := (.T (List.replicate n (.L .F)))) (sz_cons (se_var (i := 2) rfl) (sz_cons (se_var (i := 3) rfl) sz_nil))) (.inl rfl))
 (ss_seq (ss_asgF (i := 5) (se_frz (se_makeO (C := "Mill") (i := 4) (M := (.T (List.replicate n (.L .F)))) (ns := [.F]) rfl nod_T)) (.inl rfl))
 (ss_seq (ss_if (st_val (se_B (se_ne (se_varB (i := 4)) (se_B (se_call (m := (.T (List.replicate n (.L .F)))) (sz_cons (se_var (i := 2) rfl) (sz_cons (se_var (i := 3) rfl) sz_nil))))))) (ss_frz (i := 4) (ss_seq (ss_ret se_bl (.inl rfl))
 ss_next)) ss_next (.inl rfl))
 (ss_seq (ss_if (st_val (se_B (se_ne (se_B (se_var (i := 3) rfl)) (se_B se_int)))) (ss_seq (ss_forU (j := 4) (x := 6) (n0 := n) (m := (.L .F)) (ts := (tSeq (tAsg (tOp (rIx K) (tVar 6) (tC (.int 0))) (gTup K 2 (gCons (gName 7) (gCons (gName 8) gNil)))) (tSeq (tAsg (tTup (tCons (tIf (tTest (tOp (rEqD K) (tVar 7) (tC (.str "queue")))) (tC (.str "pile")) (tC (.str "queue"))) (tCons (tOp (rI0 fun i j => .int (i - j)) (tC (.int 9)) (tVar 8)) tNil))) (gSub (tVar 6) (tC (.int 0)) rSetL)) tNext))) rfl (by decide) (by show 6 < 9; decide) rfl (fun _ _ => (ss_seq (ss_asgG (vs := [7, 8]) (se_ix (se_varS (i := 6) rfl) (se_B se_int)) (sg_tup (n := 2) (sgs_cons (sg_name (i := 7)) (sgs_cons (sg_name (i := 8)) sgs_nil))) (.inl rfl))
 (ss_seq (ss_set (se_tupF (sz_cons (se_if (st_val (se_B (se_eq (se_B (se_var (i := 7) rfl)) (se_B se_str)))) se_str se_str) (sz_cons (se_sub (se_B se_int) (se_B (se_var (i := 8) rfl))) sz_nil))) (sp_var (i := 6) rfl) (se_B se_int) (.inl rfl))
 (ss_fgt (vs := [7, 8]) ss_next)))))
 (ss_fgt (vs := [6, 7, 8]) ss_next)) ss_next (.inl rfl))
 (ss_seq (ss_if (st_val (se_B (se_eq (se_B (se_var (i := 3) rfl)) (se_B se_int)))) ss_no (ss_frz (i := 4) ss_next) (.inl rfl))
 (ss_seq (ss_ret (se_and (se_B (se_call (m := .F) (sz_cons (se_var (i := 5) rfl) (sz_cons (se_var (i := 2) rfl) sz_nil)))) (se_call (m := .F) (sz_cons (se_frz (se_make (C := "Mill") (ns := [.F]) (sz_cons (se_frz (se_list (se_S (se_fld T.c_Mill T.n_Mill_passes (se_var (i := 5) rfl))))) sz_nil))) (sz_cons (se_var (i := 2) rfl) sz_nil)))) (.inl rfl))
 ss_next)))))))))))⟩
  exact (pss_cons (ps_set (i := 1) nd rfl (by first | exact Or.inl rfl | exact Or.inr rfl) (pe_callS G__law_folded (hr.mono (by decide)) rfl T.g__law_folded k__law_folded b__law_folded (fun σ => passAt (takes_of rfl rfl rfl rfl) σ) (pa_cons (pv 0) (pa_cons pe_int pa_nil))))
 (pss_cons (ps_set (i := 2) nd rfl (by first | exact Or.inl rfl | exact Or.inr rfl) (pe_callS G__law_passes (hr.mono (by decide)) rfl T.g__law_passes k__law_passes b__law_passes (fun σ => passAt (takes_of rfl rfl rfl rfl) σ) (pa_cons (pv 1) (pa_cons pe_int pa_nil))))
 (pss_cons (ps_set (i := 3) nd rfl (by first | exact Or.inl rfl | exact Or.inr rfl) (pe_op op_mod (pe_ix ix_seq (pv 1) pe_int (fun _ _ => rfl)) pe_int))
 (pss_or3 (pss_cons (ps_set (i := 4) nd rfl (by first | exact Or.inl rfl | exact Or.inr rfl) (pe_callS G__law_handedV0 (hr.mono (by decide)) rfl T.g__law_handed k__law_handedV0 b__law_handedV0 (fun σ => passAt (takes_of rfl rfl rfl rfl) σ) (pa_cons (pv 2) (pa_cons (pv 3) pa_nil))))
 (pss_cons (ps_set (i := 5) nd rfl (by first | exact Or.inl rfl | exact Or.inr rfl) (pe_makeS T.k_Mill G_Mill___init__ (hr.mono (by decide)) rfl T.g_Mill b_Mill___init__ (fun σ => passAt (takes_of rfl rfl rfl rfl) σ) (pa_cons (pv 4) pa_nil)))
 (pss_cons (ps_if (pt_cmpR (op_neD hr.units) (pv 4) (pe_callS G__law_handedV0 (hr.mono (by decide)) rfl T.g__law_handed k__law_handedV0 b__law_handedV0 (fun σ => passAt (takes_of rfl rfl rfl rfl) σ) (pa_cons (pv 2) (pa_cons (pv 3) pa_nil))) (nomark _)) (pss_cons (ps_ret pe_bl)
 pss_nil) pss_nil)
 (pss_cons (ps_if (pt_cmpR (op_neD hr.units) (pv 3) pe_int (nomark _)) (pss_cons (ps_for (passes_of rfl) rfl (pi_seqA (pv 4)) (pg_name (i := 6) nd rfl (by first | exact Or.inl rfl | exact Or.inr rfl)) (pss_cons (ps_asg (pe_ix ix_seq (pv 6) pe_int (fun _ _ => rfl)) (pg_tup rfl (pgs_cons (pg_name (i := 7) nd rfl (by first | exact Or.inl rfl | exact Or.inr rfl)) (pgs_cons (pg_name (i := 8) nd rfl (by first | exact Or.inl rfl | exact Or.inr rfl)) pgs_nil))))
 (pss_cons (ps_asg (pe_tup (pa_cons (pe_ifExp (pt_cmpR (op_eqD hr.units) (pv 7) pe_str (nomark _)) pe_str pe_str) (pa_cons (pe_op op_sub pe_int (pv 8)) pa_nil))) (pg_sub (pv 6) pe_int set_list))
 pss_nil)))
 pss_nil) pss_nil)
 (pss_cons (ps_if (pt_cmpR (op_eqD hr.units) (pv 3) pe_int (nomark _)) (pss_cons (ps_expr (pe_bm0 PySem.F.plainAttrs_list PySem.F.slot_list_clear PySem.F.type_list_clear mt_clear (pv 4)))
 pss_nil) pss_nil)
 (pss_cons (ps_ret (pe_and (pe_callS G__law_kept (hr.mono (by decide)) rfl T.g__law_kept k__law_kept b__law_kept (fun σ => passAt (takes_of rfl rfl rfl rfl) σ) (pa_cons (pv 5) (pa_cons (pv 2) pa_nil))) (pe_one (pe_callS G__law_kept (hr.mono (by decide)) rfl T.g__law_kept k__law_kept b__law_kept (fun σ => passAt (takes_of rfl rfl rfl rfl) σ) (pa_cons (pe_makeS T.k_Mill G_Mill___init__ (hr.mono (by decide)) rfl T.g_Mill b_Mill___init__ (fun σ => passAt (takes_of rfl rfl rfl rfl) σ) (pa_cons (pe_callTy call_list_of (by rfl) T.b_list (by decide +kernel) (pa_cons (pe_fld (pv 5) rfl) pa_nil)) pa_nil)) (pa_cons (pv 2) pa_nil))))))
 pss_nil))))))
 (pss_cons (ps_set (i := 4) nd rfl (by first | exact Or.inl rfl | exact Or.inr rfl) (pe_callS G__law_handed (hr.mono (by decide)) rfl T.g__law_handed k__law_handed b__law_handed (fun σ => passAt (takes_of rfl rfl rfl rfl) σ) (pa_cons (pv 2) (pa_cons (pv 3) pa_nil))))
 (pss_cons (ps_set (i := 5) nd rfl (by first | exact Or.inl rfl | exact Or.inr rfl) (pe_makeS T.k_Mill G_Mill___init__ (hr.mono (by decide)) rfl T.g_Mill b_Mill___init__ (fun σ => passAt (takes_of rfl rfl rfl rfl) σ) (pa_cons (pv 4) pa_nil)))
 (pss_cons (ps_if (pt_cmpR (op_neD hr.units) (pv 4) (pe_callS G__law_handed (hr.mono (by decide)) rfl T.g__law_handed k__law_handed b__law_handed (fun σ => passAt (takes_of rfl rfl rfl rfl) σ) (pa_cons (pv 2) (pa_cons (pv 3) pa_nil))) (nomark _)) (pss_cons (ps_ret pe_bl)
 pss_nil) pss_nil)
 (pss_cons (ps_if (pt_cmpR (op_neD hr.units) (pv 3) pe_int (nomark _)) (pss_cons (ps_for (passes_of rfl) rfl (pi_seqA (pv 4)) (pg_name (i := 6) nd rfl (by first | exact Or.inl rfl | exact Or.inr rfl)) pss_never)
 pss_nil) pss_nil)
 (pss_cons (ps_if (pt_cmpR (op_eqD hr.units) (pv 3) pe_int (nomark _)) pss_never pss_nil)
 (pss_cons (ps_ret (pe_and (pe_callS G__law_kept (hr.mono (by decide)) rfl T.g__law_kept k__law_kept b__law_kept (fun σ => passAt (takes_of rfl rfl rfl rfl) σ) (pa_cons (pv 5) (pa_cons (pv 2) pa_nil))) (pe_one (pe_callS G__law_kept (hr.mono (by decide)) rfl T.g__law_kept k__law_kept b__law_kept (fun σ => passAt (takes_of rfl rfl rfl rfl) σ) (pa_cons (pe_makeS T.k_Mill G_Mill___init__ (hr.mono (by decide)) rfl T.g_Mill b_Mill___init__ (fun σ => passAt (takes_of rfl rfl rfl rfl) σ) (pa_cons (pe_callTy call_list_of (by rfl) T.b_list (by decide +kernel) (pa_cons (pe_fld (pv 5) rfl) pa_nil)) pa_nil)) (pa_cons (pv 2) pa_nil))))))
 pss_nil))))))
 (fun n => (pss_cons (ps_set (i := 4) nd rfl (by first | exact Or.inl rfl | exact Or.inr rfl) (pe_callS (G__law_handedV2 n) (hr.mono (by decide)) rfl T.g__law_handed k__law_handedV2 b__law_handedV2 (fun σ => passAt (takes_of rfl rfl rfl rfl) σ) (pa_cons (pv 2) (pa_cons (pv 3) pa_nil))))
 (pss_cons (ps_set (i := 5) nd rfl (by first | exact Or.inl rfl | exact Or.inr rfl) (pe_makeS T.k_Mill G_Mill___init__ (hr.mono (by decide)) rfl T.g_Mill b_Mill___init__ (fun σ => passAt (takes_of rfl rfl rfl rfl) σ) (pa_cons (pv 4) pa_nil)))
 (pss_cons (ps_if (pt_cmpR (op_neD hr.units) (pv 4) (pe_callS (G__law_handedV2 n) (hr.mono (by decide)) rfl T.g__law_handed k__law_handedV2 b__law_handedV2 (fun σ => passAt (takes_of rfl rfl rfl rfl) σ) (pa_cons (pv 2) (pa_cons (pv 3) pa_nil))) (nomark _)) (pss_cons (ps_ret pe_bl)
 pss_nil) pss_nil)
 (pss_cons (ps_if (pt_cmpR (op_neD hr.units) (pv 3) pe_int (nomark _)) (pss_cons (ps_for (passes_of rfl) rfl (pi_seqA (pv 4)) (pg_name (i := 6) nd rfl (by first | exact Or.inl rfl | exact Or.inr rfl)) (pss_cons (ps_asg (pe_ix ix_seq (pv 6) pe_int (fun _ _ => rfl)) (pg_tup rfl (pgs_cons (pg_name (i := 7) nd rfl (by first | exact Or.inl rfl | exact Or.inr rfl)) (pgs_cons (pg_name (i := 8) nd rfl (by first | exact Or.inl rfl | exact Or.inr rfl)) pgs_nil))))
 (pss_cons (ps_asg (pe_tup (pa_cons (pe_ifExp (pt_cmpR (op_eqD hr.units) (pv 7) pe_str (nomark _)) pe_str pe_str) (pa_cons (pe_op op_sub pe_int (pv 8)) pa_nil))) (pg_sub (pv 6) pe_int set_list))
 pss_nil)))
 pss_nil) pss_nil)
 (pss_cons (ps_if (pt_cmpR (op_eqD hr.units) (pv 3) pe_int (nomark _)) pss_never pss_nil)
 (pss_cons (ps_ret (pe_and (pe_callS G__law_kept (hr.mono (by decide)) rfl T.g__law_kept k__law_kept b__law_kept (fun σ => passAt (takes_of rfl rfl rfl rfl) σ) (pa_cons (pv 5) (pa_cons (pv 2) pa_nil))) (pe_one (pe_callS G__law_kept (hr.mono (by decide)) rfl T.g__law_kept k__law_kept b__law_kept (fun σ => passAt (takes_of rfl rfl rfl rfl) σ) (pa_cons (pe_makeS T.k_Mill G_Mill___init__ (hr.mono (by decide)) rfl T.g_Mill b_Mill___init__ (fun σ => passAt (takes_of rfl rfl rfl rfl) σ) (pa_cons (pe_callTy call_list_of (by rfl) T.b_list (by decide +kernel) (pa_cons (pe_fld (pv 5) rfl) pa_nil)) pa_nil)) (pa_cons (pv 2) pa_nil))))))
 pss_nil)))))))))))
end
end Pm
namespace Pm
open PySem PySem.Spec L2
local macro_rules | `(tactic| simp? [$xs,*]) => `(tactic| simp (decide := true) (implicitDefEqProofs := false) (disch := first | assumption | omega | (simp only [List.length_map, List.length_append, List.length_cons, List.length_nil, List.length_take, List.length_drop, List.length_reverse, List.length_zip, List.length_range, rangeL_len]; done) | (simp only [List.length_map, List.length_append, List.length_cons, List.length_nil, List.length_take, List.length_drop, List.length_reverse, List.length_zip, List.length_range, rangeL_len]; omega)) only [List.set_cons_zero, List.set_cons_succ, List.map_cons, List.map_nil, List.cons_append, List.nil_append, List.append_nil, List.replicate_succ, List.replicate_zero, Nat.reduceSub, List.length_cons, List.length_nil, Nat.reduceAdd, v_var0, v_varS, v_con, v_fgt, v_add, v_sub, v_mul, v_div, v_mod, v_pow, v_shl, v_lt, v_le, v_gt, v_ge, v_eq, v_ne, v_in, v_nin, v_ix, v_plus, v_cat, v_rep, v_isN, v_notN, v_len, v_neg, v_isi, v_list, v_tuple, v_tupleL, v_fld, v_fldI, v_all, v_any, v_sum, v_max2, v_min2, v_i2, v_addI, v_subI, v_mulL, v_mulR, v_divI, v_modI, v_ltI, v_leI, v_gtI, v_geI, v_negD, v_eqI, v_neI, v_eqB, v_neB, v_lenL, v_lenC, v_lenT, v_listL, v_listC, v_listT, v_tupL, v_tupC, v_tupT, v_tupLL, v_plusI, v_plusL, v_plusT, v_catL, v_slc, v_slcL, v_noPart, v_partO, v_asI, v_cutL, v_cutC, v_cutT, v_cutLL, v_cutLC, v_boolT, v_notT, v_andT, v_orT, v_yes, v_andE, v_orE, v_notE, v_ifE, v_andOk, v_orOk, v_andOkE, v_orOkE, v_isB, v_isI, v_isIB, v_eqS, v_neS, v_asB, v_args0, v_args1, v_tup, v_lst, v_call, v_callB, v_meth, v_methB, v_scal, v_scalI, v_scalB, v_scalS, v_scalN, v_rng1, v_rng2, v_rngD1, v_rngD2, v_seqI, v_tupI, v_seqL, v_seqC, v_seqT, v_seqQ, v_lenQ, v_tupQ, v_tupID, v_zipI, v_zipL, v_zipT, v_enumI, v_enumL, v_enumC, v_revI, v_revL, v_revT, v_comp, v_wipe0, v_wipe1, v_assoc, v_nx, v_end, v_asg, v_drop, v_ret, v_retN, v_raise, v_brk, v_cnt, v_if, v_iteT, v_iteF, v_asgG, v_nameG, v_consG, v_nilG, v_app, v_varP0, v_varPS, v_lstOf, v_set, v_for, v_outR, v_outX, v_outN, v_newF, v_outI, v_outIX, v_try, v_tryN, v_tryRt, v_divmod, v_dvm, v_tupRev, v_trev, v_lrev, v_lrevL, v_dnew, v_dnewT, v_din, v_dget, v_scalE, v_dlen, v_dlenT, v_dlenD, v_dlenTD, v_dgetI, v_dgetS, v_dput, v_ltT, v_gtT, v_sortN, v_sortI, v_sortP, v_int1, v_intI, v_intB, v_bm1, v_pop, v_asgPop, v_appPop, v_callL, v_methL, v_isCE, v_isBE, v_isxT, v_leafR, v_ixP, v_tixP, v_fldP, v_lrng1, v_ext, v_ins, v_chg0, v_index, v_count, divOk_of, smallI_of, intSz_of, lenSz_of, ok_bind, ex_bind, no_bind, bindS_ok, bindS_ex, ↓reduceIte, Option.bind_some, Int.reduceLT, Int.reduceLE, Nat.reduceLeDiff, Int.reduceNeg, Int.reduceEq, Bool.or_true, Bool.true_or, Bool.and_true, Bool.true_and, Bool.false_or, Bool.or_false, Bool.and_false, Bool.false_and, decide_true, decide_false, Bool.not_true, Bool.not_false, Bool.false_eq_true, v_tixL, x_tixL30, x_tixL31, x_tixL32, x_tixL20, x_tixL21, v_catQ, x_catQ, v_callSO, v_flatRO, x_flatROE, x_scalRE, x_leafRE, bindX_ok, bindX_ex, thenX_ok, thenX_ex, v_dropX, x_dropX, x_dropXE, v_asgX, x_asgX, x_asgXE, v_ifX, x_ifX, x_ifXE, v_retX, x_retX, x_retW, v_retW, v_retWN, v_retWX, x_retWX, v_pureX, v_pureXT, v_opX, v_valXT, v_notXT, v_andXT, v_orXT, v_andX, v_methX, v_callX0, v_callX2, x_lnX, x_lnXE, v_look, x_outWN, x_outWR, x_outWT, x_outWX, x_outWE, v_rem, v_setPart, v_popTo, x_fldSet, v_pop0, v_asgPop0, x_pop0, x_ifLen, v_appNew, v_appPopP, v_forT, v_compX, v_minD, v_maxD, v_sortS, v_tryX, v_tryXN, v_tryXRt, x_tryXT, x_tryXO, x_tryXF, x_tryX0, x_row, v_sortT, v_sortJ, v_sortDE, v_raiN, x_raiN, v_inS, v_ninS, x_inS, x_ninS, v_strI, x_strI, v_str1, x_str1, v_intT, x_intT, v_join, v_split, v_part, v_sw, x_strOf, x_join, x_split, x_part, x_sw, v_mulS, x_mulS, x_lenS, x_plusS, x_cutS, x_isiS, v_rng3, x_rng3, v_setSl, v_callX, v_ltL, v_setFld, v_appPopF, v_lendS, x_lend, v_retFld, x_outL, v_forK, v_compK, v_maxV, x_maxV, v_dcon, v_mv, v_minP, v_leT, v_revS, x_revL, v_maxP, x_tix30, x_tix31, x_tix32, v_asgT, x_asgT2, x_asgT3, v_tryMm, v_tryMN, v_tryMRt, x_tryMT, x_tryMF, v_ninD, v_sortU, v_callS, v_lstA, x_lstA, v_appV, x_appV, v_rrg, v_chE, v_chK, v_sdApp, x_dicOf, v_sortDI, v_notBE, x_notB, x_isB, v_forM, v_whl, v_fgtSeq, v_inDt, x_tryT, x_tryF, v_noXN, v_noXRt, v_tryA, v_tryAN, v_tryART, x_tryA, v_clrN, v_clrRt, x_nnN, x_nnT, x_nnL, x_nnI, x_nnS, x_nnB, x_tyT, x_tyTL, x_tyL, x_tyLT, x_tyS, x_ext, x_ins, x_dget, x_dlen, enumL_zip, x_lrng, x_ixPl, x_tix0, x_tix1, x_appPop, x_appPop2, x_ixLn, x_ixTn, x_ixCn, x_t0, x_t1, x_t2, x_t3, x_l0, x_ixLm, x_ixTm, x_ixLi, x_ixTi, x_ixCi, x_optS, x_mulA, x_mulB, x_divA, x_dvmA, x_modA, x_appA, x_setA, x_rngA1, x_rngA2, x_plusA, x_plusT, x_catA, x_powA, List.getElem?_map, Option.map_some, List.length_map, List.length_append, rangeL_len, Int.reducePow, Int.reduceToNat, Int.toNat_natCast, Int.reduceMul, Int.reduceAdd, Int.reduceSub, Int.reduceDiv, Int.reduceMod, List.getElem?_cons_zero, List.getElem?_cons_succ, beq_self_eq_true, $xs,*])
/-! pockets, mills -/
abbrev Pk := Str × Int
def pkD (q : Pk) : Dt := .tup [.str q.1, .int q.2]
def kindB (x : Str) : Bool := decide (x = "queue") || decide (x = "pile")
def pkB (q : Pk) : Bool := kindB q.1 && (decide (0 ≤ q.2) && decide (q.2 ≤ 9))
def passB (p : List Pk) : Bool := decide (1 ≤ p.length) && (decide (p.length ≤ 6) && p.all pkB)
theorem kinds_in (x : Str) : memD true (.str x) (.ktp [.str "queue", .str "pile"]) = .ok (.bl (!kindB x)) := by
  have : inD (.str x) [.str "queue", .str "pile"] = kindB x := by
    unfold inD kindB
    simp only [List.any_cons, List.any_nil, Bool.or_false]
    congr 1 <;> exact decide_eq_decide.mpr eq_comm
  rw [← this]
  rfl
def Pockets_keptP (p : List Pk) (o : Ot) : Prop := outF .F o = if passB p = true then .ok (.tup (p.map pkD)) else .ex ("BadMill", none)
theorem pockets_kept_run (b : Bool) (p : List Pk) : F_pockets_kept [sqD b (p.map pkD)] = if passB p = true then .ok (.tup (p.map pkD)) else .ex ("BadMill", none) := by
  rw [R_pockets_kept]; unfold Fb_pockets_kept
  show Pockets_keptP p _
  have bad : passB p = false → ∀ ρ : Ev, Pockets_keptP p (.ex ("BadMill", none) ρ) := fun h ρ => by unfold Pockets_keptP; rw [h]; rfl
  by_cases hl : 1 ≤ p.length ∧ p.length ≤ 6
  case neg =>
    have hb : passB p = false := by
      unfold passB
      by_cases h1 : 1 ≤ p.length
      · rw [decide_eq_false (p := p.length ≤ 6) (by omega), Bool.false_and, Bool.and_false]
      · rw [decide_eq_false h1, Bool.false_and]
    simp? [e_B_pockets_kept_1, e_C_pockets_kept_2]
    refine wp_ite (fun h => ?_) fun h => ?_
    · simp? [e_B_pockets_kept_1, e_C_pockets_kept_2]; exact bad hb _
    · simp at h; omega
  simp? [e_B_pockets_kept_1, e_C_pockets_kept_2]
  refine wp_ite (fun h => ?_) fun h => ?_
  · simp at h; omega
  simp? [e_B_pockets_kept_1, e_C_pockets_kept_2]
  refine wp_forI p pkD (fun q : List Pk => [some (sqD b (p.map pkD)), some (.lst (q.map pkD)), none, none]) (fun pre s => s = pre ∧ pre.all pkB = true) [] rfl rfl ⟨rfl, rfl⟩ ?_ ?_
  · rintro pre ⟨k, w⟩ post s e ⟨rfl, ha⟩
    have hlen : s.length < p.length := by rw [e]; simp
    refine ⟨[some (sqD b (p.map pkD)), some (.lst (s.map pkD)), some (.str k), some (.int w)], rfl, ?_⟩
    simp? [e_B_pockets_kept_1, e_C_pockets_kept_2, kinds_in]
    refine wp_ite (fun h => ?_) fun h => ?_
    · simp? [e_B_pockets_kept_1, e_C_pockets_kept_2]
      refine bad ?_ _
      have : p.all pkB = false := by
        rw [List.all_eq_false]
        refine ⟨(k, w), by rw [e]; simp, ?_⟩
        intro hb
        unfold pkB at hb
        simp at h hb
        rcases h with h | h | h
        · rw [h] at hb; simp at hb
        · omega
        · omega
      unfold passB
      rw [this, Bool.and_false, Bool.and_false]
    · simp? [e_B_pockets_kept_1, e_C_pockets_kept_2]
      refine ⟨s ++ [(k, w)], by rw [List.map_append]; rfl, rfl, ?_⟩
      rw [List.all_append, ha]
      simp at h
      simp [pkB, h]
  · rintro s ⟨rfl, ha⟩
    simp? [e_B_pockets_kept_1, e_C_pockets_kept_2]
    unfold Pockets_keptP
    have : passB s = true := by simp [passB, ha, hl]
    rw [this]
    rfl
def pkTD (p : List Pk) : Dt := .tup (p.map pkD)
def pkLD (p : List Pk) : Dt := .lst (p.map pkD)
def millD (ps : List (List Pk)) : Dt := .ins "Mill" ["passes"] [.tup (ps.map pkTD)]
theorem fld_mill (ps : List (List Pk)) : fldD "Mill" "passes" (millD ps) = .ok (.tup (ps.map pkTD)) := fldD_of (j := 0) (by decide +kernel) rfl
theorem nom_m (m : Str) (ps : List (List Pk)) (h : fix m ["passes"] = none) : noMeth "Mill" m (millD ps) = .ok (millD ps) := noMeth_of h
theorem nom_many (ps : List (List Pk)) : noMeth "Mill" "many" (millD ps) = .ok (millD ps) := nom_m _ ps (by decide +kernel)
theorem nom_codes (ps : List (List Pk)) : noMeth "Mill" "codes" (millD ps) = .ok (millD ps) := nom_m _ ps (by decide +kernel)
theorem many_run (ps : List (List Pk)) : F_Mill_many [millD ps] = .ok (.int ps.length) := by
  rw [R_Mill_many]; unfold Fb_Mill_many
  simp? [fld_mill]
def prodN (ps : List (List Pk)) : Nat := ps.foldl (fun a p => a * p.length) 1
theorem prodN_snoc (ps : List (List Pk)) (p : List Pk) : prodN (ps ++ [p]) = prodN ps * p.length := by
  unfold prodN
  rw [List.foldl_append]
  rfl
theorem lenD_pk (p : List Pk) : lenD (pkTD p) = .ok (.int p.length) := by
  show Rs.ok (Dt.int ((p.map pkD).length)) = _
  rw [List.length_map]
theorem codes_ahead_run (ps : List (List Pk)) (k : Nat) (hs : ∀ p ∈ ps, p.length ≤ 1000) : F_codes_ahead [millD ps, .int k] = .ok (.int (prodN (ps.take k) : Nat)) := by
  rw [R_codes_ahead]; unfold Fb_codes_ahead
  simp? [e_B_codes_ahead_1, e_C_codes_ahead_2, fld_mill, cut_take, ← List.map_take]
  refine wp_forI (Post := fun o => outF .F o = _) (ps.take k) pkTD (fun n : Nat => [some (millD ps), some (.int k), some (.int n), none]) (fun pre s => s = prodN pre) 1 rfl rfl rfl ?_ ?_
  · rintro pre p post s e rfl
    have hl := hs p (List.mem_of_mem_take (by rw [e]; simp))
    refine ⟨_, v_nameG, ?_⟩
    simp? [e_B_codes_ahead_1, e_C_codes_ahead_2, lenD_pk]
    refine ⟨prodN (pre ++ [p]), ?_, rfl⟩
    rw [prodN_snoc, Int.natCast_mul]
  · rintro s rfl
    simp? [e_B_codes_ahead_1, e_C_codes_ahead_2]
theorem codes_run (ps : List (List Pk)) (hs : ∀ p ∈ ps, p.length ≤ 1000) : F_Mill_codes [millD ps] = .ok (.int (prodN ps : Nat)) := by
  rw [R_Mill_codes]; unfold Fb_Mill_codes
  simp? [nom_many, many_run, codes_ahead_run _ _ hs, List.take_length]
/-- a mill that is one -/
def millB (ps : List (List Pk)) : Bool := decide (ps.length ≤ 6) && (ps.all passB && decide (prodN ps ≤ 1000))
theorem passB_len {p : List Pk} (h : passB p = true) : 1 ≤ p.length ∧ p.length ≤ 6 := by
  unfold passB at h
  simp only [Bool.and_eq_true, decide_eq_true_eq] at h
  exact ⟨h.1, h.2.1⟩
theorem mill_fold (ps : List (List Pk)) : Dt.ins "Mill" ["passes"] [.tup (ps.map pkTD)] = millD ps := rfl
theorem len_of {ps : List (List Pk)} (hp : ps.all passB = true) : ∀ p ∈ ps, p.length ≤ 1000 := fun p q => by
  have := (passB_len (List.all_eq_true.mp hp p q)).2
  omega
theorem init_runG (b : Bool) (qs : List (Bool × List Pk)) (h6 : qs.length ≤ 6) (hp : (qs.map (·.2)).all passB = true) : F_Mill___init__ [sqD b (qs.map fun q => sqD q.1 (q.2.map pkD))] = if prodN (qs.map (·.2)) ≤ 1000 then .ok (millD (qs.map (·.2))) else .ex ("BadMill", none) := by
  rw [R_Mill___init__]; unfold Fb_Mill___init__
  have nf : fix "passes" [] = none := by decide +kernel
  have c6 : decide (6 < (qs.length : Int)) = false := decide_eq_false (by omega)
  simp? [c6]
  rw [comp_mapE (f := fun q : Bool × List Pk => pkTD q.2) (by omega) ?hc]
  case hc =>
    intro q hq
    refine ⟨_, v_nameG, ?_⟩
    have := pockets_kept_run q.1 q.2
    rw [if_pos (List.all_eq_true.mp hp q.2 (List.mem_map_of_mem hq))] at this
    simp? [this]
    rfl
  have e0 : (qs.map fun q => pkTD q.2) = (qs.map (·.2)).map pkTD := by rw [List.map_map]; rfl
  simp? [e0, mill_fold, nom_codes, codes_run _ (len_of hp)]
  by_cases h : prodN (qs.map (·.2)) ≤ 1000
  · have e : decide (1000 < (prodN (qs.map (·.2)) : Int)) = false := decide_eq_false (by omega)
    simp? [e]
    rw [if_pos h]
  · have e : decide (1000 < (prodN (qs.map (·.2)) : Int)) = true := decide_eq_true (by omega)
    simp? [e]
    rw [if_neg h]
theorem init_runB (b c : Bool) (ps : List (List Pk)) (h6 : ps.length ≤ 6) (hp : ps.all passB = true) : F_Mill___init__ [sqD b (ps.map fun p => sqD c (p.map pkD))] = if prodN ps ≤ 1000 then .ok (millD ps) else .ex ("BadMill", none) := by
  have := init_runG b (ps.map fun p => (c, p)) (by rw [List.length_map]; exact h6) (by rw [List.map_map]; simpa using hp)
  rw [List.map_map, List.map_map] at this
  have e : ps.map ((fun q : Bool × List Pk => q.2) ∘ fun p => (c, p)) = ps := by
    conv => rhs; rw [← List.map_id ps]
    rfl
  rw [e] at this
  exact this
theorem init_run (ps : List (List Pk)) (h6 : ps.length ≤ 6) (hp : ps.all passB = true) : F_Mill___init__ [.lst (ps.map pkLD)] = if prodN ps ≤ 1000 then .ok (millD ps) else .ex ("BadMill", none) := init_runB false false ps h6 hp
theorem init_runT (ps : List (List Pk)) (h6 : ps.length ≤ 6) (hp : ps.all passB = true) : F_Mill___init__ [.tup (ps.map pkTD)] = if prodN ps ≤ 1000 then .ok (millD ps) else .ex ("BadMill", none) := init_runB true true ps h6 hp
/-! cells -/
theorem cell_at_run (ns : List Int) (k : Nat) : F__law_cell_at [.scr (ns.map .int), .int k] = .ok (.int (ns.getD k 0)) := by
  rw [R__law_cell_at]; unfold Fb__law_cell_at
  simp? [ok_bind]
  refine wp_ite (Post := fun o => outF .F o = _) (fun h => ?_) (fun h => ?_)
  · have hk : k < ns.length := by simpa using h
    have e : ns[k]? = some ns[k] := List.getElem?_eq_getElem hk
    simp? [e]
    simp [List.getD, hk]
  · have hk : ns.length ≤ k := by simpa using h
    simp? [ok_bind]
    simp [List.getD, hk]
def PartP (o : Ot) : Prop := ∃ p : Int, 0 ≤ p ∧ p < 1000000 ∧ outF .F o = .ok (.int p)
theorem part_run (c : Int) (a : Nat) (ha : a ≤ 1000) : ∃ p : Int, 0 ≤ p ∧ p < 1000000 ∧ F__law_part [.int c, .int a] = .ok (.int p) := by
  rw [R__law_part]; unfold Fb__law_part
  show PartP _
  simp? [e_B__law_part_1, e_C__law_part_2]
  refine wp_rng0 a (fun c : Int => [some (.int c), some (.int a), none]) (fun _ _ => True) c rfl trivial ?_ ?_
  · rintro n c _ _
    refine ⟨_, v_nameG, ?_⟩
    simp? [e_B__law_part_1, e_C__law_part_2]
    exact ⟨_, rfl, trivial⟩
  · rintro c _
    simp? [e_B__law_part_1, e_C__law_part_2]
    exact ⟨c % 1000000, by omega, by omega, rfl⟩
def StirB (x : Int) : Prop := 0 ≤ x ∧ x < 1000000000039
theorem stirB_mod (x : Int) : StirB (x % 1000000000039) := ⟨Int.emod_nonneg _ (by decide), Int.emod_lt_of_pos _ (by decide)⟩
theorem all_snoc {α : Type} {P : α → Prop} {xs : List α} {x : α} (h : ∀ y ∈ xs, P y) (hx : P x) : ∀ y ∈ xs ++ [x], P y := fun y hy => by
  rcases List.mem_append.mp hy with hy | hy
  · exact h y hy
  · rw [List.mem_singleton.mp hy]; exact hx
theorem all_set {α : Type} {P : α → Prop} {xs : List α} {k : Nat} {x : α} (h : ∀ y ∈ xs, P y) (hx : P x) : ∀ y ∈ xs.set k x, P y := fun y hy => by
  rcases List.mem_or_eq_of_mem_set hy with hy | hy
  · exact h y hy
  · rw [hy]; exact hx
def FoldedP (many : Nat) (o : Ot) : Prop := ∃ cs : List Int, cs.length = many ∧ (∀ c ∈ cs, StirB c) ∧ outF .F o = .ok (.lst (cs.map .int))
theorem folded_run (ns : List Int) (many : Nat) (h0 : 0 < many) (h1 : many ≤ 1000) (hn : ns.length ≤ 63) : ∃ cs : List Int, cs.length = many ∧ (∀ c ∈ cs, StirB c) ∧ F__law_folded [.scr (ns.map .int), .int many] = .ok (.lst (cs.map .int)) := by
  rw [R__law_folded]; unfold Fb__law_folded
  have cz := cell_at_run ns 0
  rw [show ((0 : Nat) : Int) = 0 from rfl] at cz
  show FoldedP many _
  simp? [e_B__law_folded_1, e_B__law_folded_2, e_B__law_folded_3, e_C__law_folded_4, e_C__law_folded_5, e_C__law_folded_6, cz]
  refine wp_ite (fun _ => ?_) (fun _ => ?_)
  · have hp : ∀ k : Nat, ∃ p : Int, k < many → 0 ≤ p ∧ p < 1000000 ∧ F__law_part [.int (ns.getD (1 + k % 16) 0), .int (k / 16 : Nat)] = .ok (.int p) := fun k => by
      by_cases hk : k < many
      · obtain ⟨p, hp⟩ := part_run (ns.getD (1 + k % 16) 0) (k / 16) (by omega)
        exact ⟨p, fun _ => hp⟩
      · exact ⟨0, fun h => absurd h hk⟩
    obtain ⟨f, hf⟩ := Classical.axiomOfChoice hp
    simp? [e_B__law_folded_1, e_B__law_folded_2, e_B__law_folded_3, e_C__law_folded_4, e_C__law_folded_5, e_C__law_folded_6]
    rw [comp_rng (f := fun k => .int (f k)) (by omega) ?hc]
    case hc =>
      intro k hk
      refine ⟨_, v_nameG, ?_⟩
      have c1 := cell_at_run ns (1 + k % 16)
      have e1 : (1 + (k : Int) % 16) = ((1 + k % 16 : Nat) : Int) := by omega
      have e2 : (k : Int) / 16 = ((k / 16 : Nat) : Int) := by omega
      simp? [e_B__law_folded_1, e_B__law_folded_2, e_B__law_folded_3, e_C__law_folded_4, e_C__law_folded_5, e_C__law_folded_6, e1, e2, c1, (hf k hk).2.2]
    simp? [e_B__law_folded_1, e_B__law_folded_2, e_B__law_folded_3, e_C__law_folded_4, e_C__law_folded_5, e_C__law_folded_6]
    refine ⟨(List.range many).map f, by simp, fun c hc => ?_, by rw [List.map_map]; rfl⟩
    obtain ⟨k, hk, rfl⟩ := List.mem_map.mp hc
    have := hf k (List.mem_range.mp hk)
    exact ⟨this.1, by omega⟩
  · simp? [e_B__law_folded_1, e_B__law_folded_2, e_B__law_folded_3, e_C__law_folded_4, e_C__law_folded_5, e_C__law_folded_6]
    refine wp_forI ns Dt.int (fun st : Int => [some (.scr (ns.map .int)), some (.int many), some (.int st), none, none, none, none]) (fun _ st => StirB st) 7 rfl rfl ⟨by decide, by decide⟩ ?_ ?_
    · rintro pre c post st e ⟨s1, s2⟩
      refine ⟨_, v_nameG, ?_⟩
      simp? [e_B__law_folded_1, e_B__law_folded_2, e_B__law_folded_3, e_C__law_folded_4, e_C__law_folded_5, e_C__law_folded_6]
      exact ⟨_, rfl, stirB_mod _⟩
    rintro st ⟨s1, s2⟩
    simp? [e_B__law_folded_1, e_B__law_folded_2, e_B__law_folded_3, e_C__law_folded_4, e_C__law_folded_5, e_C__law_folded_6]
    refine wp_rng0 many (fun q : Int × List Int => [some (.scr (ns.map .int)), some (.int many), some (.int q.1), none, some (.lst (q.2.map .int)), none, none]) (fun k q => StirB q.1 ∧ q.2.length = k ∧ ∀ v ∈ q.2, StirB v) (st, []) rfl ⟨⟨s1, s2⟩, rfl, by simp⟩ ?_ ?_
    · rintro k ⟨st, vs⟩ hk ⟨⟨s1, s2⟩, hl, hv⟩
      dsimp only at s1 s2 hl hv
      refine ⟨_, v_nameG, ?_⟩
      simp? [e_B__law_folded_1, e_B__law_folded_2, e_B__law_folded_3, e_C__law_folded_4, e_C__law_folded_5, e_C__law_folded_6]
      exact ⟨(_, vs ++ [_]), by rw [List.map_append]; rfl, stirB_mod _, by rw [List.length_append, hl]; rfl, all_snoc hv (stirB_mod _)⟩
    rintro ⟨st, vs⟩ ⟨_, hl, hv⟩
    dsimp only at hl hv
    simp? [e_B__law_folded_1, e_B__law_folded_2, e_B__law_folded_3, e_C__law_folded_4, e_C__law_folded_5, e_C__law_folded_6]
    refine wp_rng0 ns.length (fun vs : List Int => ([some (.scr (ns.map .int)), some (.int many), none, none, some (.lst (vs.map .int)), none, none] : Ev)) (fun _ vs => vs.length = many ∧ ∀ v ∈ vs, StirB v) vs rfl ⟨hl, hv⟩ ?_ ?_
    · rintro k vs hk ⟨hl, hv⟩
      have m0 : 0 ≤ (k : Int) % many := Int.emod_nonneg _ (by omega)
      have m1 : (k : Int) % many < many := Int.emod_lt_of_pos _ (by omega)
      obtain ⟨x, hx, hm⟩ := at_of_lt (xs := vs) (k := ((k : Int) % many).toNat) (by omega)
      obtain ⟨y, hy, _⟩ := at_of_lt (xs := ns) (k := k) hk
      refine ⟨_, v_nameG, ?_⟩
      obtain ⟨j, hj⟩ := Int.eq_ofNat_of_zero_le m0
      rw [hj, Int.toNat_natCast] at hx
      simp? [e_B__law_folded_1, e_B__law_folded_2, e_B__law_folded_3, e_C__law_folded_4, e_C__law_folded_5, e_C__law_folded_6, hj, hx, hy]
      exact ⟨vs.set j _, by rw [List.map_set], by rw [List.length_set]; exact hl, all_set hv (stirB_mod _)⟩
    rintro vs ⟨hl, hv⟩
    simp? [e_B__law_folded_1, e_B__law_folded_2, e_B__law_folded_3, e_C__law_folded_4, e_C__law_folded_5, e_C__law_folded_6]
    exact ⟨vs, hl, hv, rfl⟩
/-! the drawn mill -/
theorem pocket_run (c : Int) : ∃ q : Pk, pkB q = true ∧ F__law_pocket [.int c] = .ok (pkD q) := by
  rw [R__law_pocket]; unfold Fb__law_pocket
  obtain ⟨w, hw, ew⟩ := x_lit (xs := [9, 9, 9, 2, c / 16 % 10]) (g := Dt.int) (k := c / 2 % 5) (by omega) (by simp; omega)
  have ew : ixD (.lst [.int 9, .int 9, .int 9, .int 2, .int (c / 16 % 10)]) (.int (c / 2 % 5)) = .ok (.int w) := ew
  have hw2 : 0 ≤ w ∧ w ≤ 9 := by
    simp only [List.mem_cons, List.not_mem_nil, or_false] at hw
    omega
  obtain ⟨k, hk, ek⟩ := x_lit (xs := [("queue" : Str), "pile"]) (g := Dt.str) (k := c % 2) (by omega) (by simp; omega)
  have ek : ixD (.lst [.str "queue", .str "pile"]) (.int (c % 2)) = .ok (.str k) := ek
  have hk2 : kindB k = true := by
    simp only [List.mem_cons, List.not_mem_nil, or_false] at hk
    rcases hk with rfl | rfl <;> decide
  refine ⟨(k, w), ?_, ?_⟩
  · unfold pkB
    rw [hk2, decide_eq_true hw2.1, decide_eq_true hw2.2]
    rfl
  · simp? [ew, ek]
    rfl
def PassesP (most : Nat) (o : Ot) : Prop := ∃ ps : List (List Pk), ps.length ≤ 6 ∧ ps.all passB = true ∧ prodN ps ≤ most ∧ outF .F o = .ok (.lst (ps.map pkLD))
theorem passes_run (cs : List Int) (most : Nat) (hc : 44 ≤ cs.length) (hm : 1 ≤ most) (hm2 : most ≤ 100000) : ∃ ps : List (List Pk), ps.length ≤ 6 ∧ ps.all passB = true ∧ prodN ps ≤ most ∧ F__law_passes [.lst (cs.map .int), .int most] = .ok (.lst (ps.map pkLD)) := by
  rw [R__law_passes]; unfold Fb__law_passes
  show PassesP most _
  have at_ : ∀ k : Nat, k < 44 → ∃ c, cs[k]? = some c := fun k hk => by
    obtain ⟨c, h1, _⟩ := at_of_lt (xs := cs) (k := k) (by omega)
    exact ⟨c, h1⟩
  obtain ⟨c0, e0⟩ := at_ 0 (by omega)
  obtain ⟨n, hn, en⟩ := x_lit (xs := [1, 2, 3, 2, 5, 4, 0, 6]) (g := Dt.int) (k := c0 / 3 % 8) (by omega) (by simp; omega)
  have en : ixD (.lst [.int 1, .int 2, .int 3, .int 2, .int 5, .int 4, .int 0, .int 6]) (.int (c0 / 3 % 8)) = .ok (.int n) := en
  have hn2 : 0 ≤ n ∧ n ≤ 6 := by
    simp only [List.mem_cons, List.not_mem_nil, or_false] at hn
    omega
  have e0 : ixD (.lst (cs.map .int)) (.int 0) = .ok (.int c0) := by
    rw [show (0 : Int) = ((0 : Nat) : Int) from rfl, x_ixLn, List.getElem?_map, e0]; rfl
  simp? [e_B__law_passes_1, e_C__law_passes_2, e0, en]
  refine wp_rng0 n.toNat (fun ps : List (List Pk) => [some (.lst (cs.map .int)), some (.int most), some (.lst (ps.map pkLD)), some (.int (prodN ps : Nat)), none, none, none]) (fun t ps => ps.length = t ∧ ps.all passB = true ∧ prodN ps ≤ most) [] rfl ⟨rfl, rfl, hm⟩ ?_ ?_
  · rintro t ps ht ⟨hl, hp, hq⟩
    have ht : t < 6 := by omega
    refine ⟨_, v_nameG, ?_⟩
    obtain ⟨c1, e1⟩ := at_ (1 + 7 * t) (by omega)
    obtain ⟨m, hm, em⟩ := x_lit (xs := [1, 2, 3, 2, 3, 2, 4, 6]) (g := Dt.int) (k := c1 / 5 % 8) (by omega) (by simp; omega)
    have hm2 : 1 ≤ m ∧ m ≤ 6 := by
      simp only [List.mem_cons, List.not_mem_nil, or_false] at hm
      omega
    have em : ixD (.lst [.int 1, .int 2, .int 3, .int 2, .int 3, .int 2, .int 4, .int 6]) (.int (c1 / 5 % 8)) = .ok (.int m) := em
    have n1 : 1 + 7 * (t : Int) = ((1 + 7 * t : Nat) : Int) := by omega
    have n2 : 2 + 7 * (t : Int) = ((2 + 7 * t : Nat) : Int) := by omega
    simp? [e_B__law_passes_1, e_C__law_passes_2, n1, e1, em]
    obtain ⟨mn, h1, h6, hmul, hmn⟩ : ∃ mn : Nat, 1 ≤ mn ∧ mn ≤ 6 ∧ prodN ps * mn ≤ most ∧ (mn : Int) = if (most : Int) < (prodN ps : Int) * m then 1 else m := by
      by_cases h2 : (most : Int) < (prodN ps : Int) * m
      · exact ⟨1, by omega, by omega, by omega, by rw [if_pos h2]; rfl⟩
      · obtain ⟨mn, rfl⟩ := Int.eq_ofNat_of_zero_le (show 0 ≤ m by omega)
        refine ⟨mn, by omega, by omega, ?_, by rw [if_neg h2]⟩
        have := Int.natCast_mul (prodN ps) mn
        omega
    refine wp_ite2 (ρ1 := [some (.lst (cs.map .int)), some (.int most), some (.lst (ps.map pkLD)), some (.int (prodN ps : Nat)), some (.int (t : Nat)), some (.int mn), none]) (fun h2 => ?_) (fun h2 => ?_) ?_
    · simp? [e_B__law_passes_1, e_C__law_passes_2]
      rw [hmn, if_pos (of_decide_eq_true h2)]
    · simp? [e_B__law_passes_1, e_C__law_passes_2]
      rw [hmn, if_neg (of_decide_eq_false h2)]
    have hq : ∀ j : Nat, ∃ q : Pk, j < mn → pkB q = true ∧ ∃ c, cs[2 + 7 * t + j]? = some c ∧ F__law_pocket [.int c] = .ok (pkD q) := fun j => by
      by_cases hj : j < mn
      · obtain ⟨c2, e2⟩ := at_ (2 + 7 * t + j) (by omega)
        obtain ⟨q, hq, eq⟩ := pocket_run c2
        exact ⟨q, fun _ => ⟨hq, c2, e2, eq⟩⟩
      · exact ⟨("", 0), fun h => absurd h hj⟩
    obtain ⟨f, hf⟩ := Classical.axiomOfChoice hq
    simp? [e_B__law_passes_1, e_C__law_passes_2, n2]
    rw [comp_rng (f := fun j => pkD (f j)) (by omega) ?hc]
    case hc =>
      intro j hj
      obtain ⟨_, c, e2, e3⟩ := hf j hj
      refine ⟨_, v_nameG, ?_⟩
      have n3 : ((2 + 7 * t : Nat) : Int) + (j : Int) = ((2 + 7 * t + j : Nat) : Int) := by omega
      simp? [e_B__law_passes_1, e_C__law_passes_2, n2, n3, e2, e3]
    simp? [e_B__law_passes_1, e_C__law_passes_2]
    have pl : ((List.range mn).map f).length = mn := by simp
    have pb : passB ((List.range mn).map f) = true := by
      unfold passB
      rw [decide_eq_true (p := 1 ≤ _) (by omega), decide_eq_true (p := _ ≤ 6) (by omega)]
      rw [List.all_eq_true.mpr fun q hq => by
        obtain ⟨j, hj, rfl⟩ := List.mem_map.mp hq
        exact (hf j (List.mem_range.mp hj)).1]
      rfl
    refine ⟨ps ++ [(List.range mn).map f], ?_, by simp [hl], by rw [List.all_append, hp]; simp [pb], by rw [prodN_snoc, pl]; exact hmul⟩
    rw [prodN_snoc, pl, Int.natCast_mul, List.map_append, List.map_cons, List.map_nil, pkLD, List.map_map]
    rfl
  · rintro ps ⟨hl, hp, hq⟩
    simp? [e_B__law_passes_1, e_C__law_passes_2]
    exact ⟨ps, by omega, hp, hq, rfl⟩
theorem enc_pk : Enc 1 (fun q : Pk => kindB q.1 = true) pkD := (enc_str.pair enc_int).mono fun q h => ⟨by
  unfold kindB at h
  simp at h
  rcases h with h | h <;> rw [h] <;> decide +kernel, trivial⟩
theorem enc_pkT : Enc 2 (fun p : List Pk => ∀ q ∈ p, kindB q.1 = true) pkTD := enc_pk.tup
theorem enc_pkL : Enc 2 (fun p : List Pk => ∀ q ∈ p, kindB q.1 = true) pkLD := enc_pk.lst
theorem enc_mill : Enc 3 (fun ps : List (List Pk) => ∀ p ∈ ps, ∀ q ∈ p, kindB q.1 = true) (fun ps => .tup (ps.map pkTD)) := enc_pkT.tup
theorem kinds_okE {ps : List (List Pk)} (hp : ps.all passB = true) : ∀ p ∈ ps, ∀ q ∈ p, kindB q.1 = true := fun p hq q h => by
  have := List.all_eq_true.mp hp p hq
  unfold passB at this
  simp only [Bool.and_eq_true] at this
  have := List.all_eq_true.mp this.2.2 q h
  unfold pkB at this
  simp only [Bool.and_eq_true] at this
  exact this.1
theorem pk_flat (ps : List (List Pk)) : flatO (.I [.F]) (millD ps) = true := by
  have one : ∀ p : List Pk, flatEs (p.map pkD) = true := fun p => by
    induction p with
    | nil => rfl
    | cons q p ih => rw [List.map_cons]; show (true && flatEs (p.map pkD)) = true; rw [ih]; rfl
  show (flatEs (ps.map pkTD) && true) = true
  rw [Bool.and_true]
  induction ps with
  | nil => rfl
  | cons p ps ih =>
    rw [List.map_cons]
    show (flatEs (p.map pkD) && flatEs (ps.map pkTD)) = true
    rw [one, ih]
    rfl
theorem whole_run (x : Int) : F__law_whole [.int x, .int x] = .ok (.bl true) := by
  rw [R__law_whole]; unfold Fb__law_whole
  have e := enc_int.eqD (x := x) (y := x) trivial trivial
  rw [decide_eq_true rfl] at e
  simp? [e]
  try rfl
def KeptP (o : Ot) : Prop := outF .F o = .ok (.bl true)
theorem kept_run (ps : List (List Pk)) (p6 : ps.length ≤ 6) (pb : ps.all passB = true) : F__law_kept [millD ps, .lst (ps.map pkLD)] = .ok (.bl true) := by
  rw [R__law_kept]; unfold Fb__law_kept
  show KeptP _
  have it : isiD .tuple (.tup (ps.map pkTD)) = .ok (.bl true) := rfl
  have nn := enc_mill.neD (x := ps) (y := ps) (kinds_okE pb) (kinds_okE pb)
  rw [decide_eq_true rfl] at nn
  have nn : neD (.tup (ps.map pkTD)) (.tup (ps.map pkTD)) = .ok (.bl false) := nn
  simp? [e_B__law_kept_1, e_C__law_kept_2, e_B__law_kept_3, e_C__law_kept_4, fld_mill, it]
  rw [comp_mapE (f := pkTD) (by omega) ?hc]
  case hc =>
    intro p hp
    refine ⟨_, v_nameG, ?_⟩
    unfold pkLD
    simp? [e_B__law_kept_1, e_C__law_kept_2, e_B__law_kept_3, e_C__law_kept_4]
    rfl
  simp? [e_B__law_kept_1, e_C__law_kept_2, e_B__law_kept_3, e_C__law_kept_4, nn]
  refine wp_forI (Post := KeptP) ps pkTD (fun a : Nat => [some (millD ps), some (.lst (ps.map pkLD)), some (.int (a : Nat)), none, none]) (fun pre a => a = prodN pre) 1 rfl rfl rfl ?_ ?_
  · rintro pre p post a e rfl
    refine ⟨_, v_nameG, ?_⟩
    have hp : p ∈ ps := by rw [e]; simp
    have p2 := passB_len (List.all_eq_true.mp pb p hp)
    have i1 : isiD .tuple (pkTD p) = .ok (.bl true) := rfl
    have sq : seqID (pkTD p) = .ok (p.map pkD) := rfl
    simp? [e_B__law_kept_1, e_C__law_kept_2, e_B__law_kept_3, e_C__law_kept_4, i1, sq]
    refine wp_forI p pkD (fun _ : Unit => [some (millD ps), some (.lst (ps.map pkLD)), some (.int (prodN pre : Nat)), some (pkTD p), none]) (fun _ _ => True) () rfl rfl trivial ?_ ?_
    · rintro pre2 q post2 s2 e2 _
      refine ⟨_, v_nameG, ?_⟩
      have t1 : isiD .tuple (pkD q) = .ok (.bl true) := rfl
      have x0 : ixD (pkD q) (.int 0) = .ok (.str q.1) := x_t0
      have x1 : ixD (pkD q) (.int 1) = .ok (.int q.2) := x_t1
      have t2 : isiD .str (.str q.1) = .ok (.bl true) := rfl
      have w1 := whole_run q.2
      simp? [e_B__law_kept_1, e_C__law_kept_2, e_B__law_kept_3, e_C__law_kept_4, t1, x0, x1, t2, w1]
      exact ⟨(), rfl, trivial⟩
    · rintro _ _
      have lk := lenD_pk p
      have sm : smallI ((p.length : Nat) : Int) = true := smallI_of (by omega) (by omega)
      have ml : ∀ z : Int, mulI z ((p.length : Nat) : Int) = .ok (.int (z * (p.length : Nat))) := fun z => v_mulR sm
      simp? [e_B__law_kept_1, e_C__law_kept_2, e_B__law_kept_3, e_C__law_kept_4, lk, ml]
      refine ⟨prodN (pre ++ [p]), ?_, rfl⟩
      rw [prodN_snoc, Int.natCast_mul]
  · rintro a rfl
    unfold C__law_kept_4
    have cr := codes_run ps (len_of pb)
    have mr := many_run ps
    have w1 := whole_run ((prodN ps : Nat) : Int)
    have w2 := whole_run ((ps.length : Nat) : Int)
    have lk : lenD (.lst (ps.map pkLD)) = .ok (.int (ps.length : Nat)) := by show Rs.ok (Dt.int _) = _; rw [List.length_map]
    simp? [e_B__law_kept_1, e_C__law_kept_2, e_B__law_kept_3, e_C__law_kept_4, nom_codes, nom_many, cr, mr, w1, w2, lk]
    try rfl
theorem handed0_run (ps : List (List Pk)) (p6 : ps.length ≤ 6) : F__law_handedV0 [.lst (ps.map pkLD), .int 0] = .ok (.lst (ps.map pkLD)) := by
  rw [R__law_handedV0]
  unfold Fb__law_handedV0
  simp? [ok_bind]
  rw [comp_mapE (f := pkLD) (by omega) ?hc]
  case hc =>
    intro p hp
    refine ⟨_, v_nameG, ?_⟩
    unfold pkLD
    simp? [ok_bind]
  simp? [ok_bind]
  try rfl
theorem handed1_run (ps : List (List Pk)) (p6 : ps.length ≤ 6) : F__law_handed [.lst (ps.map pkLD), .int 1] = .ok (.tup (ps.map pkTD)) := by
  rw [R__law_handed]; unfold Fb__law_handed
  simp? [ok_bind]
  rw [comp_mapE (f := pkTD) (by omega) ?hc]
  case hc =>
    intro p hp
    refine ⟨_, v_nameG, ?_⟩
    unfold pkLD
    simp? [ok_bind]
    rfl
  simp? [ok_bind]
  try rfl
theorem handedN_run (ps : List (List Pk)) (p6 : ps.length ≤ 6) : F__law_handed [.lst (ps.map pkLD), .int 2] = .ok (.tup (ps.map pkLD)) := by
  rw [R__law_handed]; unfold Fb__law_handed
  simp? [ok_bind]
  rw [comp_mapE (f := pkLD) (by omega) ?hc]
  case hc =>
    intro p hp
    refine ⟨_, v_nameG, ?_⟩
    unfold pkLD
    simp? [ok_bind]
  simp? [ok_bind]
  try rfl
theorem handed2_run (ps : List (List Pk)) (p6 : ps.length ≤ 6) : F__law_handedV2 ps.length [.lst (ps.map pkLD), .int 2] = .ok (.tup (ps.map pkLD)) := by
  rw [R__law_handedV2]
  unfold Fb__law_handedV2
  have tn : tupND ps.length (.lst (ps.map pkLD)) = .ok (.tup (ps.map pkLD)) := x_tupN (by rw [List.length_map])
  simp? [ok_bind]
  rw [v_tupN]
  simp? [ok_bind]
  rw [comp_mapE (f := pkLD) (by omega) ?hc]
  case hc =>
    intro p hp
    refine ⟨_, v_nameG, ?_⟩
    unfold pkLD
    simp? [ok_bind]
  simp? [tn]
  try rfl
def chgP : List Pk → List Pk
  | [] => []
  | q :: r => ((if q.1 = "queue" then "pile" else "queue"), 9 - q.2) :: r
theorem pure_law (ns : List Int) (hn : ns.length ≤ 63) : F_law [.scr (ns.map Dt.int)] = .ok (.bl true) := by
  rw [R_law]; unfold Fb_law
  show KeptP _
  obtain ⟨cs, cl, cb, ec⟩ := folded_run ns 44 (by decide) (by decide) hn
  obtain ⟨ps, p6, pb, pN, ep⟩ := passes_run cs 1000 (by omega) (by decide) (by decide)
  have ec : F__law_folded [.scr (ns.map .int), .int 44] = .ok (.lst (cs.map .int)) := ec
  have ep : F__law_passes [.lst (cs.map .int), .int 1000] = .ok (.lst (ps.map pkLD)) := ep
  obtain ⟨c, e43, _⟩ := at_of_lt (xs := cs) (k := 43) (by omega)
  have e43 : ixD (.lst (cs.map .int)) (.int 43) = .ok (.int c) := v_ixL (atI_nat (k := 43) (at_map e43))
  obtain ⟨W, hW⟩ : ∃ W : Int, W = c % 3 := ⟨_, rfl⟩
  have kp := kept_run ps p6 pb
  have I0 := init_run ps p6 pb
  have I1 := init_runT ps p6 pb
  have I2 : F_Mill___init__ [.tup (ps.map pkLD)] = if prodN ps ≤ 1000 then .ok (millD ps) else .ex ("BadMill", none) := init_runB true false ps p6 pb
  have I3 : F_Mill___init__ [.lst (ps.map pkTD)] = if prodN ps ≤ 1000 then .ok (millD ps) else .ex ("BadMill", none) := init_runB false true ps p6 pb
  rw [if_pos pN] at I0 I1 I2 I3
  have kk := kinds_okE pb
  have n0 := enc_pkL.lst.neD (x := ps) (y := ps) kk kk
  have n1 := enc_mill.neD (x := ps) (y := ps) kk kk
  have n2 := enc_pkL.tup.neD (x := ps) (y := ps) kk kk
  rw [decide_eq_true rfl] at n0 n1 n2
  have n0 : neD (.lst (ps.map pkLD)) (.lst (ps.map pkLD)) = .ok (.bl false) := n0
  have n1 : neD (.tup (ps.map pkTD)) (.tup (ps.map pkTD)) = .ok (.bl false) := n1
  have n2 : neD (.tup (ps.map pkLD)) (.tup (ps.map pkLD)) = .ok (.bl false) := n2
  have fl := pk_flat ps
  have h0 := handed0_run ps p6
  have h1 := handed1_run ps p6
  have hN := handedN_run ps p6
  have h2 := handed2_run ps p6
  have len := lenOf
  simp? [e_B_law_1, e_C_law_2, e_C_law_3, e_B_law_4, e_C_law_5, ec, ep, e43, ← hW]
  rw [v_case3 rfl]
  have lo : lenOf [some (.scr (ns.map .int)), some (.lst (cs.map .int)), some (.lst (ps.map pkLD)), some (.int W), none, none, none, none, none] 2 = ps.length := by
    show (ps.map pkLD).length = _
    rw [List.length_map]
  rw [lo]
  have kq : ∀ q : Pk, kindB q.1 = true → eqD (.str q.1) (.str "queue") = .ok (.bl (decide (q.1 = "queue"))) := fun q hq => by
    have lay : PyData.canLay0 (.str q.1) = true := by
      unfold kindB at hq
      simp at hq
      rcases hq with h | h <;> rw [h] <;> decide +kernel
    exact enc_str.eqD (x := q.1) (y := "queue") lay (by decide +kernel)
  obtain rfl | rfl | rfl : W = 0 ∨ W = 1 ∨ W = 2 := by omega
  · rw [if_pos rfl]
    have ok : okO (.lst (ps.map pkLD)) = true := rfl
    simp? [e_B_law_1, e_C_law_2, e_C_law_3, e_B_law_4, e_C_law_5, h0, v_makeO, ok, I0, fl, n0]
    rw [forM_map (d := .lst (ps.map pkLD)) ps pkLD (fun p => pkLD (chgP p)) rfl rfl rfl (by decide) ?hm]
    case hm =>
      intro p hp
      have p2 := passB_len (List.all_eq_true.mp pb p hp)
      have kp2 := kk p hp
      match p, p2, kp2 with
      | q :: r, _, kp2 =>
        have eq := kq q (kp2 q List.mem_cons_self)
        have i0 : ixD (pkLD (q :: r)) (.int 0) = .ok (pkD q) := v_ixL (atI_nat (k := 0) (by simp))
        simp? [e_B_law_1, e_C_law_2, e_C_law_3, e_B_law_4, e_C_law_5, i0, eq]
        rw [v_asgR (ρ' := [some (.scr (ns.map .int)), some (.lst (cs.map .int)), some (.lst (ps.map pkLD)), some (.int 0), none, some (millD ps), some (pkLD (q :: r)), some (.str q.1), some (.int q.2)]) rfl]
        unfold pkLD
        by_cases hq : q.1 = "queue"
        · have dq : decide (q.1 = "queue") = true := decide_eq_true hq
          simp? [e_B_law_1, e_C_law_2, e_C_law_3, e_B_law_4, e_C_law_5, eq, dq]
          refine (v_setR (ds := pkD q :: r.map pkD) (k := 0) (Nat.lt_of_lt_of_le Nat.zero_lt_one (by simp))).trans ?_
          have ec : chgP (q :: r) = (("pile", 9 - q.2) : Pk) :: r := by
            dsimp only [chgP]
            rw [if_pos hq]
          rw [ec]
          rfl
        · have dq : decide (q.1 = "queue") = false := decide_eq_false hq
          simp? [e_B_law_1, e_C_law_2, e_C_law_3, e_B_law_4, e_C_law_5, eq, dq]
          refine (v_setR (ds := pkD q :: r.map pkD) (k := 0) (Nat.lt_of_lt_of_le Nat.zero_lt_one (by simp))).trans ?_
          have ec : chgP (q :: r) = (("queue", 9 - q.2) : Pk) :: r := by
            dsimp only [chgP]
            rw [if_neg hq]
          rw [ec]
          rfl
    have hm : (ps.map fun p => pkLD (chgP p)) = (ps.map chgP).map pkLD := by rw [List.map_map]; rfl
    have tp : tputD none (.lst (ps.map pkLD)) (.lst (ps.map fun p => pkLD (chgP p))) = .lst ((ps.map chgP).map pkLD) := by rw [hm]; rfl
    rw [tp]
    unfold C_law_2
    simp? [e_B_law_1, e_C_law_2, e_C_law_3, e_B_law_4, e_C_law_5, kp, fld_mill, I3]
    try rfl
  · rw [if_neg (by decide), if_pos (.inl rfl)]
    simp? [e_B_law_1, e_C_law_2, e_C_law_3, e_B_law_4, e_C_law_5, h1, I1, n1, kp, fld_mill, I3]
    try rfl
  · rw [if_neg (by decide)]
    by_cases z : ps.length = 0
    · rw [if_pos (.inr z)]
      have zn := List.length_eq_zero_iff.mp z
      subst zn
      have hN : F__law_handed [.lst [], .int 2] = .ok (.tup []) := hN
      have I2 : F_Mill___init__ [.tup []] = .ok (millD []) := I2
      have n2 : neD (.tup []) (.tup []) = .ok (.bl false) := n2
      simp? [e_B_law_1, e_C_law_2, e_C_law_3, e_B_law_4, e_C_law_5, hN, I2, n2]
      refine wp_forI (Post := KeptP) ([] : List (List Pk)) pkLD (fun _ : Unit => [some (.scr (ns.map .int)), some (.lst (cs.map .int)), some (.lst []), some (.int 2), some (.tup []), some (millD []), none, none, none]) (fun _ _ => True) () rfl rfl trivial ?_ ?_
      · rintro pre p post _ e _
        simp at e
      · rintro _ _
        have kp : F__law_kept [millD [], .lst []] = .ok (.bl true) := kp
        have I3 : F_Mill___init__ [.lst []] = .ok (millD []) := I3
        have fm : fldD "Mill" "passes" (millD []) = .ok (.tup []) := fld_mill []
        unfold C_law_3
        simp? [e_B_law_1, e_C_law_2, e_C_law_3, e_B_law_4, e_C_law_5, kp, fm, I3]
        try rfl
    · rw [if_neg (by simp [z])]
      have ok : okO (.tup (ps.map pkLD)) = true := by
        match ps, z with
        | p :: ps, _ => rfl
      simp? [e_B_law_1, e_C_law_2, e_C_law_3, e_B_law_4, e_C_law_5, h2, v_makeO, ok, I2, fl, n2, v_forU]
      rw [forU_map ps pkLD (fun p => pkLD (chgP p)) rfl rfl (by decide) ?hm2]
      case hm2 =>
        intro p hp
        have p2 := passB_len (List.all_eq_true.mp pb p hp)
        have kp2 := kk p hp
        match p, p2, kp2 with
        | q :: r, _, kp2 =>
          have eq := kq q (kp2 q List.mem_cons_self)
          have i0 : ixD (pkLD (q :: r)) (.int 0) = .ok (pkD q) := v_ixL (atI_nat (k := 0) (by simp))
          simp? [e_B_law_1, e_C_law_2, e_C_law_3, e_B_law_4, e_C_law_5, i0, eq]
          rw [v_asgR (ρ' := [some (.scr (ns.map .int)), some (.lst (cs.map .int)), some (.lst (ps.map pkLD)), some (.int 2), none, some (millD ps), some (pkLD (q :: r)), some (.str q.1), some (.int q.2)]) rfl]
          unfold pkLD
          by_cases hq : q.1 = "queue"
          · have dq : decide (q.1 = "queue") = true := decide_eq_true hq
            simp? [e_B_law_1, e_C_law_2, e_C_law_3, e_B_law_4, e_C_law_5, eq, dq]
            refine (v_setR (ds := pkD q :: r.map pkD) (k := 0) (Nat.lt_of_lt_of_le Nat.zero_lt_one (by simp))).trans ?_
            have ec : chgP (q :: r) = (("pile", 9 - q.2) : Pk) :: r := by
              dsimp only [chgP]
              rw [if_pos hq]
            rw [ec]
            rfl
          · have dq : decide (q.1 = "queue") = false := decide_eq_false hq
            simp? [e_B_law_1, e_C_law_2, e_C_law_3, e_B_law_4, e_C_law_5, eq, dq]
            refine (v_setR (ds := pkD q :: r.map pkD) (k := 0) (Nat.lt_of_lt_of_le Nat.zero_lt_one (by simp))).trans ?_
            have ec : chgP (q :: r) = (("queue", 9 - q.2) : Pk) :: r := by
              dsimp only [chgP]
              rw [if_neg hq]
            rw [ec]
            rfl
      unfold C_law_5
      simp? [e_B_law_1, e_C_law_2, e_C_law_3, e_B_law_4, e_C_law_5, kp, fld_mill, I3]
      try rfl
end Pm
namespace Pm
open PySem PySem.Spec PyProof.Rows L2 C8
theorem facts {K : PySem.W.Frag} {h : Heap} {mg : Str → Option Value} (X : K.In h) (G : h.Ns mainGlobals mg) (cc : SaysX faD fnD moreD K) : Txt K mg := by
  obtain ⟨c, m⟩ := cc
  unfold moreD at m
  obtain ⟨m_KINDS, m⟩ := He.ba m
  have tb_KINDS := fun H : Hp => He.tupB_ok m_KINDS H
  exact {
    d_pockets_kept := c.def_ 0 (d := d_pockets_kept) rfl
    g_pockets_kept := He.glo_ok X G (c.fact 0 (f := .glo "pockets_kept") rfl)
    d_Mill___init__ := c.def_ 1 (d := d_Mill___init__) rfl
    d_Mill_codes := c.def_ 2 (d := d_Mill_codes) rfl
    m_Mill_codes := He.meth_ok (c.fact 1 (f := .meth "Mill" "codes") rfl)
    d_Mill_many := c.def_ 3 (d := d_Mill_many) rfl
    m_Mill_many := He.meth_ok (c.fact 2 (f := .meth "Mill" "many") rfl)
    d_codes_ahead := c.def_ 4 (d := d_codes_ahead) rfl
    g_codes_ahead := He.glo_ok X G (c.fact 3 (f := .glo "codes_ahead") rfl)
    d__law_cell_at := c.def_ 5 (d := d__law_cell_at) rfl
    g__law_cell_at := He.glo_ok X G (c.fact 4 (f := .glo "_law_cell_at") rfl)
    d__law_part := c.def_ 6 (d := d__law_part) rfl
    g__law_part := He.glo_ok X G (c.fact 5 (f := .glo "_law_part") rfl)
    d__law_folded := c.def_ 7 (d := d__law_folded) rfl
    g__law_folded := He.glo_ok X G (c.fact 6 (f := .glo "_law_folded") rfl)
    d__law_pocket := c.def_ 8 (d := d__law_pocket) rfl
    g__law_pocket := He.glo_ok X G (c.fact 7 (f := .glo "_law_pocket") rfl)
    d__law_passes := c.def_ 9 (d := d__law_passes) rfl
    g__law_passes := He.glo_ok X G (c.fact 8 (f := .glo "_law_passes") rfl)
    d__law_whole := c.def_ 10 (d := d__law_whole) rfl
    g__law_whole := He.glo_ok X G (c.fact 9 (f := .glo "_law_whole") rfl)
    d__law_handed := c.def_ 11 (d := d__law_handed) rfl
    g__law_handed := He.glo_ok X G (c.fact 10 (f := .glo "_law_handed") rfl)
    d__law_kept := c.def_ 12 (d := d__law_kept) rfl
    g__law_kept := He.glo_ok X G (c.fact 11 (f := .glo "_law_kept") rfl)
    d_law := c.def_ 13 (d := d_law) rfl
    g_law := He.glo_ok X G (c.fact 12 (f := .glo "law") rfl)
    g_Mill := He.glo_ok X G (c.fact 13 (f := .glo "Mill") rfl)
    c_Mill := He.cls_ok (c.fact 14 (f := .cls "Mill") rfl)
    k_Mill := He.mkr_ok (c.fact 15 (f := .mkr "Mill") rfl)
    n_Mill_passes := He.noat_ok (c.fact 16 (f := .noat "Mill" "passes") rfl)
    g_MillError := He.glo_ok X G (c.fact 17 (f := .glo "MillError") rfl)
    x_MillError := He.exc_ok (c.fact 18 (f := .exc "MillError") rfl)
    g_BadMill := He.glo_ok X G (c.fact 19 (f := .glo "BadMill") rfl)
    x_BadMill := He.exc_ok (c.fact 20 (f := .exc "BadMill") rfl)
    i_MOST_PASSES := He.int_ok X G (c.fact 21 (f := .int "MOST_PASSES" 6) rfl)
    i_MOST_POCKETS := He.int_ok X G (c.fact 22 (f := .int "MOST_POCKETS" 6) rfl)
    i_MOST_CODES := He.int_ok X G (c.fact 23 (f := .int "MOST_CODES" 1000) rfl)
    i_WIDEST := He.int_ok X G (c.fact 24 (f := .int "WIDEST" 9) rfl)
    g_KINDS := He.glo_ok X G (c.fact 25 (f := .glo "KINDS") rfl)
    t_KINDS := tb_KINDS
    b_ValueError := He.free_ok X G (c.fact 26 (f := .free "ValueError") rfl)
    b_bool := He.free_ok X G (c.fact 27 (f := .free "bool") rfl)
    b_int := He.free_ok X G (c.fact 28 (f := .free "int") rfl)
    b_isinstance := He.free_ok X G (c.fact 29 (f := .free "isinstance") rfl)
    b_len := He.free_ok X G (c.fact 30 (f := .free "len") rfl)
    b_list := He.free_ok X G (c.fact 31 (f := .free "list") rfl)
    b_range := He.free_ok X G (c.fact 32 (f := .free "range") rfl)
    b_str := He.free_ok X G (c.fact 33 (f := .free "str") rfl)
    b_tuple := He.free_ok X G (c.fact 34 (f := .free "tuple") rfl)
  }
end Pm
open PySem PySem.W PySem.Calls PyProof.Rows
theorem PySem.Challenge.cw_pocketmill_k01_mills_kept_holds : PySem.Challenge.rw_pocketmill_k01_mills_kept.Holds := by
  w_on; o_law
  refine HandSHeadRun.head_any (r := Pm.R) (q := view Pm.R.prog [21]) (H := Pm.hk) (ob := Pm.ob) (M := 30000) (loose := Pm.looseD) (d := HandSHeadRun.topDef Pm.R.prog 21) (kwd := []) Pm.ob_eq
    (by kernel_rfl) (fun s => by kernel_rfl) Pm.run (by kernel_rfl) (by kernel_rfl) (by kernel_rfl) (by rfl) (by first | assumption | decide +kernel) (by decide +kernel) ⟨rfl, rfl, rfl, rfl, rfl, by decide +kernel⟩ ?hw ?hc
  case hw => w_witness2
  case hc =>
    refine Pm.walkX (l := PySem.Challenge.rw_pocketmill_k01_mills_kept) (n := 63) (k := 5) (x := "script") (Fn := Pm.F_law) rfl (by decide) (by kernel_rfl) ⟨rfl, by decide, by decide⟩ (fun ns h => Pm.pure_law ns h) ?F
    rintro w mg fa h ⟨K, KX, c⟩ G hmg0
    have hmg : mg ("law" : PySem.Str) = some (.ref fa) := by
      have e : (HandSHeadRun.topDef Pm.R.prog 21).name = ("law" : PySem.Str) := by kernel_rfl
      rw [← e]; exact hmg0
    have T := Pm.facts KX G c
    have e := hmg.symm.trans T.g_law
    cases e
    obtain ⟨fd, ok, _, _, b⟩ := Pm.ok_law (P := (PySem.Challenge.rw_pocketmill_k01_mills_kept).prog) (w := w) T
    exact ⟨K, fd, He.ga K, KX, b, ok⟩
