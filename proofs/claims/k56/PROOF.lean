import PyProof.Rows.All
import Wide.All
import OpenK.AllK
import Wide.FinOn
import KE.KStateDown
import HandS.ForMost
import HandS.Exc
import HandS.TryOnly
import HandS.ExcOwn
import HandS.WordsExc
import HandS.Defaults
import HandS.Wide
import HandS.TupAny
import HandS.IsInst
import HandS.Text
import HandS.Conv
import HandS.Rev
import HandS.Zip
import HandS.ExcIs
import HandS.HeadHook1
import HandS.SortRule
import HandS.SortInts
import HandS.RevTup
import HandS.Iter
import HandS.Dict
import HandS.TupLen
import HandS.WordsDict
import HandS.SetFor
import HandS.Style
import HandS.Codes
import HandS.TupLe
import PyProof.Rows.InDataRows
import HandS.SetKeys
import HandS.More
import HandS.RevRange
import HandS.Strs
import HandS.TryMany
import KE.KRevSl
import HandS.DictSubView
import PyProof.DictWalks
import KE.LtSeq
import HandS.HotCalls
import PyProof.StrOps2
import HandS.Head0
import HandS.Head1
import HandS.Head2
import HandS.HeadEnd
import HandS.HeadHook2
import PySem.Challenge.RW_pocketmill_k56_numbers_and_words
set_option Elab.async false
set_option linter.all false
set_option maxRecDepth 100000
set_option maxHeartbeats 3999999
/-! the layer: data, ownership, worlds -/
namespace Pm
open PySem PySem.Spec PyProof.Rows L2
/-! ### data -/
inductive Dt where
  | non | bl (b : Bool) | int (i : Int) | str (x : Str)
  | lst (xs : List Dt) | scr (xs : List Dt) | tup (xs : List Dt) | ktp (xs : List Dt)
  | ins (C : Str) (ns : List Str) (ds : List Dt)
  | dic (ks : List Key) (ds : List Dt)
  | dit (ks : List (List Key)) (ds : List Dt)
inductive Mode where
  | F | L (m : Mode) | T (ms : List Mode) | I (ms : List Mode) | K (m : Mode)
inductive EM where
  | o (m : Mode) | B | S
/-- an exception: its class, the number that it bears -/
abbrev Xn := Str × Option Int
inductive Rs (α : Type) where
  | ok (a : α) | ex (c : Xn) | no
def Rs.bind {α β : Type} : Rs α → (α → Rs β) → Rs β
  | .ok a, f => f a
  | .ex c, _ => .ex c
  | .no, _ => .no
instance : Monad Rs where
  pure := .ok
  bind := Rs.bind
theorem ok_bind {α β : Type} (a : α) (f : α → Rs β) : (Rs.ok a >>= f) = f a := rfl
theorem ex_bind {α β : Type} (c : Xn) (f : α → Rs β) : ((Rs.ex c : Rs α) >>= f) = .ex c := rfl
theorem no_bind {α β : Type} (f : α → Rs β) : ((Rs.no : Rs α) >>= f) = .no := rfl
theorem pure_ok {α : Type} (a : α) : (pure a : Rs α) = .ok a := rfl
inductive Rs.Post {α : Type} (P : α → Prop) (E : Xn → Prop) : Rs α → Prop where
  | ok {a : α} : P a → Rs.Post P E (.ok a)
  | ex {c : Xn} : E c → Rs.Post P E (.ex c)
theorem Rs.Post.imp {α : Type} {r : Rs α} {P P' : α → Prop} {E E' : Xn → Prop} (h : Rs.Post P E r) (hp : ∀ a, r = .ok a → P a → P' a) (he : ∀ c, E c → E' c) : Rs.Post P' E' r := by
  cases h with
  | ok h => exact .ok (hp _ rfl h)
  | ex h => exact .ex (he _ h)
theorem Rs.Post.bind {α β : Type} {r : Rs α} {f : α → Rs β} {P : β → Prop} {E : Xn → Prop} (h : Rs.Post P E (r >>= f)) : Rs.Post (fun a => Rs.Post P E (f a)) E r := by
  cases r with
  | ok a => exact .ok h
  | ex c =>
    cases h with
    | ex h => exact .ex h
  | no => cases h
theorem Rs.Post.of_ok {α : Type} {P : α → Prop} {E : Xn → Prop} {a : α} (h : Rs.Post P E (.ok a)) : P a := by
  cases h with
  | ok h => exact h
theorem Rs.Post.of_ex {α : Type} {P : α → Prop} {E : Xn → Prop} {c : Xn} (h : Rs.Post P E (.ex c)) : E c := by
  cases h with
  | ex h => exact h
abbrev Ev := List (Option Dt)
/-- the exception's own dict -/
def XR (c : Xn) (dx : Option Addr) (H : Hp) : Prop := match c.2 with
  | none => dx = none
  | some n => ∃ d, dx = some d ∧ H d = some (.xd [("row", .int n)])
theorem _root_.L2.Same.rd {H H' : Hp} {a : Addr} {u : HO} (e : Same H H') (h : Rd H a u) : Rd H' a u := by
  rcases h with h | ⟨o, h⟩
  · exact Or.inl (e a _ h)
  · exact Or.inr ⟨o, e a _ h⟩
theorem _root_.L2.Same.sqt {K : PySem.W.Frag} {H H' : Hp} {a : Addr} {xs : List V} (e : Same H H') (h : SqT K H a xs) : SqT K H' a xs := by
  rcases h with h | h
  · exact Or.inl (Same.rd e h)
  · exact Or.inr h
theorem _root_.L2.Same.new {H : Hp} {p : Addr} {o : HO} (h : H p = none) : Same H (upd H p o) := fun a u e => by
  rw [upd_ne (ne_of_none e h)]
  exact e
section
variable (K : PySem.W.Frag) (ca : Str → Addr)
mutual
inductive Rp (H : Hp) : Dt → V → Prop
  | non : Rp H .non .non
  | bl (b : Bool) : Rp H (.bl b) (.bl b)
  | int (i : Int) : Rp H (.int i) (.int i)
  | str (x : Str) : Rp H (.str x) (.str x)
  | lst {a : Addr} {vs : List V} {ds : List Dt} : H a = some (.lst vs) → Rps H ds vs → Rp H (.lst ds) (.ref a)
  | scr {a : Addr} {vs : List V} {ds : List Dt} : SqL K H a vs → Rps H ds vs → Rp H (.scr ds) (.ref a)
  | tup {a : Addr} {vs : List V} {ds : List Dt} : H a = some (.tup vs) → Rps H ds vs → Rp H (.tup ds) (.ref a)
  | ktp {a : Addr} {vs : List V} {ds : List Dt} : SqT K H a vs → Rps H ds vs → Rp H (.ktp ds) (.ref a)
  | ins {C : Str} {a dx : Addr} {ns : List Str} {vs : List V} {ds : List Dt} : H a = some (.ins (ca C) dx (ns.zip vs)) → ns.length = vs.length → Rps H ds vs → Rp H (.ins C ns ds) (.ref a)
  | dic {a : Addr} {ks : List Key} {vs : List V} {ds : List Dt} : H a = some (.dK (ks.zip vs)) → ks.length = vs.length → Rps H ds vs → Rp H (.dic ks ds) (.ref a)
  | dicZ {a : Addr} {o : Obj} {ks : List Key} {vs : List V} {ds : List Dt} : H a = some (.frz o (.dK (ks.zip vs))) → ks.length = vs.length → Rps H ds vs → Rp H (.dic ks ds) (.ref a)
  | dit {a : Addr} {ks : List (List Key)} {vs : List V} {ds : List Dt} : H a = some (.dT (ks.zip vs)) → ks.length = vs.length → Rps H ds vs → Rp H (.dit ks ds) (.ref a)
inductive Rps (H : Hp) : List Dt → List V → Prop
  | nil : Rps H [] []
  | cons {d : Dt} {ds : List Dt} {v : V} {vs : List V} : Rp H d v → Rps H ds vs → Rps H (d :: ds) (v :: vs)
end
mutual
inductive Ow (G H : Hp) : Mode → Dt → V → (Addr → Prop) → Prop
  | F {d : Dt} {v : V} {P : Addr → Prop} : Rp K ca G d v → Ow G H .F d v P
  | NL {m : Mode} {P : Addr → Prop} : Ow G H (.L m) .non .non P
  | NT {ms : List Mode} {P : Addr → Prop} : Ow G H (.T ms) .non .non P
  | L {m : Mode} {a : Addr} {vs : List V} {ds : List Dt} {P : Addr → Prop} : H a = some (.lst vs) → G a = none → P a → Ows G H (List.replicate ds.length m) ds vs (fun b => P b ∧ b ≠ a) → Ow G H (.L m) (.lst ds) (.ref a) P
  | T {ms : List Mode} {a : Addr} {vs : List V} {ds : List Dt} {P : Addr → Prop} : H a = some (.tup vs) → G a = none → P a → Ows G H ms ds vs (fun b => P b ∧ b ≠ a) → Ow G H (.T ms) (.tup ds) (.ref a) P
  | TL {ms : List Mode} {a : Addr} {vs : List V} {ds : List Dt} {P : Addr → Prop} : H a = some (.lst vs) → G a = none → P a → Ows G H ms ds vs (fun b => P b ∧ b ≠ a) → Ow G H (.T ms) (.lst ds) (.ref a) P
  | I {ms : List Mode} {C : Str} {a dx : Addr} {ns : List Str} {vs : List V} {ds : List Dt} {P : Addr → Prop} : H a = some (.ins (ca C) dx (ns.zip vs)) → G a = none → P a → ns.length = vs.length → Ows G H ms ds vs (fun b => P b ∧ b ≠ a) → Ow G H (.I ms) (.ins C ns ds) (.ref a) P
  | K {m : Mode} {a : Addr} {ks : List Key} {vs : List V} {ds : List Dt} {P : Addr → Prop} : H a = some (.dK (ks.zip vs)) → G a = none → P a → ks.length = vs.length → Ows G H (List.replicate ds.length m) ds vs (fun b => P b ∧ b ≠ a) → Ow G H (.K m) (.dic ks ds) (.ref a) P
  | KT {m : Mode} {a : Addr} {ks : List (List Key)} {vs : List V} {ds : List Dt} {P : Addr → Prop} : H a = some (.dT (ks.zip vs)) → G a = none → P a → ks.length = vs.length → Ows G H (List.replicate ds.length m) ds vs (fun b => P b ∧ b ≠ a) → Ow G H (.K m) (.dit ks ds) (.ref a) P
inductive Ows (G H : Hp) : List Mode → List Dt → List V → (Addr → Prop) → Prop
  | nil {P : Addr → Prop} : Ows G H [] [] [] P
  | cons {m : Mode} {ms : List Mode} {d : Dt} {ds : List Dt} {v : V} {vs : List V} {P P1 P2 : Addr → Prop} : Ow G H m d v P1 → Ows G H ms ds vs P2 → (∀ b, P1 b → P b) → (∀ b, P2 b → P b) → (∀ b, P1 b → ¬ P2 b) → Ows G H (m :: ms) (d :: ds) (v :: vs) P
end
end
section
variable {K : PySem.W.Frag} {ca : Str → Addr} {H H' G G' : Hp}
theorem Rps.length : ∀ {ds : List Dt} {vs : List V}, Rps K ca H ds vs → ds.length = vs.length
  | [], _, h => by cases h; rfl
  | d :: ds, _, h => by
    cases h with
    | cons h1 h2 => rw [List.length_cons, List.length_cons, Rps.length h2]
mutual
theorem Rp.mono (e : Same H H') : ∀ {d : Dt} {v : V}, Rp K ca H d v → Rp K ca H' d v
  | .non, _, h => by cases h; exact .non
  | .bl b, _, h => by cases h; exact .bl b
  | .int i, _, h => by cases h; exact .int i
  | .str x, _, h => by cases h; exact .str x
  | .lst ds, _, h => by
    cases h with
    | lst h1 h2 => exact .lst (e _ _ h1) (Rps.mono e h2)
  | .scr ds, _, h => by
    cases h with
    | scr h1 h2 => exact .scr (L2.Same.seq e h1) (Rps.mono e h2)
  | .tup ds, _, h => by
    cases h with
    | tup h1 h2 => exact .tup (e _ _ h1) (Rps.mono e h2)
  | .ktp ds, _, h => by
    cases h with
    | ktp h1 h2 => exact .ktp (Same.sqt e h1) (Rps.mono e h2)
  | .ins C ns ds, _, h => by
    cases h with
    | ins h1 h2 h3 => exact .ins (e _ _ h1) h2 (Rps.mono e h3)
  | .dic ks ds, _, h => by
    cases h with
    | dic h1 h2 h3 => exact .dic (e _ _ h1) h2 (Rps.mono e h3)
    | dicZ h1 h2 h3 => exact .dicZ (e _ _ h1) h2 (Rps.mono e h3)
  | .dit ks ds, _, h => by
    cases h with
    | dit h1 h2 h3 => exact .dit (e _ _ h1) h2 (Rps.mono e h3)
theorem Rps.mono (e : Same H H') : ∀ {ds : List Dt} {vs : List V}, Rps K ca H ds vs → Rps K ca H' ds vs
  | [], _, h => by cases h; exact .nil
  | d :: ds, _, h => by
    cases h with
    | cons h1 h2 => exact .cons (Rp.mono e h1) (Rps.mono e h2)
end
theorem Rps.get : ∀ {ds : List Dt} {vs : List V} {i : Nat} {d : Dt}, Rps K ca H ds vs → ds[i]? = some d → ∃ v, vs[i]? = some v ∧ Rp K ca H d v
  | [], _, _, _, _, e => by simp at e
  | x :: ds, _, i, d, h, e => by
    cases h with
    | cons h1 h2 =>
      cases i with
      | zero =>
        have q : x = d := by simpa using e
        subst q
        exact ⟨_, by simp, h1⟩
      | succ i =>
        obtain ⟨v, q1, q2⟩ := Rps.get (i := i) h2 (by simpa using e)
        exact ⟨v, by simpa using q1, q2⟩
theorem Rps.append : ∀ {ds es : List Dt} {vs us : List V}, Rps K ca H ds vs → Rps K ca H es us → Rps K ca H (ds ++ es) (vs ++ us)
  | [], _, _, _, h, k => by cases h; exact k
  | d :: ds, _, _, _, h, k => by
    cases h with
    | cons h1 h2 => exact .cons h1 (Rps.append h2 k)
theorem Rps.drop : ∀ {ds : List Dt} {vs : List V} (n : Nat), Rps K ca H ds vs → Rps K ca H (ds.drop n) (vs.drop n)
  | [], _, n, h => by cases h; simp; exact .nil
  | d :: ds, _, 0, h => by simpa using h
  | d :: ds, _, n + 1, h => by
    cases h with
    | cons h1 h2 => simpa using Rps.drop n h2
theorem Rps.take : ∀ {ds : List Dt} {vs : List V} (n : Nat), Rps K ca H ds vs → Rps K ca H (ds.take n) (vs.take n)
  | [], _, n, h => by cases h; simp; exact .nil
  | d :: ds, _, 0, h => by simp; exact .nil
  | d :: ds, _, n + 1, h => by
    cases h with
    | cons h1 h2 => simpa using Rps.cons h1 (Rps.take n h2)
theorem Rps.reverse {ds : List Dt} : ∀ {vs : List V}, Rps K ca H ds vs → Rps K ca H ds.reverse vs.reverse := by
  induction ds with
  | nil => intro vs h; cases h; exact .nil
  | cons d ds ih =>
    intro vs h
    cases h with
    | cons h1 h2 =>
      rw [List.reverse_cons, List.reverse_cons]
      exact (ih h2).append (.cons h1 .nil)
theorem Rps.flatrep {ds : List Dt} {vs : List V} (h : Rps K ca H ds vs) : ∀ k : Nat, Rps K ca H (List.replicate k ds).flatten (List.replicate k vs).flatten
  | 0 => .nil
  | k + 1 => by
    rw [List.replicate_succ, List.replicate_succ, List.flatten_cons, List.flatten_cons]
    exact h.append (Rps.flatrep h k)
/- the owned part as it was elsewhere -/
mutual
theorem Ow.carry (e : Same G G') : ∀ {d : Dt} {m : Mode} {v : V} {P : Addr → Prop}, (∀ b, P b → H' b = H b ∧ G' b = none) → Ow K ca G H m d v P → Ow K ca G' H' m d v P
  | d, m, v, P, hp, h => by
    cases h with
    | F h => exact .F (h.mono e)
    | NL => exact .NL
    | NT => exact .NT
    | L h1 h2 h3 h4 => exact .L (by rw [(hp _ h3).1]; exact h1) (hp _ h3).2 h3 (Ows.carry e (fun b hb => hp b hb.1) h4)
    | T h1 h2 h3 h4 => exact .T (by rw [(hp _ h3).1]; exact h1) (hp _ h3).2 h3 (Ows.carry e (fun b hb => hp b hb.1) h4)
    | TL h1 h2 h3 h4 => exact .TL (by rw [(hp _ h3).1]; exact h1) (hp _ h3).2 h3 (Ows.carry e (fun b hb => hp b hb.1) h4)
    | I h1 h2 h3 h4 h5 => exact .I (by rw [(hp _ h3).1]; exact h1) (hp _ h3).2 h3 h4 (Ows.carry e (fun b hb => hp b hb.1) h5)
    | K h1 h2 h3 h4 h5 => exact .K (by rw [(hp _ h3).1]; exact h1) (hp _ h3).2 h3 h4 (Ows.carry e (fun b hb => hp b hb.1) h5)
    | KT h1 h2 h3 h4 h5 => exact .KT (by rw [(hp _ h3).1]; exact h1) (hp _ h3).2 h3 h4 (Ows.carry e (fun b hb => hp b hb.1) h5)
  termination_by d => sizeOf d
theorem Ows.carry (e : Same G G') : ∀ {ds : List Dt} {ms : List Mode} {vs : List V} {P : Addr → Prop}, (∀ b, P b → H' b = H b ∧ G' b = none) → Ows K ca G H ms ds vs P → Ows K ca G' H' ms ds vs P
  | [], ms, vs, P, hp, h => by
    cases h
    exact .nil
  | d :: ds, ms, vs, P, hp, h => by
    cases h with
    | cons h1 h2 q1 q2 q3 => exact .cons (Ow.carry e (fun b hb => hp b (q1 b hb)) h1) (Ows.carry e (fun b hb => hp b (q2 b hb)) h2) q1 q2 q3
  termination_by ds => sizeOf ds
end
theorem Ows.weaken {ds : List Dt} {ms : List Mode} {vs : List V} {P P' : Addr → Prop} (hp : ∀ b, P b → P' b) (h : Ows K ca G H ms ds vs P) : Ows K ca G H ms ds vs P' := by
  cases h with
  | nil => exact .nil
  | cons h1 h2 q1 q2 q3 => exact .cons h1 h2 (fun b hb => hp b (q1 b hb)) (fun b hb => hp b (q2 b hb)) q3
theorem Ow.weaken {d : Dt} {m : Mode} {v : V} {P P' : Addr → Prop} (hp : ∀ b, P b → P' b) (h : Ow K ca G H m d v P) : Ow K ca G H m d v P' := by
  cases h with
  | F h => exact .F h
  | NL => exact .NL
  | NT => exact .NT
  | L h1 h2 h3 h4 => exact .L h1 h2 (hp _ h3) (h4.weaken fun b hb => ⟨hp b hb.1, hb.2⟩)
  | T h1 h2 h3 h4 => exact .T h1 h2 (hp _ h3) (h4.weaken fun b hb => ⟨hp b hb.1, hb.2⟩)
  | TL h1 h2 h3 h4 => exact .TL h1 h2 (hp _ h3) (h4.weaken fun b hb => ⟨hp b hb.1, hb.2⟩)
  | I h1 h2 h3 h4 h5 => exact .I h1 h2 (hp _ h3) h4 (h5.weaken fun b hb => ⟨hp b hb.1, hb.2⟩)
  | K h1 h2 h3 h4 h5 => exact .K h1 h2 (hp _ h3) h4 (h5.weaken fun b hb => ⟨hp b hb.1, hb.2⟩)
  | KT h1 h2 h3 h4 h5 => exact .KT h1 h2 (hp _ h3) h4 (h5.weaken fun b hb => ⟨hp b hb.1, hb.2⟩)
/- frozen: whatever heap holds the owned part too -/
mutual
theorem Ow.freeze (e : Same G G') : ∀ {d : Dt} {m : Mode} {v : V} {P : Addr → Prop}, (∀ b, P b → G' b = H b) → Ow K ca G H m d v P → Rp K ca G' d v
  | d, m, v, P, hp, h => by
    cases h with
    | F h => exact h.mono e
    | NL => exact .non
    | NT => exact .non
    | L h1 h2 h3 h4 => exact .lst (by rw [hp _ h3]; exact h1) (Ows.freeze e (fun b hb => hp b hb.1) h4)
    | T h1 h2 h3 h4 => exact .tup (by rw [hp _ h3]; exact h1) (Ows.freeze e (fun b hb => hp b hb.1) h4)
    | TL h1 h2 h3 h4 => exact .lst (by rw [hp _ h3]; exact h1) (Ows.freeze e (fun b hb => hp b hb.1) h4)
    | I h1 h2 h3 h4 h5 => exact .ins (by rw [hp _ h3]; exact h1) h4 (Ows.freeze e (fun b hb => hp b hb.1) h5)
    | K h1 h2 h3 h4 h5 => exact .dic (by rw [hp _ h3]; exact h1) h4 (Ows.freeze e (fun b hb => hp b hb.1) h5)
    | KT h1 h2 h3 h4 h5 => exact .dit (by rw [hp _ h3]; exact h1) h4 (Ows.freeze e (fun b hb => hp b hb.1) h5)
  termination_by d => sizeOf d
theorem Ows.freeze (e : Same G G') : ∀ {ds : List Dt} {ms : List Mode} {vs : List V} {P : Addr → Prop}, (∀ b, P b → G' b = H b) → Ows K ca G H ms ds vs P → Rps K ca G' ds vs
  | [], ms, vs, P, hp, h => by
    cases h
    exact .nil
  | d :: ds, ms, vs, P, hp, h => by
    cases h with
    | cons h1 h2 q1 q2 q3 => exact .cons (Ow.freeze e (fun b hb => hp b (q1 b hb)) h1) (Ows.freeze e (fun b hb => hp b (q2 b hb)) h2)
  termination_by ds => sizeOf ds
end
end
end Pm
namespace Pm
open PySem PySem.Spec PyProof.Rows L2
open Classical
/-! ### worlds -/
structure Ext (G H G' H' : Hp) : Prop where
  g : Same G G'
  h : Same H H'
  gh : Same G' H'
  base : ∀ a, H a ≠ none → G' a = G a
section
variable {G H G' H' G2 H2 : Hp}
theorem Ext.refl (e : Same G H) : Ext G H G H := ⟨Same.refl _, Same.refl _, e, fun _ _ => rfl⟩
theorem _root_.L2.Same.nn (e : Same H H') {a : Addr} (h : H a ≠ none) : H' a ≠ none := by
  cases q : H a with
  | none => exact absurd q h
  | some o => rw [e a o q]; exact fun z => by cases z
theorem _root_.L2.Same.at (e : Same H H') {a : Addr} (h : H a ≠ none) : H' a = H a := by
  cases q : H a with
  | none => exact absurd q h
  | some o => exact e a o q
theorem Ext.trans (a : Ext G H G' H') (b : Ext G' H' G2 H2) : Ext G H G2 H2 :=
  ⟨a.g.trans b.g, a.h.trans b.h, b.gh, fun x h => (b.base x (a.h.nn h)).trans (a.base x h)⟩
/-- the heap alone grows -/
theorem Ext.heap (e : Same G H) (h : Same H H') : Ext G H G H' := ⟨Same.refl _, h, e.trans h, fun _ _ => rfl⟩
/-- a new frozen object -/
theorem Ext.new {p : Addr} {o : HO} (e : Same G H) (hp : H p = none) : Ext G H (upd G p o) (upd H p o) := by
  refine ⟨Same.new (Same.free e hp), Same.new hp, fun a u q => ?_, fun a h => ?_⟩
  · by_cases z : a = p
    · rw [z, upd_same] at q ⊢
      exact q
    · rw [upd_ne z] at q ⊢
      exact e a u q
  · exact upd_ne fun z => h (by rw [z]; exact hp)
end
def Fr (G' H H' : Hp) (P : Addr → Prop) : Prop := ∀ b, P b → G' b = none ∧ H b = none ∧ H' b ≠ none
abbrev Pno : Addr → Prop := fun _ => False
theorem Fr.no {G H H' : Hp} : Fr G H H' Pno := fun _ h => h.elim
structure Jc where
  K : PySem.W.Frag
  ca : Str → Addr
  W : WX
  gx : Option (List Mode)
  gb : List Mode
  mr : Mode
  pin : List (Nat × V)
def pinB : List (Nat × V) → Nat → Bool
  | [], _ => true
  | q :: l, i => decide (q.1 ≠ i) && pinB l i
theorem pinB_ne : ∀ {l : List (Nat × V)} {i k : Nat} {v : V}, pinB l i = true → (k, v) ∈ l → k ≠ i
  | [], _, _, _, _, h => by cases h
  | q :: l, i, k, v, hb, h => by
    have hb : (decide (q.1 ≠ i) && pinB l i) = true := hb
    rw [Bool.and_eq_true] at hb
    rcases List.mem_cons.mp h with e | h
    · have := of_decide_eq_true hb.1
      rw [← e] at this
      exact this
    · exact pinB_ne hb.2 h
abbrev Jc.nw (J : Jc) : Jc := { J with W := fun _ _ _ _ => False, pin := [] }
/-- the slot i may be stored -/
abbrev Jc.free (J : Jc) (i : Nat) : Prop := pinB J.pin i = true
structure Wd (J : Jc) (G0 H0 : Hp) (Γ : List Mode) (ρ : Ev) (σ : L2.St) (G H : Hp) : Prop where
  x : Ext G0 H0 G H
  lg : Γ.length = ρ.length
  lr : ρ.length = σ.length
  env : ∃ Pf : Nat → Addr → Prop, (∀ i j a, i ≠ j → Pf i a → ¬ Pf j a) ∧ (∀ i a, Pf i a → G a = none ∧ H0 a = none ∧ H a ≠ none) ∧
    ∀ i d, ρ[i]? = some (some d) → ∃ v m, σ[i]? = some (some v) ∧ Γ[i]? = some m ∧ Ow J.K J.ca G H m d v (Pf i)
  pn : ∀ i v, (i, v) ∈ J.pin → σ[i]? = some (some v)
section
variable {J : Jc} {G0 H0 G H G' H' : Hp} {Γ : List Mode} {ρ : Ev} {σ : L2.St}
theorem Wd.ext (w : Wd J G0 H0 Γ ρ σ G H) (e : Ext G H G' H') : Wd J G0 H0 Γ ρ σ G' H' := by
  obtain ⟨Pf, h1, h2, h3⟩ := w.env
  refine ⟨w.x.trans e, w.lg, w.lr, ⟨Pf, h1, fun i a q => ?_, fun i d q => ?_⟩, w.pn⟩
  · obtain ⟨a1, a2, a3⟩ := h2 i a q
    exact ⟨by rw [e.base a a3]; exact a1, a2, e.h.nn a3⟩
  · obtain ⟨v, m, s1, s2, s3⟩ := h3 i d q
    refine ⟨v, m, s1, s2, s3.carry e.g fun b hb => ?_⟩
    obtain ⟨a1, a2, a3⟩ := h2 i b hb
    exact ⟨e.h.at a3, by rw [e.base b a3]; exact a1⟩
theorem Wd.gh (w : Wd J G0 H0 Γ ρ σ G H) : Same G H := w.x.gh
theorem Wd.heap (w : Wd J G0 H0 Γ ρ σ G H) (h : Same H H') : Wd J G0 H0 Γ ρ σ G H' := w.ext (Ext.heap w.gh h)
theorem Wd.get (w : Wd J G0 H0 Γ ρ σ G H) {i : Nat} {d : Dt} (h : ρ[i]? = some (some d)) : ∃ v m P, σ[i]? = some (some v) ∧ Γ[i]? = some m ∧ Ow J.K J.ca G H m d v P ∧ (∀ b, P b → G b = none ∧ H b ≠ none) := by
  obtain ⟨Pf, h1, h2, h3⟩ := w.env
  obtain ⟨v, m, s1, s2, s3⟩ := h3 i d h
  exact ⟨v, m, Pf i, s1, s2, s3, fun b hb => ⟨(h2 i b hb).1, (h2 i b hb).2.2⟩⟩
theorem Ow.view {m : Mode} {d : Dt} {v : V} {P : Addr → Prop} {K : PySem.W.Frag} {ca : Str → Addr} (e : Same G H) (h : Ow K ca G H m d v P) : Rp K ca H d v := h.freeze e fun _ _ => rfl
/-- a slot is stored -/
theorem Wd.set (w : Wd J G0 H0 Γ ρ σ G H) (e : Ext G H G' H') {m : Mode} {d : Dt} {v : V} {P : Addr → Prop} (o : Ow J.K J.ca G' H' m d v P) (f : Fr G' H H' P) (i : Nat) (hi : J.free i) :
    Wd J G0 H0 (Γ.set i m) (ρ.set i (some d)) (σ.set i (some v)) G' H' := by
  obtain ⟨Pf, h1, h2, h3⟩ := w.env
  have w' := w.ext e
  refine ⟨w'.x, by rw [List.length_set, List.length_set]; exact w.lg, by rw [List.length_set, List.length_set]; exact w.lr, ⟨fun j => if j = i then P else Pf j, fun j k a q r s => ?_, fun j a q => ?_, fun j c q => ?_⟩, fun k v hv => ?_⟩
  · by_cases hj : j = i
    · by_cases hk : k = i
      · exact q (hj.trans hk.symm)
      · simp only [hj, if_true] at r
        simp only [hk, if_false] at s
        exact (h2 k a s).2.2 (f a r).2.1
    · simp only [hj, if_false] at r
      by_cases hk : k = i
      · simp only [hk, if_true] at s
        exact (h2 j a r).2.2 (f a s).2.1
      · simp only [hk, if_false] at s
        exact h1 j k a q r s
  · by_cases hj : j = i
    · simp only [hj, if_true] at q
      obtain ⟨a1, a2, a3⟩ := f a q
      exact ⟨a1, w.x.h.free a2, a3⟩
    · simp only [hj, if_false] at q
      obtain ⟨a1, a2, a3⟩ := h2 j a q
      exact ⟨by rw [e.base a a3]; exact a1, a2, e.h.nn a3⟩
  · by_cases hj : j = i
    · subst hj
      have hl : j < ρ.length := by
        have z := (List.getElem?_eq_some_iff.mp q).1
        simpa using z
      rw [List.getElem?_set_self hl] at q
      have hd : d = c := by simpa using q
      subst hd
      have hl2 : j < σ.length := by rw [← w.lr]; exact hl
      have hg : j < Γ.length := by rw [w.lg]; exact hl
      refine ⟨v, m, List.getElem?_set_self hl2, List.getElem?_set_self hg, ?_⟩
      simp only [if_true]
      exact o
    · rw [List.getElem?_set_ne (Ne.symm hj)] at q
      obtain ⟨v2, m2, s1, s2, s3⟩ := h3 j c q
      refine ⟨v2, m2, by rw [List.getElem?_set_ne (Ne.symm hj)]; exact s1, by rw [List.getElem?_set_ne (Ne.symm hj)]; exact s2, ?_⟩
      simp only [hj, if_false]
      refine s3.carry e.g fun b hb => ?_
      obtain ⟨a1, a2, a3⟩ := h2 j b hb
      exact ⟨e.h.at a3, by rw [e.base b a3]; exact a1⟩
  · have ne : k ≠ i := by
      exact pinB_ne hi hv
    rw [List.getElem?_set_ne (Ne.symm ne)]
    exact w.pn k v hv
end
end Pm
namespace Pm
open PySem PySem.Spec PyProof.Rows L2
open Classical
/-! ### results, readings -/
def isSq (K : PySem.W.Frag) (H : Hp) (d : Dt) (a : Addr) (vs : List V) (ds : List Dt) : Prop :=
  (d = .lst ds ∧ H a = some (.lst vs)) ∨ (d = .scr ds ∧ SqL K H a vs) ∨ (d = .tup ds ∧ H a = some (.tup vs))
def Res (K : PySem.W.Frag) (ca : Str → Addr) (G H : Hp) : EM → Dt → V → (Addr → Prop) → Prop
  | .o m, d, v, P => Ow K ca G H m d v P
  | .B, d, v, _ => Rp K ca H d v
  | .S, d, v, _ => Rp K ca H d v ∧ ∀ ds, (d = .lst ds ∨ d = .scr ds ∨ d = .tup ds) → ∃ a vs, v = .ref a ∧ isSq K H d a vs ds ∧ Rps K ca G ds vs
section
variable (J : Jc)
def SemE (Γ : List Mode) (em : EM) (F : Ev → Rs Dt) (te : TE) : Prop := ∀ ⦃G0 H0 G H : Hp⦄ ⦃ρ : Ev⦄ ⦃σ : L2.St⦄ ⦃Q : VK⦄, Wd J G0 H0 Γ ρ σ G H →
  Rs.Post (fun d => ∀ v G' H' P, Ext G H G' H' → Fr G' H H' P → Res J.K J.ca G' H' em d v P → Q v H') (fun c => ∀ H' dx, Same H H' → XR c dx H' → J.W (.ref (J.ca c.1)) dx σ H') (F ρ) → te σ H Q
def SemT (Γ : List Mode) (F : Ev → Rs Bool) (tt : TT) : Prop := ∀ ⦃G0 H0 G H : Hp⦄ ⦃ρ : Ev⦄ ⦃σ : L2.St⦄ ⦃Q : Bool → Hp → Prop⦄, Wd J G0 H0 Γ ρ σ G H →
  Rs.Post (fun b => ∀ G' H', Ext G H G' H' → Q b H') (fun c => ∀ H' dx, Same H H' → XR c dx H' → J.W (.ref (J.ca c.1)) dx σ H') (F ρ) → tt σ H Q
/-- arguments: frozen -/
def SemA (Γ : List Mode) (F : Ev → Rs (List Dt)) (ta : TA) : Prop := ∀ ⦃G0 H0 G H : Hp⦄ ⦃ρ : Ev⦄ ⦃σ : L2.St⦄ ⦃Q : List V → Hp → Prop⦄, Wd J G0 H0 Γ ρ σ G H →
  Rs.Post (fun ds => ∀ vs G' H', Ext G H G' H' → Rps J.K J.ca G' ds vs → Q vs H') (fun c => ∀ H' dx, Same H H' → XR c dx H' → J.W (.ref (J.ca c.1)) dx σ H') (F ρ) → ta σ H Q
/-- arguments: looked at alone -/
def SemB (Γ : List Mode) (F : Ev → Rs (List Dt)) (ta : TA) : Prop := ∀ ⦃G0 H0 G H : Hp⦄ ⦃ρ : Ev⦄ ⦃σ : L2.St⦄ ⦃Q : List V → Hp → Prop⦄, Wd J G0 H0 Γ ρ σ G H →
  Rs.Post (fun ds => ∀ vs G' H', Ext G H G' H' → Rps J.K J.ca H' ds vs → Q vs H') (fun c => ∀ H' dx, Same H H' → XR c dx H' → J.W (.ref (J.ca c.1)) dx σ H') (F ρ) → ta σ H Q
/-- one argument, as it comes -/
def SemM (Γ : List Mode) (em : EM) (F : Ev → Rs Dt) (ta : TA) : Prop := ∀ ⦃G0 H0 G H : Hp⦄ ⦃ρ : Ev⦄ ⦃σ : L2.St⦄ ⦃Q : List V → Hp → Prop⦄, Wd J G0 H0 Γ ρ σ G H →
  Rs.Post (fun d => ∀ v G' H' P, Ext G H G' H' → Fr G' H H' P → Res J.K J.ca G' H' em d v P → Q [v] H') (fun c => ∀ H' dx, Same H H' → XR c dx H' → J.W (.ref (J.ca c.1)) dx σ H') (F ρ) → ta σ H Q
def SemO (Γ : List Mode) (F : Ev → Rs (Option Int)) (to : TO) : Prop := ∀ ⦃G0 H0 G H : Hp⦄ ⦃ρ : Ev⦄ ⦃σ : L2.St⦄ ⦃Q : Option Int → Hp → Prop⦄, Wd J G0 H0 Γ ρ σ G H →
  Rs.Post (fun d => ∀ G' H', Ext G H G' H' → Q d H') (fun c => ∀ H' dx, Same H H' → XR c dx H' → J.W (.ref (J.ca c.1)) dx σ H') (F ρ) → to σ H Q
end
section
variable {J : Jc} {Γ : List Mode} {em : EM} {m : Mode} {F Fa Fb : Ev → Rs Dt} {te ta tb : TE} {G0 H0 G H G' H' : Hp} {ρ : Ev} {σ : L2.St}
/-! ### names, constants -/
def varE (i : Nat) (ρ : Ev) : Rs Dt := match ρ[i]? with
  | some (some d) => .ok d
  | _ => .no
def conE (d : Dt) (_ : Ev) : Rs Dt := .ok d
theorem varE_ok {i : Nat} {d : Dt} (h : varE i ρ = .ok d) : ρ[i]? = some (some d) := by
  unfold varE at h
  split at h
  · rename_i x e
    cases h
    exact e
  · cases h
theorem varE_post {i : Nat} {P : Dt → Prop} {E : Xn → Prop} (h : Rs.Post P E (varE i ρ)) : ∃ d, ρ[i]? = some (some d) ∧ P d := by
  cases q : varE i ρ with
  | ok d => rw [q] at h; exact ⟨d, varE_ok q, h.of_ok⟩
  | ex c => unfold varE at q; split at q <;> cases q
  | no => rw [q] at h; cases h
/-- a frozen name -/
theorem se_var {i : Nat} (hm : Γ[i]? = some .F) : SemE J Γ (.o .F) (varE i) (tVar i) := fun {_ _ _ _ _ _ _} w h => by
  obtain ⟨d, e, q⟩ := varE_post h
  obtain ⟨v, m, P, s1, s2, s3, _⟩ := w.get e
  rw [hm] at s2
  cases s2
  cases s3 with
  | F s3 => exact ⟨v, s1, q v _ _ Pno (Ext.refl w.gh) Fr.no (.F s3)⟩
/-- a name looked at -/
theorem se_varB {i : Nat} : SemE J Γ .B (varE i) (tVar i) := fun {_ _ _ _ _ _ _} w h => by
  obtain ⟨d, e, q⟩ := varE_post h
  obtain ⟨v, m, P, s1, s2, s3, _⟩ := w.get e
  exact ⟨v, s1, q v _ _ Pno (Ext.refl w.gh) Fr.no (s3.view w.gh)⟩
/-- the name of an owned list, tuple whose parts are frozen -/
theorem Ows.frozen {K : PySem.W.Frag} {ca : Str → Addr} : ∀ {ds : List Dt} {vs : List V} {P : Addr → Prop} {n : Nat}, Ows K ca G H (List.replicate n .F) ds vs P → Rps K ca G ds vs
  | [], _, _, n, h => by cases n <;> cases h; exact .nil
  | d :: ds, _, _, 0, h => by cases h
  | d :: ds, _, _, n + 1, h => by
    rw [List.replicate_succ] at h
    cases h with
    | cons h1 h2 _ _ _ =>
      cases h1 with
      | F h1 => exact .cons h1 (Ows.frozen h2)
theorem res_S {K : PySem.W.Frag} {ca : Str → Addr} {d : Dt} {v : V} {P P' : Addr → Prop} (e : Same G H) (h : Ow K ca G H (.L .F) d v P) : Res K ca G H .S d v P' := by
  refine ⟨h.view e, fun ds hd => ?_⟩
  cases h with
  | NL => rcases hd with hd | hd | hd <;> cases hd
  | L h1 h2 h3 h4 =>
    rcases hd with hd | hd | hd
    · cases hd
      exact ⟨_, _, rfl, .inl ⟨rfl, h1⟩, h4.frozen⟩
    · cases hd
    · cases hd
theorem res_SF {K : PySem.W.Frag} {ca : Str → Addr} {d : Dt} {v : V} {P' : Addr → Prop} (e : Same G H) (h : Rp K ca G d v) : Res K ca G H .S d v P' := by
  refine ⟨h.mono e, fun ds hd => ?_⟩
  rcases hd with hd | hd | hd
  · subst hd
    cases h with
    | lst h1 h2 => exact ⟨_, _, rfl, .inl ⟨rfl, e _ _ h1⟩, h2⟩
  · subst hd
    cases h with
    | scr h1 h2 => exact ⟨_, _, rfl, .inr (.inl ⟨rfl, L2.Same.seq e h1⟩), h2⟩
  · subst hd
    cases h with
    | tup h1 h2 => exact ⟨_, _, rfl, .inr (.inr ⟨rfl, e _ _ h1⟩), h2⟩
theorem se_varS {i : Nat} (hm : Γ[i]? = some (.L .F)) : SemE J Γ .S (varE i) (tVar i) := fun {_ _ _ _ _ _ _} w h => by
  obtain ⟨d, e, q⟩ := varE_post h
  obtain ⟨v, m, P, s1, s2, s3, _⟩ := w.get e
  rw [hm] at s2
  cases s2
  exact ⟨v, s1, q v _ _ Pno (Ext.refl w.gh) Fr.no (res_S w.gh s3)⟩
theorem se_con {d : Dt} {v : V} (r : ∀ G, Rp J.K J.ca G d v) : SemE J Γ (.o .F) (conE d) (tC v) := fun {_ _ _ _ _ _ _} w h => h.of_ok v _ _ Pno (Ext.refl w.gh) Fr.no (.F (r _))
theorem se_int {i : Int} : SemE J Γ (.o .F) (conE (.int i)) (tC (.int i)) := se_con fun _ => .int i
theorem se_str {x : Str} : SemE J Γ (.o .F) (conE (.str x)) (tC (.str x)) := se_con fun _ => .str x
theorem se_bl {b : Bool} : SemE J Γ (.o .F) (conE (.bl b)) (tC (.bl b)) := se_con fun _ => .bl b
theorem se_nonL {m : Mode} : SemE J Γ (.o (.L m)) (conE .non) (tC .non) := fun {_ _ _ _ _ _ _} w h => h.of_ok .non _ _ Pno (Ext.refl w.gh) Fr.no .NL
theorem se_nonT {ms : List Mode} : SemE J Γ (.o (.T ms)) (conE .non) (tC .non) := fun {_ _ _ _ _ _ _} w h => h.of_ok .non _ _ Pno (Ext.refl w.gh) Fr.no .NT
theorem se_non : SemE J Γ (.o .F) (conE .non) (tC .non) := se_con fun _ => .non
/-! ### from mode to mode -/
/-- an owned result is frozen -/
theorem frz_ext {v : V} {d : Dt} {P : Addr → Prop} {K : PySem.W.Frag} {ca : Str → Addr} (e : Ext G H G' H') (f : Fr G' H H' P) (o : Ow K ca G' H' m d v P) : ∃ G2, Ext G H G2 H' ∧ Rp K ca G2 d v ∧ Same G' G2 := by
  have sg : Same G' (fun b => if P b then H' b else G' b) := fun a u q => by
    show (if P a then H' a else G' a) = some u
    by_cases z : P a
    · rw [if_pos z]; exact e.gh a u q
    · rw [if_neg z]; exact q
  refine ⟨fun b => if P b then H' b else G' b, ⟨e.g.trans sg, e.h, fun a u q => ?_, fun a h => ?_⟩, o.freeze sg fun b hb => if_pos hb, sg⟩
  · have q : (if P a then H' a else G' a) = some u := q
    by_cases z : P a
    · rw [if_pos z] at q; exact q
    · rw [if_neg z] at q; exact e.gh a u q
  · show (if P a then H' a else G' a) = G a
    rw [if_neg fun z => h (f a z).2.1]
    exact e.base a h
theorem se_frz (h : SemE J Γ (.o m) F te) : SemE J Γ (.o .F) F te := fun {_ _ _ _ _ _ _} w p => h w (p.imp (fun d _ q v G' H' P e f o => by
  obtain ⟨G2, e2, r, _⟩ := frz_ext e f o
  exact q v G2 H' Pno e2 Fr.no (.F r)) fun _ q => q)
theorem se_B (h : SemE J Γ (.o m) F te) : SemE J Γ .B F te := fun {_ _ _ _ _ _ _} w p => h w (p.imp (fun d _ q v G' H' P e f o => q v G' H' Pno e Fr.no (o.view e.gh)) fun _ q => q)
theorem se_SB (h : SemE J Γ .S F te) : SemE J Γ .B F te := fun {_ _ _ _ _ _ _} w p => h w (p.imp (fun d _ q v G' H' P e f o => q v G' H' Pno e Fr.no o.1) fun _ q => q)
theorem se_S (h : SemE J Γ (.o .F) F te) : SemE J Γ .S F te := fun {_ _ _ _ _ _ _} w p => h w (p.imp (fun d _ q v G' H' P e f o => q v G' H' Pno e Fr.no (by
  cases o with
  | F o => exact res_SF e.gh o)) fun _ q => q)
theorem se_LS (h : SemE J Γ (.o (.L .F)) F te) : SemE J Γ .S F te := fun {_ _ _ _ _ _ _} w p => h w (p.imp (fun d _ q v G' H' P e f o => q v G' H' Pno e Fr.no (res_S e.gh o)) fun _ q => q)
/-! ### operations -/
/-- data without parts -/
def scal : Dt → Bool
  | .non => true
  | .bl _ => true
  | .int _ => true
  | .str _ => true
  | _ => false
theorem scal_rp {K : PySem.W.Frag} {ca : Str → Addr} {d : Dt} {v : V} (s : scal d = true) (h : Rp K ca H d v) : Rp K ca G d v := by
  cases h with
  | non => exact .non
  | bl b => exact .bl b
  | int i => exact .int i
  | str x => exact .str x
  | _ => cases s
def op2E (g : Dt → Dt → Rs Dt) (Fa Fb : Ev → Rs Dt) (ρ : Ev) : Rs Dt := Fa ρ >>= fun a => Fb ρ >>= fun b => g a b
def op1E (g : Dt → Rs Dt) (Fa : Ev → Rs Dt) (ρ : Ev) : Rs Dt := Fa ρ >>= g
/-- an operation that looks at two and gives a scalar -/
def Rule2 (K : PySem.W.Frag) (ca : Str → Addr) (g : Dt → Dt → Rs Dt) (r : R2) : Prop := ∀ (H : Hp) (a b d : Dt) (x y : V) (Q : VK), Rp K ca H a x → Rp K ca H b y → g a b = .ok d → (∀ v, scal d = true → (∀ G, Rp K ca G d v) → Q v H) → r x y H Q
def NoEx2 (g : Dt → Dt → Rs Dt) : Prop := ∀ a b c, g a b ≠ .ex c
def Rule1 (K : PySem.W.Frag) (ca : Str → Addr) (g : Dt → Rs Dt) (r : V → Hp → VK → Prop) : Prop := ∀ (H : Hp) (a d : Dt) (x : V) (Q : VK), Rp K ca H a x → g a = .ok d → (∀ v, scal d = true → (∀ G, Rp K ca G d v) → Q v H) → r x H Q
theorem se_op2 {g : Dt → Dt → Rs Dt} {r : R2} (hr : Rule2 J.K J.ca g r) (hn : NoEx2 g) (ha : SemE J Γ .B Fa ta) (hb : SemE J Γ .B Fb tb) : SemE J Γ (.o .F) (op2E g Fa Fb) (tOp r ta tb) := fun {G0 H0 G H ρ σ Q} w p => by
  refine ha w (p.bind.imp (fun a _ p1 x G1 H1 _ e1 _ ra => ?_) fun _ q => q)
  refine hb (w.ext e1) (p1.bind.imp (fun b _ p2 y G2 H2 _ e2 _ rb => ?_) fun _ q H' dx s => q H' dx (e1.h.trans s))
  cases q : g a b with
  | ok d =>
    rw [q] at p2
    exact hr H2 a b d x y Q (Rp.mono e2.h ra) rb q fun v _ hv => p2.of_ok v G2 H2 Pno (e1.trans e2) Fr.no (.F (hv _))
  | ex c => exact absurd q (hn a b c)
  | no => rw [q] at p2; cases p2
theorem se_op1 {g : Dt → Rs Dt} {r : V → Hp → VK → Prop} (hr : Rule1 J.K J.ca g r) (hn : ∀ a c, g a ≠ .ex c) (ha : SemE J Γ .B Fa ta) : SemE J Γ (.o .F) (op1E g Fa) (tUn r ta) := fun {G0 H0 G H ρ σ Q} w p => by
  refine ha w (p.bind.imp (fun a _ p1 x G1 H1 _ e1 _ ra => ?_) fun _ q => q)
  cases q : g a with
  | ok d =>
    rw [q] at p1
    exact hr H1 a d x Q ra q fun v _ hv => p1.of_ok v G1 H1 Pno e1 Fr.no (.F (hv _))
  | ex c => exact absurd q (hn a c)
  | no => rw [q] at p1; cases p1
/-! the ints -/
def i2 (f : Int → Int → Rs Dt) : Dt → Dt → Rs Dt
  | .int a, .int b => f a b
  | _, _ => .no
theorem rule_i2 {K : PySem.W.Frag} {ca : Str → Addr} {f : Int → Int → Rs Dt} {r : R2} (h : ∀ i j d H Q, f i j = .ok d → (∀ v, scal d = true → (∀ G, Rp K ca G d v) → Q v H) → r (.int i) (.int j) H Q) : Rule2 K ca (i2 f) r := by
  intro H a b d x y Q ra rb q k
  cases ra with
  | int i =>
    cases rb with
    | int j => exact h i j d H Q q k
    | _ => cases q
  | _ => cases rb <;> cases q
theorem nx_i2 {f : Int → Int → Rs Dt} (h : ∀ i j c, f i j ≠ .ex c) : NoEx2 (i2 f) := by
  intro a b c
  unfold i2
  split
  · exact h _ _ _
  · exact fun q => by cases q
@[irreducible] def smallI (i : Int) : Bool := decide (-(2 ^ 64) < i) && decide (i < 2 ^ 64)
def addI (i j : Int) : Rs Dt := .ok (.int (i + j))
def subI (i j : Int) : Rs Dt := .ok (.int (i - j))
def mulI (i j : Int) : Rs Dt := if (smallI i || smallI j) = true then .ok (.int (i * j)) else .no
@[irreducible] def divOk (j : Int) : Bool := decide (0 < j) && decide (j.natAbs < 2 ^ 200)
@[irreducible] def powOk (i j : Int) : Bool := decide (0 ≤ j) && (decide (j ≤ 1000) && decide (i.natAbs < 2 ^ 64))
def divI (i j : Int) : Rs Dt := if divOk j = true then .ok (.int (i / j)) else .no
def modI (i j : Int) : Rs Dt := if decide (0 < j) = true then .ok (.int (i % j)) else .no
def powI (i j : Int) : Rs Dt := if powOk i j = true then .ok (.int (i ^ j.toNat)) else .no
def shlI (i j : Int) : Rs Dt := if powOk i j = true then .ok (.int (i * 2 ^ j.toNat)) else .no
def ltI (i j : Int) : Rs Dt := .ok (.bl (decide (i < j)))
def leI (i j : Int) : Rs Dt := .ok (.bl (decide (i ≤ j)))
def gtI (i j : Int) : Rs Dt := .ok (.bl (decide (j < i)))
def geI (i j : Int) : Rs Dt := .ok (.bl (decide (j ≤ i)))
def addE := op2E (i2 addI)
def subE := op2E (i2 subI)
def mulE := op2E (i2 mulI)
def divE := op2E (i2 divI)
def modE := op2E (i2 modI)
def powE := op2E (i2 powI)
def shlE := op2E (i2 shlI)
def ltE := op2E (i2 ltI)
def leE := op2E (i2 leI)
def gtE := op2E (i2 gtI)
def geE := op2E (i2 geI)
theorem nx_if {α : Type} {c : Prop} [Decidable c] {a b : Rs α} {e : Xn} (ha : a ≠ .ex e) (hb : b ≠ .ex e) : (if c then a else b) ≠ .ex e := by
  split
  · exact ha
  · exact hb
theorem ok_if {α : Type} {c : Prop} [Decidable c] {a : Rs α} {d : α} (h : (if c then a else .no) = .ok d) : c ∧ a = .ok d := by
  split at h
  · exact ⟨by assumption, h⟩
  · cases h
section
variable (ha : SemE J Γ .B Fa ta) (hb : SemE J Γ .B Fb tb)
include ha hb
theorem se_add : SemE J Γ (.o .F) (addE Fa Fb) (tOp (rI0 fun i j => .int (i + j)) ta tb) :=
  se_op2 (rule_i2 fun i j d H Q q k => by cases q; exact ⟨i, j, rfl, rfl, k _ rfl fun _ => .int _⟩) (nx_i2 fun _ _ _ q => by cases q) ha hb
theorem se_sub : SemE J Γ (.o .F) (subE Fa Fb) (tOp (rI0 fun i j => .int (i - j)) ta tb) :=
  se_op2 (rule_i2 fun i j d H Q q k => by cases q; exact ⟨i, j, rfl, rfl, k _ rfl fun _ => .int _⟩) (nx_i2 fun _ _ _ q => by cases q) ha hb
theorem se_mul : SemE J Γ (.o .F) (mulE Fa Fb) (tOp (rI CMul fun i j => .int (i * j)) ta tb) :=
  se_op2 (rule_i2 fun i j d H Q q k => by
    obtain ⟨c, q⟩ := ok_if q
    cases q
    refine ⟨i, j, rfl, rfl, ?_, k _ rfl fun _ => .int _⟩
    unfold smallI at c
    rw [Bool.or_eq_true, Bool.and_eq_true, Bool.and_eq_true] at c
    rcases c with ⟨c1, c2⟩ | ⟨c1, c2⟩
    · exact .inl ⟨of_decide_eq_true c1, of_decide_eq_true c2⟩
    · exact .inr ⟨of_decide_eq_true c1, of_decide_eq_true c2⟩) (nx_i2 fun _ _ _ => nx_if (fun q => by cases q) fun q => by cases q) ha hb
theorem se_div : SemE J Γ (.o .F) (divE Fa Fb) (tOp (rI CDivW fun i j => .int (i / j)) ta tb) :=
  se_op2 (rule_i2 fun i j d H Q q k => by
    obtain ⟨c, q⟩ := ok_if q
    cases q
    unfold divOk at c
    rw [Bool.and_eq_true] at c
    exact ⟨i, j, rfl, rfl, wide_div (of_decide_eq_true c.1) (of_decide_eq_true c.2) (by decide) (by decide), k _ rfl fun _ => .int _⟩) (nx_i2 fun _ _ _ => nx_if (fun q => by cases q) fun q => by cases q) ha hb
theorem se_mod : SemE J Γ (.o .F) (modE Fa Fb) (tOp (rI (fun _ j => 0 < j) fun i j => .int (i % j)) ta tb) :=
  se_op2 (rule_i2 fun i j d H Q q k => by
    obtain ⟨c, q⟩ := ok_if q
    cases q
    exact ⟨i, j, rfl, rfl, of_decide_eq_true c, k _ rfl fun _ => .int _⟩) (nx_i2 fun _ _ _ => nx_if (fun q => by cases q) fun q => by cases q) ha hb
theorem se_pow : SemE J Γ (.o .F) (powE Fa Fb) (tOp (rI CPow fun i j => .int (i ^ j.toNat)) ta tb) :=
  se_op2 (rule_i2 fun i j d H Q q k => by
    obtain ⟨c, q⟩ := ok_if q
    cases q
    unfold powOk at c
    rw [Bool.and_eq_true, Bool.and_eq_true] at c
    have c2 := of_decide_eq_true c.2.1
    exact ⟨i, j, rfl, rfl, ⟨of_decide_eq_true c.1, by omega, of_decide_eq_true c.2.2⟩, k _ rfl fun _ => .int _⟩) (nx_i2 fun _ _ _ => nx_if (fun q => by cases q) fun q => by cases q) ha hb
theorem se_shl : SemE J Γ (.o .F) (shlE Fa Fb) (tOp (rI CPow fun i j => .int (i * 2 ^ j.toNat)) ta tb) :=
  se_op2 (rule_i2 fun i j d H Q q k => by
    obtain ⟨c, q⟩ := ok_if q
    cases q
    unfold powOk at c
    rw [Bool.and_eq_true, Bool.and_eq_true] at c
    have c2 := of_decide_eq_true c.2.1
    exact ⟨i, j, rfl, rfl, ⟨of_decide_eq_true c.1, by omega, of_decide_eq_true c.2.2⟩, k _ rfl fun _ => .int _⟩) (nx_i2 fun _ _ _ => nx_if (fun q => by cases q) fun q => by cases q) ha hb
theorem se_lt : SemE J Γ (.o .F) (ltE Fa Fb) (tOp (rI0 fun i j => .bl (decide (i < j))) ta tb) :=
  se_op2 (rule_i2 fun i j d H Q q k => by cases q; exact ⟨i, j, rfl, rfl, k _ rfl fun _ => .bl _⟩) (nx_i2 fun _ _ _ q => by cases q) ha hb
theorem se_le : SemE J Γ (.o .F) (leE Fa Fb) (tOp (rI0 fun i j => .bl (decide (i ≤ j))) ta tb) :=
  se_op2 (rule_i2 fun i j d H Q q k => by cases q; exact ⟨i, j, rfl, rfl, k _ rfl fun _ => .bl _⟩) (nx_i2 fun _ _ _ q => by cases q) ha hb
theorem se_gt : SemE J Γ (.o .F) (gtE Fa Fb) (tOp (rI0 fun i j => .bl (decide (j < i))) ta tb) :=
  se_op2 (rule_i2 fun i j d H Q q k => by cases q; exact ⟨i, j, rfl, rfl, k _ rfl fun _ => .bl _⟩) (nx_i2 fun _ _ _ q => by cases q) ha hb
theorem se_ge : SemE J Γ (.o .F) (geE Fa Fb) (tOp (rI0 fun i j => .bl (decide (j ≤ i))) ta tb) :=
  se_op2 (rule_i2 fun i j d H Q q k => by cases q; exact ⟨i, j, rfl, rfl, k _ rfl fun _ => .bl _⟩) (nx_i2 fun _ _ _ q => by cases q) ha hb
end
end
end Pm
namespace Pm
open PySem PySem.Spec PyProof.Rows L2
open Classical
/-! ### == -/
mutual
def pyD : Dt → PyData
  | .non => .none
  | .bl b => .bool b
  | .int i => .int i
  | .str x => .str x
  | .lst ds => .list (pyDs ds)
  | .scr ds => .list (pyDs ds)
  | .tup ds => .tuple (pyDs ds)
  | .ktp ds => .tuple (pyDs ds)
  | .ins _ _ _ => .dict []
  | .dic _ _ => .dict []
  | .dit _ _ => .dict []
def pyDs : List Dt → List PyData
  | [] => []
  | d :: ds => pyD d :: pyDs ds
end
theorem pyDs_map : ∀ ds : List Dt, pyDs ds = ds.map pyD
  | [] => rfl
  | d :: ds => by rw [pyDs, pyDs_map ds, List.map_cons]
section
variable {K : PySem.W.Frag} {ca : Str → Addr} {H : Hp}
mutual
theorem Rp.dp : ∀ {d : Dt} {v : V}, (pyD d).canLay0 = true → Rp K ca H d v → Dp K H v (pyD d)
  | .non, _, _, h => by cases h; exact .non
  | .bl b, _, _, h => by cases h; exact .bl b
  | .int i, _, _, h => by cases h; exact .int i
  | .str x, _, _, h => by cases h; exact .str x
  | .lst ds, _, c, h => by
    cases h with
    | lst h1 h2 => exact .lst (.of h1) (Rps.dp (by simpa [pyD, PyData.canLay0] using c) h2)
  | .scr ds, _, c, h => by
    cases h with
    | scr h1 h2 => exact .lst h1 (Rps.dp (by simpa [pyD, PyData.canLay0] using c) h2)
  | .tup ds, _, c, h => by
    cases h with
    | tup h1 h2 => exact .tup (.of h1) (Rps.dp (by simpa [pyD, PyData.canLay0] using c) h2)
  | .ktp ds, _, c, h => by
    cases h with
    | ktp h1 h2 => exact .tup h1 (Rps.dp (by simpa [pyD, PyData.canLay0] using c) h2)
  | .ins _ _ _, _, c, _ => by simp [pyD, PyData.canLay0] at c
  | .dic _ _, _, c, _ => by simp [pyD, PyData.canLay0] at c
  | .dit _ _, _, c, _ => by simp [pyD, PyData.canLay0] at c
theorem Rps.dp : ∀ {ds : List Dt} {vs : List V}, PyData.canLayAll0 (pyDs ds) = true → Rps K ca H ds vs → DpAll K H vs (pyDs ds)
  | [], _, _, h => by cases h; exact .nil
  | d :: ds, _, c, h => by
    cases h with
    | cons h1 h2 =>
      have c2 : PyData.canLay0 (pyD d) = true ∧ PyData.canLayAll0 (pyDs ds) = true := by simpa [pyDs, PyData.canLayAll0] using c
      exact .cons (Rp.dp c2.1 h1) (Rps.dp c2.2 h2)
end
end
def eqOK (d : Dt) : Bool := SeqAt.shaped (pyD d)
def deq (a b : Dt) : Bool := PyData.eqv (pyD a) (pyD b)
def eqD (a b : Dt) : Rs Dt := if (eqOK a && eqOK b) = true then .ok (.bl (deq a b)) else .no
def neD (a b : Dt) : Rs Dt := if (eqOK a && eqOK b) = true then .ok (.bl (!deq a b)) else .no
def eqE := op2E eqD
def neE := op2E neD
def isNonD (d : Dt) : Bool := match d with
  | .non => true
  | _ => false
def isNE := op1E fun a => .ok (.bl (isNonD a))
def notNE := op1E fun a => .ok (.bl (!isNonD a))
def seqD : Dt → Option (List Dt)
  | .lst ds => some ds
  | .scr ds => some ds
  | .tup ds => some ds
  | _ => none
def kseqD : Dt → Option (List Dt)
  | .lst ds => some ds
  | .scr ds => some ds
  | .tup ds => some ds
  | .ktp ds => some ds
  | _ => none
def inD (a : Dt) (ds : List Dt) : Bool := ds.any fun y => deq y a
def memD (neg : Bool) (a b : Dt) : Rs Dt := match kseqD b with
  | some ds => if (scal a && ds.all scal) = true then .ok (.bl (if neg then !inD a ds else inD a ds)) else .no
  | none => .no
def inE := op2E (memD false)
def ninE := op2E (memD true)
@[irreducible] def strSz (x : Str) : Bool := decide (x.length ≤ 1000000)
theorem strSz_ok {x : Str} (h : strSz x = true) : x.length ≤ 1000000 := by
  unfold strSz at h
  exact of_decide_eq_true h
def lenD : Dt → Rs Dt
  | .lst ds => .ok (.int ds.length)
  | .scr ds => .ok (.int ds.length)
  | .tup ds => .ok (.int ds.length)
  | .ktp ds => .ok (.int ds.length)
  | .str x => if strSz x = true then .ok (.int x.length) else .no
  | _ => .no
def lenE := op1E lenD
def ixD : Dt → Dt → Rs Dt
  | .lst ds, .int i => (match atI ds i with | some d => .ok d | none => .no)
  | .scr ds, .int i => (match atI ds i with | some d => .ok d | none => .no)
  | .tup ds, .int i => (match atI ds i with | some d => .ok d | none => .no)
  | .str x, .int i => if strSz x = true then (match atI x.cps.toList i with | some c => .ok (.str ⟨#[c]⟩) | none => .no) else .no
  | _, _ => .no
def ixE := op2E ixD
section
variable {J : Jc} {Γ : List Mode} {em : EM} {m : Mode} {F Fa Fb : Ev → Rs Dt} {te ta tb : TE} {G0 H0 G H G' H' : Hp} {ρ : Ev} {σ : L2.St}
theorem sz1000000 {n : Nat} (h : n ≤ 1000000) : n ≤ sizeLine := Nat.le_trans h (by decide)
section
variable (ha : SemE J Γ .B Fa ta) (hb : SemE J Γ .B Fb tb)
include ha hb
theorem se_eq : SemE J Γ (.o .F) (eqE Fa Fb) (tOp (rEqD J.K) ta tb) := se_op2 (fun H a b d x y Q ra rb q k => by
  obtain ⟨c, q⟩ := ok_if q
  cases q
  rw [Bool.and_eq_true] at c
  exact ⟨_, _, ra.dp (SeqAt.canLay_of_shaped c.1), rb.dp (SeqAt.canLay_of_shaped c.2), c.1, c.2, k _ rfl fun _ => .bl _⟩) (fun _ _ _ => nx_if (fun q => by cases q) fun q => by cases q) ha hb
theorem se_ne : SemE J Γ (.o .F) (neE Fa Fb) (tOp (rNeD J.K) ta tb) := se_op2 (fun H a b d x y Q ra rb q k => by
  obtain ⟨c, q⟩ := ok_if q
  cases q
  rw [Bool.and_eq_true] at c
  exact ⟨_, _, ra.dp (SeqAt.canLay_of_shaped c.1), rb.dp (SeqAt.canLay_of_shaped c.2), c.1, c.2, k _ rfl fun _ => .bl _⟩) (fun _ _ _ => nx_if (fun q => by cases q) fun q => by cases q) ha hb
end
theorem rp_non {K : PySem.W.Frag} {ca : Str → Addr} {d : Dt} {v : V} (h : Rp K ca H d v) : decide (v = .non) = isNonD d := by
  cases h <;> rfl
theorem se_op2n {g : Dt → Rs Dt} {r : R2} (hr : ∀ (H : Hp) (a d : Dt) (x : V) (Q : VK), Rp J.K J.ca H a x → g a = .ok d → (∀ v, scal d = true → (∀ G, Rp J.K J.ca G d v) → Q v H) → r x .non H Q) (hn : ∀ a c, g a ≠ .ex c) (ha : SemE J Γ .B Fa ta) :
    SemE J Γ (.o .F) (op1E g Fa) (tOp r ta (tC .non)) := fun {G0 H0 G H ρ σ Q} w p => by
  refine ha w (p.bind.imp (fun a _ p1 x G1 H1 _ e1 _ ra => ?_) fun _ q => q)
  show r x .non H1 Q
  cases q : g a with
  | ok d =>
    rw [q] at p1
    exact hr H1 a d x Q ra q fun v _ hv => p1.of_ok v G1 H1 Pno e1 Fr.no (.F (hv _))
  | ex c => exact absurd q (hn a c)
  | no => rw [q] at p1; cases p1
theorem se_isN (ha : SemE J Γ .B Fa ta) : SemE J Γ (.o .F) (isNE Fa) (tOp (fun x y H Q => y = .non ∧ Q (.bl (decide (x = .non))) H) ta (tC .non)) :=
  se_op2n (fun H a d x Q ra q k => by cases q; exact ⟨rfl, by rw [rp_non ra]; exact k _ rfl fun _ => .bl _⟩) (fun _ _ q => by cases q) ha
theorem se_notN (ha : SemE J Γ .B Fa ta) : SemE J Γ (.o .F) (notNE Fa) (tOp (fun x y H Q => y = .non ∧ Q (.bl (!decide (x = .non))) H) ta (tC .non)) :=
  se_op2n (fun H a d x Q ra q k => by cases q; exact ⟨rfl, by rw [rp_non ra]; exact k _ rfl fun _ => .bl _⟩) (fun _ _ q => by cases q) ha
/-! ### in, len, items -/
theorem scal_flat {K : PySem.W.Frag} {ca : Str → Addr} {d : Dt} {v : V} (s : scal d = true) (h : Rp K ca H d v) : flatV v = true := by
  cases h <;> first | rfl | cases s
theorem eqV_deq {K : PySem.W.Frag} {ca : Str → Addr} {d e : Dt} {v u : V} (s : scal d = true) (s2 : scal e = true) (h : Rp K ca H d v) (k : Rp K ca H e u) : eqV v u = deq d e := by
  cases h <;> first | (cases s; done) | (cases k <;> first | (cases s2; done) | rfl)
theorem inV_inD {K : PySem.W.Frag} {ca : Str → Addr} {a : Dt} {x : V} (s : scal a = true) (ra : Rp K ca H a x) : ∀ {ds : List Dt} {vs : List V}, ds.all scal = true → Rps K ca H ds vs → vs.all flatV = true ∧ inV x vs = inD a ds
  | [], _, _, h => by cases h; exact ⟨rfl, rfl⟩
  | d :: ds, _, c, h => by
    cases h with
    | cons h1 h2 =>
      rw [List.all_cons, Bool.and_eq_true] at c
      obtain ⟨q1, q2⟩ := inV_inD s ra c.2 h2
      refine ⟨by rw [List.all_cons, scal_flat c.1 h1, q1]; rfl, ?_⟩
      unfold inV inD at q2 ⊢
      rw [List.any_cons, List.any_cons, q2, eqV_deq c.1 s h1 ra]
theorem seq_rp {K : PySem.W.Frag} {ca : Str → Addr} {b : Dt} {y : V} {ds : List Dt} (q : kseqD b = some ds) (rb : Rp K ca H b y) : ∃ a vs, y = .ref a ∧ (SqL K H a vs ∨ SqT K H a vs) ∧ Rps K ca H ds vs := by
  cases rb with
  | lst h1 h2 => cases q; exact ⟨_, _, rfl, .inl (.of h1), h2⟩
  | scr h1 h2 => cases q; exact ⟨_, _, rfl, .inl h1, h2⟩
  | tup h1 h2 => cases q; exact ⟨_, _, rfl, .inr (.of h1), h2⟩
  | ktp h1 h2 => cases q; exact ⟨_, _, rfl, .inr h1, h2⟩
  | _ => cases q
theorem rule_mem {K : PySem.W.Frag} {ca : Str → Addr} (neg : Bool) : Rule2 K ca (memD neg) (rIn K neg) := by
  intro H a b d x y Q ra rb q k
  unfold memD at q
  cases e : kseqD b with
  | none => rw [e] at q; cases q
  | some ds =>
    rw [e] at q
    obtain ⟨c, q⟩ := ok_if q
    cases q
    rw [Bool.and_eq_true] at c
    obtain ⟨p, vs, rfl, hs, hr⟩ := seq_rp e rb
    obtain ⟨f1, f2⟩ := inV_inD c.1 ra c.2 hr
    refine ⟨p, vs, rfl, hs, scal_flat c.1 ra, f1, ?_⟩
    rw [f2]
    exact k _ rfl fun _ => .bl _
theorem nx_mem (neg : Bool) : NoEx2 (memD neg) := by
  intro a b c
  unfold memD
  split
  · exact nx_if (fun q => by cases q) fun q => by cases q
  · exact fun q => by cases q
theorem se_in (ha : SemE J Γ .B Fa ta) (hb : SemE J Γ .B Fb tb) : SemE J Γ (.o .F) (inE Fa Fb) (tOp (rIn J.K false) ta tb) := se_op2 (rule_mem false) (nx_mem false) ha hb
theorem se_nin (ha : SemE J Γ .B Fa ta) (hb : SemE J Γ .B Fb tb) : SemE J Γ (.o .F) (ninE Fa Fb) (tOp (rIn J.K true) ta tb) := se_op2 (rule_mem true) (nx_mem true) ha hb
/-- f(a) that looks at a and gives a scalar -/
theorem se_cb1 {g : Dt → Rs Dt} {r : List V → Hp → VK → Prop} (hr : ∀ (H : Hp) (a d : Dt) (x : V) (Q : VK), Rp J.K J.ca H a x → g a = .ok d → (∀ v, scal d = true → (∀ G, Rp J.K J.ca G d v) → Q v H) → r [x] H Q) (hn : ∀ a c, g a ≠ .ex c) (ha : SemE J Γ .B Fa ta) :
    SemE J Γ (.o .F) (op1E g Fa) (tCB r (tCons ta tNil)) := fun {G0 H0 G H ρ σ Q} w p => by
  refine ha w (p.bind.imp (fun a _ p1 x G1 H1 _ e1 _ ra => ?_) fun _ q => q)
  show r [x] H1 Q
  cases q : g a with
  | ok d =>
    rw [q] at p1
    exact hr H1 a d x Q ra q fun v _ hv => p1.of_ok v G1 H1 Pno e1 Fr.no (.F (hv _))
  | ex c => exact absurd q (hn a c)
  | no => rw [q] at p1; cases p1
theorem nx_len : ∀ a c, lenD a ≠ .ex c := by
  intro a c
  unfold lenD
  split <;> first | (intro q; cases q; done) | exact nx_if (fun q => by cases q) fun q => by cases q
theorem se_len (ha : SemE J Γ .B Fa ta) : SemE J Γ (.o .F) (lenE Fa) (tCB (fun xs H Q => ∃ x n, xs = [x] ∧ LenV J.K x H n ∧ Q (.int n) H) (tCons ta tNil)) :=
  se_cb1 (fun H a d x Q ra q k => by
    cases ra with
    | lst h1 h2 => cases q; exact ⟨_, _, rfl, .inl ⟨_, .of h1, rfl⟩, by rw [← h2.length]; exact k _ rfl fun _ => .int _⟩
    | scr h1 h2 => cases q; exact ⟨_, _, rfl, .inl ⟨_, h1, rfl⟩, by rw [← h2.length]; exact k _ rfl fun _ => .int _⟩
    | tup h1 h2 => cases q; exact ⟨_, _, rfl, .inr ⟨_, .of h1, rfl⟩, by rw [← h2.length]; exact k _ rfl fun _ => .int _⟩
    | ktp h1 h2 => cases q; exact ⟨_, _, rfl, .inr ⟨_, h1, rfl⟩, by rw [← h2.length]; exact k _ rfl fun _ => .int _⟩
    | str z =>
      obtain ⟨c, q⟩ := ok_if q
      cases q
      exact ⟨_, _, rfl, ⟨sz1000000 (strSz_ok c), rfl⟩, k _ rfl fun _ => .int _⟩
    | _ => cases q) nx_len ha
theorem nx_ix : NoEx2 ixD := by
  intro a b c
  unfold ixD
  split <;> first | (intro q; cases q; done) | (split <;> intro q <;> cases q; done) | (refine nx_if ?_ (fun q => by cases q); split <;> intro q <;> cases q)
theorem Rps.atI {K : PySem.W.Frag} {ca : Str → Addr} {ds : List Dt} {vs : List V} {i : Int} {d : Dt} (h : Rps K ca H ds vs) (e : L2.atI ds i = some d) : ∃ v, L2.atI vs i = some v ∧ Rp K ca H d v := by
  unfold L2.atI at e ⊢
  rw [← h.length]
  cases q : ixN ds.length i with
  | none => rw [q] at e; cases e
  | some j =>
    rw [q] at e
    obtain ⟨v, h1, h2⟩ := h.get (show ds[j]? = some d from e)
    exact ⟨v, h1, h2⟩
theorem mt_at {ds : List Dt} {i : Int} {d : Dt} (h : (match L2.atI ds i with | some d => (Rs.ok d : Rs Dt) | none => .no) = .ok d) : L2.atI ds i = some d := by
  cases q : L2.atI ds i with
  | none => rw [q] at h; cases h
  | some e => rw [q] at h; cases h; rfl
/-- an item of something looked at -/
theorem rIx_run {K : PySem.W.Frag} {ca : Str → Addr} {a b d : Dt} {x y : V} {Q : VK} (ra : Rp K ca H a x) (rb : Rp K ca H b y) (q : ixD a b = .ok d) (k : ∀ v, Rp K ca H d v → Q v H) : rIx K x y H Q := by
  cases rb with
  | int i =>
    cases ra with
    | lst h1 h2 =>
      obtain ⟨v, e, r⟩ := h2.atI (mt_at q)
      exact .inl ⟨_, _, i, v, rfl, rfl, .of h1, e, k v r⟩
    | scr h1 h2 =>
      obtain ⟨v, e, r⟩ := h2.atI (mt_at q)
      exact .inl ⟨_, _, i, v, rfl, rfl, h1, e, k v r⟩
    | tup h1 h2 =>
      obtain ⟨v, e, r⟩ := h2.atI (mt_at q)
      exact .inr (.inl ⟨_, _, i, v, rfl, rfl, .of h1, e, k v r⟩)
    | str z =>
      obtain ⟨c, q⟩ := ok_if q
      cases e : L2.atI z.cps.toList i with
      | none => rw [e] at q; cases q
      | some w =>
        rw [e] at q
        cases q
        exact .inr (.inr ⟨z, i, w, rfl, rfl, sz1000000 (strSz_ok c), e, k _ (.str _)⟩)
    | _ => cases q
  | _ => cases ra <;> cases q
theorem se_ixB (ha : SemE J Γ .B Fa ta) (hb : SemE J Γ .B Fb tb) : SemE J Γ .B (ixE Fa Fb) (tOp (rIx J.K) ta tb) := fun {G0 H0 G H ρ σ Q} w p => by
  refine ha w (p.bind.imp (fun a _ p1 x G1 H1 _ e1 _ ra => ?_) fun _ q => q)
  refine hb (w.ext e1) (p1.bind.imp (fun b _ p2 y G2 H2 _ e2 _ rb => ?_) fun _ q H' dx s => q H' dx (e1.h.trans s))
  cases q : ixD a b with
  | ok d =>
    rw [q] at p2
    exact rIx_run (Rp.mono e2.h ra) rb q fun v hv => p2.of_ok v G2 H2 Pno (e1.trans e2) Fr.no hv
  | ex c => exact absurd q (nx_ix a b c)
  | no => rw [q] at p2; cases p2
/-- an item of a list, tuple whose parts are frozen -/
theorem se_ix (ha : SemE J Γ .S Fa ta) (hb : SemE J Γ .B Fb tb) : SemE J Γ (.o .F) (ixE Fa Fb) (tOp (rIx J.K) ta tb) := fun {G0 H0 G H ρ σ Q} w p => by
  refine ha w (p.bind.imp (fun a _ p1 x G1 H1 _ e1 _ ra => ?_) fun _ q => q)
  refine hb (w.ext e1) (p1.bind.imp (fun b _ p2 y G2 H2 _ e2 _ rb => ?_) fun _ q H' dx s => q H' dx (e1.h.trans s))
  cases q : ixD a b with
  | ok d =>
    rw [q] at p2
    have fin : ∀ v, Rp J.K J.ca G2 d v → Q v H2 := fun v hv => p2.of_ok v G2 H2 Pno (e1.trans e2) Fr.no (.F hv)
    cases rb with
    | int i =>
      obtain ⟨rx, rs⟩ := ra
      cases a with
      | lst ds =>
        obtain ⟨p, vs, rfl, sq, hr⟩ := rs ds (.inl rfl)
        rcases sq with ⟨z, s⟩ | ⟨z, s⟩ | ⟨z, s⟩ <;> try cases z
        obtain ⟨v, e, r⟩ := hr.atI (mt_at q)
        exact .inl ⟨_, _, i, v, rfl, rfl, .of (e2.h _ _ s), e, fin v (r.mono e2.g)⟩
      | scr ds =>
        obtain ⟨p, vs, rfl, sq, hr⟩ := rs ds (.inr (.inl rfl))
        rcases sq with ⟨z, s⟩ | ⟨z, s⟩ | ⟨z, s⟩ <;> try cases z
        obtain ⟨v, e, r⟩ := hr.atI (mt_at q)
        exact .inl ⟨_, _, i, v, rfl, rfl, e2.h.seq s, e, fin v (r.mono e2.g)⟩
      | tup ds =>
        obtain ⟨p, vs, rfl, sq, hr⟩ := rs ds (.inr (.inr rfl))
        rcases sq with ⟨z, s⟩ | ⟨z, s⟩ | ⟨z, s⟩ <;> try cases z
        obtain ⟨v, e, r⟩ := hr.atI (mt_at q)
        exact .inr (.inl ⟨_, _, i, v, rfl, rfl, .of (e2.h _ _ s), e, fin v (r.mono e2.g)⟩)
      | str z =>
        cases rx with
        | str z =>
          obtain ⟨c, q⟩ := ok_if q
          cases e : L2.atI z.cps.toList i with
          | none => rw [e] at q; cases q
          | some w =>
            rw [e] at q
            cases q
            exact .inr (.inr ⟨z, i, w, rfl, rfl, sz1000000 (strSz_ok c), e, fin _ (.str _)⟩)
      | _ => cases q
    | _ => cases a <;> cases q
  | ex c => exact absurd q (nx_ix a b c)
  | no => rw [q] at p2; cases p2
/-! ### isinstance against the plain types -/
inductive Ty | none | bool | int | str | list | tuple | dict
  deriving DecidableEq
def Ty.nm : Ty → String
  | .none => "NoneType" | .bool => "bool" | .int => "int" | .str => "str" | .list => "list" | .tuple => "tuple" | .dict => "dict"
def tyD : Dt → Option Ty
  | .non => some .none
  | .bl _ => some .bool
  | .int _ => some .int
  | .str _ => some .str
  | .lst _ => some .list
  | .tup _ => some .tuple
  | _ => Option.none
def isTy (a b : Ty) : Bool := decide (a = b) || (decide (a = .bool) && decide (b = .int))
theorem kit_isTy (a b : Ty) (h : b ≠ .none) : kitB a.nm b.nm = some (isTy a b) := by
  cases a <;> cases b <;> first | exact absurd rfl h | decide +kernel
def isiD (c : Ty) (d : Dt) : Rs Dt := match tyD d with
  | some t => .ok (.bl (isTy t c))
  | Option.none => .no
def isiE (c : Ty) := op1E (isiD c)
theorem se_isi {c : Ty} (hc : c ≠ .none) (ha : SemE J Γ .B Fa ta) : SemE J Γ (.o .F) (isiE c Fa) (tCB (rIsi J.K) (tCons ta (tCons (tC (.ty c.nm)) tNil))) := fun {G0 H0 G H ρ σ Q} w p => by
  refine ha w (p.bind.imp (fun a _ p1 x G1 H1 _ e1 _ ra => ?_) fun _ q => q)
  have fin : ∀ t, tyD a = some t → Q (.bl (isTy t c)) H1 := fun t e => by
    unfold isiD at p1
    rw [e] at p1
    exact p1.of_ok _ G1 H1 Pno e1 Fr.no (.F (.bl _))
  have go : ∀ t : Ty, tyD a = some t → TyX J.K H1 x (.type t.nm) → rIsi J.K [x, .ty c.nm] H1 Q := fun t e z => ⟨x, .ty c.nm, .type t.nm, .type c.nm, isTy t c, rfl, .ty _, z, kit_ty (kit_isTy t c hc), fin t e⟩
  show rIsi J.K [x, .ty c.nm] H1 Q
  cases ra with
  | non => exact go .none rfl (.base .non)
  | bl b => exact go .bool rfl (.base (.bl b))
  | int i => exact go .int rfl (.base (.int i))
  | str z => exact go .str rfl (.base (.str z))
  | lst h1 h2 => exact go .list rfl (.base (.lst h1))
  | tup h1 h2 => exact go .tuple rfl (.base (.tup h1))
  | ktp _ _ => unfold isiD tyD at p1; cases p1
  | dic _ _ _ => unfold isiD tyD at p1; cases p1
  | dicZ _ _ _ => unfold isiD tyD at p1; cases p1
  | dit _ _ _ => unfold isiD tyD at p1; cases p1
  | scr _ _ => unfold isiD tyD at p1; cases p1
  | ins _ _ _ => unfold isiD tyD at p1; cases p1
end
end Pm
namespace Pm
open PySem PySem.Spec PyProof.Rows L2
open Classical
/-! ### tests -/
def asB : Dt → Rs Bool
  | .bl b => .ok b
  | _ => .no
def boolT (F : Ev → Rs Dt) (ρ : Ev) : Rs Bool := F ρ >>= asB
def notT (F : Ev → Rs Bool) (ρ : Ev) : Rs Bool := F ρ >>= fun b => .ok (!b)
def andT (Fa Fb : Ev → Rs Bool) (ρ : Ev) : Rs Bool := Fa ρ >>= fun b => if b = true then Fb ρ else .ok false
def orT (Fa Fb : Ev → Rs Bool) (ρ : Ev) : Rs Bool := Fa ρ >>= fun b => if b = true then .ok true else Fb ρ
def andE (Fa Fb : Ev → Rs Dt) (ρ : Ev) : Rs Dt := Fa ρ >>= fun a => asB a >>= fun b => if b = true then Fb ρ else .ok (.bl false)
def orE (Fa Fb : Ev → Rs Dt) (ρ : Ev) : Rs Dt := Fa ρ >>= fun a => asB a >>= fun b => if b = true then .ok (.bl true) else Fb ρ
def notE (Fa : Ev → Rs Dt) (ρ : Ev) : Rs Dt := Fa ρ >>= fun a => asB a >>= fun b => .ok (.bl (!b))
def ifE (Ft : Ev → Rs Bool) (Fa Fb : Ev → Rs Dt) (ρ : Ev) : Rs Dt := Ft ρ >>= fun b => if b = true then Fa ρ else Fb ρ
section
variable {J : Jc} {Γ : List Mode} {em : EM} {m : Mode} {F Fa Fb : Ev → Rs Dt} {Ft Fu : Ev → Rs Bool} {te ta tb : TE} {tt tu : TT} {G0 H0 G H G' H' : Hp} {ρ : Ev} {σ : L2.St}
theorem st_val (h : SemE J Γ .B F te) : SemT J Γ (boolT F) (tTest te) := fun {G0 H0 G H ρ σ Q} w p => h w (p.bind.imp (fun d _ q v G' H' P e _ r => by
  cases r with
  | bl b => exact ⟨b, rfl, q.of_ok G' H' e⟩
  | _ => cases q) fun _ q => q)
theorem st_valB (h : SemE J Γ .B F te) : SemT J Γ (boolT F) (tB te) := st_val h
theorem st_not (h : SemT J Γ Ft tt) : SemT J Γ (notT Ft) (tNot tt) := fun {G0 H0 G H ρ σ Q} w p => h w (p.bind.imp (fun d _ q G' H' e => q.of_ok G' H' e) fun _ q => q)
theorem st_and (h : SemT J Γ Ft tt) (k : SemT J Γ Fu tu) : SemT J Γ (andT Ft Fu) (tAnd tt tu) := fun {G0 H0 G H ρ σ Q} w p => h w (p.bind.imp (fun b _ q G' H' e => by
  cases b with
  | true => exact k (w.ext e) (Rs.Post.imp q (fun c _ r G2 H2 e2 => r G2 H2 (e.trans e2)) fun c r H2 dx s => r H2 dx (e.h.trans s))
  | false => exact Rs.Post.of_ok q G' H' e) fun _ q => q)
theorem st_or (h : SemT J Γ Ft tt) (k : SemT J Γ Fu tu) : SemT J Γ (orT Ft Fu) (tOr tt tu) := fun {G0 H0 G H ρ σ Q} w p => h w (p.bind.imp (fun b _ q G' H' e => by
  cases b with
  | false => exact k (w.ext e) (Rs.Post.imp q (fun c _ r G2 H2 e2 => r G2 H2 (e.trans e2)) fun c r H2 dx s => r H2 dx (e.h.trans s))
  | true => exact Rs.Post.of_ok q G' H' e) fun _ q => q)
theorem se_and (h : SemE J Γ .B Fa ta) (k : SemE J Γ (.o .F) Fb tb) : SemE J Γ (.o .F) (andE Fa Fb) (tAndV ta tb) := fun {G0 H0 G H ρ σ Q} w p => h w (p.bind.imp (fun d _ q v G' H' P e _ r => by
  cases r with
  | bl b =>
    cases b with
    | true => exact ⟨true, rfl, k (w.ext e) (Rs.Post.imp q (fun c _ r v2 G2 H2 P2 e2 f2 o2 => r v2 G2 H2 Pno (e.trans e2) Fr.no (by cases o2 with | F o2 => exact .F o2)) fun c r H2 dx s => r H2 dx (e.h.trans s))⟩
    | false => exact ⟨false, rfl, Rs.Post.of_ok q _ G' H' Pno e Fr.no (.F (.bl _))⟩
  | _ => cases q) fun _ q => q)
theorem se_or (h : SemE J Γ .B Fa ta) (k : SemE J Γ (.o .F) Fb tb) : SemE J Γ (.o .F) (orE Fa Fb) (tOrV ta tb) := fun {G0 H0 G H ρ σ Q} w p => h w (p.bind.imp (fun d _ q v G' H' P e _ r => by
  cases r with
  | bl b =>
    cases b with
    | false => exact ⟨false, rfl, k (w.ext e) (Rs.Post.imp q (fun c _ r v2 G2 H2 P2 e2 f2 o2 => r v2 G2 H2 Pno (e.trans e2) Fr.no (by cases o2 with | F o2 => exact .F o2)) fun c r H2 dx s => r H2 dx (e.h.trans s))⟩
    | true => exact ⟨true, rfl, Rs.Post.of_ok q _ G' H' Pno e Fr.no (.F (.bl _))⟩
  | _ => cases q) fun _ q => q)
theorem se_not (h : SemE J Γ .B Fa ta) : SemE J Γ (.o .F) (notE Fa) (tNotV ta) := fun {G0 H0 G H ρ σ Q} w p => h w (p.bind.imp (fun d _ q v G' H' P e _ r => by
  cases r with
  | bl b => exact ⟨b, rfl, Rs.Post.of_ok q _ G' H' Pno e Fr.no (.F (.bl _))⟩
  | _ => cases q) fun _ q => q)
theorem se_if (h : SemT J Γ Ft tt) (k : SemE J Γ (.o .F) Fa ta) (l : SemE J Γ (.o .F) Fb tb) : SemE J Γ (.o .F) (ifE Ft Fa Fb) (tIf tt ta tb) := fun {G0 H0 G H ρ σ Q} w p => h w (p.bind.imp (fun b _ q G' H' e => by
  cases b with
  | true => exact k (w.ext e) (Rs.Post.imp q (fun c _ r v2 G2 H2 P2 e2 f2 o2 => r v2 G2 H2 Pno (e.trans e2) Fr.no (by cases o2 with | F o2 => exact .F o2)) fun c r H2 dx s => r H2 dx (e.h.trans s))
  | false => exact l (w.ext e) (Rs.Post.imp q (fun c _ r v2 G2 H2 P2 e2 f2 o2 => r v2 G2 H2 Pno (e.trans e2) Fr.no (by cases o2 with | F o2 => exact .F o2)) fun c r H2 dx s => r H2 dx (e.h.trans s))) fun _ q => q)
/-- -a -/
def negD : Dt → Rs Dt
  | .int i => .ok (.int (-i))
  | _ => .no
def negE := op1E negD
theorem se_neg (ha : SemE J Γ .B Fa ta) : SemE J Γ (.o .F) (negE Fa) (tUn (rU fun i => .int (-i)) ta) := se_op1 (fun H a d x Q ra q k => by
  cases ra with
  | int i => cases q; exact ⟨i, rfl, k _ rfl fun _ => .int _⟩
  | _ => cases q) (fun a c => by unfold negD; split <;> intro q <;> cases q) ha
/-! ### argument lists -/
def argsE : List (Ev → Rs Dt) → Ev → Rs (List Dt)
  | [], _ => .ok []
  | f :: fs, ρ => f ρ >>= fun d => argsE fs ρ >>= fun ds => .ok (d :: ds)
theorem argsE_len : ∀ {fs : List (Ev → Rs Dt)} {ρ : Ev} {ds : List Dt}, argsE fs ρ = .ok ds → ds.length = fs.length
  | [], _, _, h => by cases h; rfl
  | f :: fs, ρ, ds, h => by
    unfold argsE at h
    cases q : f ρ with
    | ok d =>
      rw [q, ok_bind] at h
      cases q2 : argsE fs ρ with
      | ok es =>
        rw [q2, ok_bind] at h
        cases h
        rw [List.length_cons, List.length_cons, argsE_len q2]
      | ex c => rw [q2] at h; cases h
      | no => rw [q2] at h; cases h
    | ex c => rw [q] at h; cases h
    | no => rw [q] at h; cases h
end
def SemZ (J : Jc) (Γ : List Mode) (ms : List Mode) (Fs : List (Ev → Rs Dt)) (ta : TA) : Prop := ∀ ⦃G0 H0 G H : Hp⦄ ⦃ρ : Ev⦄ ⦃σ : L2.St⦄ ⦃Q : List V → Hp → Prop⦄, Wd J G0 H0 Γ ρ σ G H →
  Rs.Post (fun ds => ∀ vs G' H' P, Ext G H G' H' → Fr G' H H' P → Ows J.K J.ca G' H' ms ds vs P → Q vs H') (fun c => ∀ H' dx, Same H H' → XR c dx H' → J.W (.ref (J.ca c.1)) dx σ H') (argsE Fs ρ) → ta σ H Q
def SemBs (J : Jc) (Γ : List Mode) (Fs : List (Ev → Rs Dt)) (ta : TA) : Prop := ∀ ⦃G0 H0 G H : Hp⦄ ⦃ρ : Ev⦄ ⦃σ : L2.St⦄ ⦃Q : List V → Hp → Prop⦄, Wd J G0 H0 Γ ρ σ G H →
  Rs.Post (fun ds => ∀ vs G' H', Ext G H G' H' → Rps J.K J.ca H' ds vs → Q vs H') (fun c => ∀ H' dx, Same H H' → XR c dx H' → J.W (.ref (J.ca c.1)) dx σ H') (argsE Fs ρ) → ta σ H Q
/-- all F -/
def allF : List Mode → Bool
  | [] => true
  | .F :: ms => allF ms
  | _ => false
section
variable {J : Jc} {Γ : List Mode} {em : EM} {m : Mode} {ms : List Mode} {F Fa Fb : Ev → Rs Dt} {Fs : List (Ev → Rs Dt)} {te ta tb : TE} {tr : TA} {G0 H0 G H G' H' : Hp} {ρ : Ev} {σ : L2.St}
theorem Ows.allF {K : PySem.W.Frag} {ca : Str → Addr} : ∀ {ms : List Mode} {ds : List Dt} {vs : List V} {P : Addr → Prop}, Pm.allF ms = true → Ows K ca G H ms ds vs P → Rps K ca G ds vs
  | [], _, _, _, _, h => by cases h; exact .nil
  | m :: ms, _, _, _, c, h => by
    cases h with
    | cons h1 h2 _ _ _ =>
      cases m with
      | F =>
        cases h1 with
        | F h1 => exact .cons h1 (Ows.allF (by simpa [Pm.allF] using c) h2)
      | _ => simp [Pm.allF] at c
theorem sz_nil : SemZ J Γ [] [] tNil := fun {G0 H0 G H ρ σ Q} w p => p.of_ok [] G H Pno (Ext.refl w.gh) Fr.no .nil
theorem sz_cons (h : SemE J Γ (.o m) F te) (k : SemZ J Γ ms Fs tr) : SemZ J Γ (m :: ms) (F :: Fs) (tCons te tr) := fun {G0 H0 G H ρ σ Q} w p => by
  refine h w (p.bind.imp (fun d _ q v G1 H1 P1 e1 f1 o1 => ?_) fun _ q => q)
  refine k (w.ext e1) (q.bind.imp (fun ds _ q vs G2 H2 P2 e2 f2 o2 => ?_) fun _ q H' dx s => q H' dx (e1.h.trans s))
  refine q.of_ok (v :: vs) G2 H2 (fun b => P1 b ∨ P2 b) (e1.trans e2) (fun b hb => ?_) (.cons (o1.carry e2.g fun b hb => ?_) o2 (fun _ => .inl) (fun _ => .inr) fun b h1 h2 => ?_)
  · rcases hb with hb | hb
    · obtain ⟨a1, a2, a3⟩ := f1 b hb
      exact ⟨by rw [e2.base b a3]; exact a1, a2, e2.h.nn a3⟩
    · obtain ⟨a1, a2, a3⟩ := f2 b hb
      exact ⟨a1, e1.h.free a2, a3⟩
  · obtain ⟨a1, a2, a3⟩ := f1 b hb
    exact ⟨e2.h.at a3, by rw [e2.base b a3]; exact a1⟩
  · exact (f1 b h1).2.2 (f2 b h2).2.1
theorem sb_nil : SemBs J Γ [] tNil := fun {G0 H0 G H ρ σ Q} w p => p.of_ok [] G H (Ext.refl w.gh) .nil
theorem sb_cons (h : SemE J Γ .B F te) (k : SemBs J Γ Fs tr) : SemBs J Γ (F :: Fs) (tCons te tr) := fun {G0 H0 G H ρ σ Q} w p => by
  refine h w (p.bind.imp (fun d _ q v G1 H1 P1 e1 f1 o1 => ?_) fun _ q => q)
  refine k (w.ext e1) (q.bind.imp (fun ds _ q vs G2 H2 e2 o2 => ?_) fun _ q H' dx s => q H' dx (e1.h.trans s))
  exact q.of_ok (v :: vs) G2 H2 (e1.trans e2) (.cons (Rp.mono e2.h o1) o2)
theorem Fr.upd {p : Addr} {o : HO} {P : Addr → Prop} (e : Same G' H') (f : Fr G' H H' P) (hp : H' p = none) (hq : H p = none) : Fr G' H (upd H' p o) (fun b => b = p ∨ P b) := fun b hb => by
  by_cases z : b = p
  · subst z
    exact ⟨e.free hp, hq, by rw [upd_same]; exact fun w => by cases w⟩
  · rcases hb with hb | hb
    · exact absurd hb z
    · obtain ⟨a1, a2, a3⟩ := f b hb
      exact ⟨a1, a2, by rw [upd_ne z]; exact a3⟩
theorem Ext.upd {p : Addr} {o : HO} (e : Ext G H G' H') (hp : H' p = none) : Ext G H G' (upd H' p o) := e.trans (Ext.heap e.gh (Same.new hp))
theorem Ows.upd {K : PySem.W.Frag} {ca : Str → Addr} {p : Addr} {o : HO} {ms : List Mode} {ds : List Dt} {vs : List V} {P : Addr → Prop} (f : Fr G' H H' P) (hp : H' p = none) (h : Ows K ca G' H' ms ds vs P) : Ows K ca G' (L2.upd H' p o) ms ds vs (fun b => (b = p ∨ P b) ∧ b ≠ p) :=
  (h.carry (Same.refl _) fun b hb => by
    obtain ⟨a1, a2, a3⟩ := f b hb
    exact ⟨upd_ne fun z => a3 (by rw [z]; exact hp), a1⟩).weaken fun b hb => ⟨.inr hb, fun z => (f b hb).2.2 (by rw [z]; exact hp)⟩
/-- displays -/
def tupE (Fs : List (Ev → Rs Dt)) (ρ : Ev) : Rs Dt := argsE Fs ρ >>= fun ds => .ok (.tup ds)
def lstE (Fs : List (Ev → Rs Dt)) (ρ : Ev) : Rs Dt := argsE Fs ρ >>= fun ds => .ok (.lst ds)
theorem Ows.len {K : PySem.W.Frag} {ca : Str → Addr} : ∀ {ms : List Mode} {ds : List Dt} {vs : List V} {P : Addr → Prop}, Ows K ca G H ms ds vs P → ds.length = vs.length ∧ ms.length = ds.length
  | _, [], _, _, h => by cases h; exact ⟨rfl, rfl⟩
  | _, d :: ds, _, _, h => by
    cases h with
    | cons h1 h2 _ _ _ =>
      obtain ⟨a, b⟩ := Ows.len h2
      exact ⟨by rw [List.length_cons, List.length_cons, a], by rw [List.length_cons, List.length_cons, b]⟩
theorem se_tup (h : SemZ J Γ ms Fs tr) (hl : Fs.length ≤ 1000000 := by exact Nat.le_of_ble_eq_true rfl) : SemE J Γ (.o (.T ms)) (tupE Fs) (tTup tr) := fun {G0 H0 G H ρ σ Q} w p => by
  refine h w (p.bind.imp (fun ds hd q vs G1 H1 P1 e1 f1 o1 => ⟨?_, fun a ha => ?_⟩) fun _ q => q)
  · rw [← o1.len.1, argsE_len hd]; exact sz1000000 hl
  · exact q.of_ok (.ref a) G1 _ (fun b => b = a ∨ P1 b) (e1.upd ha) (f1.upd e1.gh ha (e1.h.free ha)) (.T upd_same (e1.gh.free ha) (.inl rfl) (o1.upd f1 ha))
theorem se_tupF (h : SemZ J Γ ms Fs tr) (hl : Fs.length ≤ 1000000 := by exact Nat.le_of_ble_eq_true rfl) : SemE J Γ (.o .F) (tupE Fs) (tTup tr) := se_frz (se_tup h hl)
theorem rep_of : ∀ {ms : List Mode} {n : Nat}, ms = List.replicate n m → ms.length = n := fun h => by rw [h, List.length_replicate]
theorem se_lst (h : SemZ J Γ ms Fs tr) (hm : ms = List.replicate Fs.length m := by rfl) (hl : Fs.length ≤ 1000000 := by exact Nat.le_of_ble_eq_true rfl) : SemE J Γ (.o (.L m)) (lstE Fs) (tLst tr) := fun {G0 H0 G H ρ σ Q} w p => by
  refine h w (p.bind.imp (fun ds hd q vs G1 H1 P1 e1 f1 o1 => ⟨?_, fun a ha => ?_⟩) fun _ q => q)
  · rw [← o1.len.1, argsE_len hd]; exact sz1000000 hl
  · refine q.of_ok (.ref a) G1 _ (fun b => b = a ∨ P1 b) (e1.upd ha) (f1.upd e1.gh ha (e1.h.free ha)) (.L upd_same (e1.gh.free ha) (.inl rfl) ?_)
    rw [argsE_len hd, ← hm]
    exact o1.upd f1 ha
theorem se_lstF (h : SemZ J Γ ms Fs tr) (hm : ms = List.replicate Fs.length .F := by rfl) (hl : Fs.length ≤ 1000000 := by exact Nat.le_of_ble_eq_true rfl) : SemE J Γ (.o .F) (lstE Fs) (tLst tr) := se_frz (se_lst h hm hl)
/-! ### a new list, tuple of frozen parts -/
theorem Rps.own {K : PySem.W.Frag} {ca : Str → Addr} : ∀ {ds : List Dt} {vs : List V} {P : Addr → Prop}, Rps K ca G ds vs → Ows K ca G H (List.replicate ds.length .F) ds vs P
  | [], _, _, h => by cases h; exact .nil
  | d :: ds, _, _, h => by
    cases h with
    | cons h1 h2 => exact .cons (P1 := Pno) (P2 := Pno) (.F h1) (Rps.own h2) (fun _ z => z.elim) (fun _ z => z.elim) (fun _ z => z.elim)
theorem new_lst {K : PySem.W.Frag} {ca : Str → Addr} {a : Addr} {ds : List Dt} {vs : List V} (e : Same G H) (ha : H a = none) (h : Rps K ca G ds vs) : Ext G H G (upd H a (.lst vs)) ∧ Fr G H (upd H a (.lst vs)) (fun b => b = a) ∧ Ow K ca G (upd H a (.lst vs)) (.L .F) (.lst ds) (.ref a) (fun b => b = a) :=
  ⟨Ext.heap e (Same.new ha), fun b hb => by rw [hb, upd_same]; exact ⟨e.free ha, ha, fun w => by cases w⟩, .L upd_same (e.free ha) rfl h.own⟩
theorem new_tup {K : PySem.W.Frag} {ca : Str → Addr} {a : Addr} {ds : List Dt} {vs : List V} (e : Same G H) (ha : H a = none) (h : Rps K ca G ds vs) : Ext G H (upd G a (.tup vs)) (upd H a (.tup vs)) ∧ Rp K ca (upd G a (.tup vs)) (.tup ds) (.ref a) :=
  ⟨Ext.new e ha, .tup upd_same (h.mono (Same.new (e.free ha)))⟩
/-- what S says of a sequence -/
theorem S_seq {K : PySem.W.Frag} {ca : Str → Addr} {d : Dt} {v : V} {P : Addr → Prop} {ds : List Dt} (h : Res K ca G H .S d v P) (q : seqD d = some ds) : ∃ a vs, v = .ref a ∧ (SqL K H a vs ∨ SqT K H a vs) ∧ Rps K ca G ds vs := by
  have hd : d = .lst ds ∨ d = .scr ds ∨ d = .tup ds := by
    cases d <;> first | (cases q; exact .inl rfl) | (cases q; exact .inr (.inl rfl)) | (cases q; exact .inr (.inr rfl)) | cases q
  obtain ⟨a, vs, e, sq, r⟩ := h.2 ds hd
  refine ⟨a, vs, e, ?_, r⟩
  rcases sq with ⟨_, s⟩ | ⟨_, s⟩ | ⟨_, s⟩
  · exact .inl (.of s)
  · exact .inl s
  · exact .inr (.of s)
/-- list(x) -/
def listD (d : Dt) : Rs Dt := match seqD d with
  | some ds => .ok (.lst ds)
  | none => .no
def listE := op1E listD
theorem se_list (h : SemE J Γ .S F te) : SemE J Γ (.o (.L .F)) (listE F) (tCB (fun xs H Q => ∃ p ys, xs = [.ref p] ∧ (SqL J.K H p ys ∨ SqT J.K H p ys) ∧ ∀ l, H l = none → Q (.ref l) (upd H l (.lst ys))) (tCons te tNil)) := fun {G0 H0 G H ρ σ Q} w p => by
  refine h w (p.bind.imp (fun d _ q v G1 H1 P1 e1 _ r1 => ?_) fun _ q => q)
  unfold listD at q
  cases e : seqD d with
  | none => rw [e] at q; cases q
  | some ds =>
    rw [e] at q
    obtain ⟨a, vs, rfl, sq, r⟩ := S_seq r1 e
    refine ⟨a, vs, rfl, sq, fun l hl => ?_⟩
    obtain ⟨e2, f2, o2⟩ := new_lst e1.gh hl r
    exact q.of_ok (.ref l) G1 _ _ (e1.trans e2) (fun b hb => ⟨(f2 b hb).1, e1.h.free (f2 b hb).2.1, (f2 b hb).2.2⟩) o2
/-- tuple(x) -/
def tupleD (d : Dt) : Rs Dt := match seqD d with
  | some ds => .ok (.tup ds)
  | none => .no
def tupleE := op1E tupleD
abbrev rTupleOf (K : PySem.W.Frag) : List V → Hp → VK → Prop := fun xs H Q => ∃ p ys, xs = [.ref p] ∧ ((SqL K H p ys ∧ ∀ l, H l = none → Q (.ref l) (upd H l (.tup ys))) ∨ (SqT K H p ys ∧ Q (.ref p) H))
theorem tuple_new {K : PySem.W.Frag} {ca : Str → Addr} {a l : Addr} {ds : List Dt} {vs : List V} {Q : VK} {E : Xn → Prop} (e1 : Ext G H G' H') (r : Rps K ca G' ds vs) (hl : H' l = none)
    (q : ∀ v G2 H2 P, Ext G H G2 H2 → Fr G2 H H2 P → Res K ca G2 H2 (.o .F) (.tup ds) v P → Q v H2) : Q (.ref l) (upd H' l (.tup vs)) := by
  obtain ⟨e2, o2⟩ := new_tup e1.gh hl r
  exact q _ _ _ Pno (e1.trans e2) Fr.no (.F o2)
theorem se_tuple (h : SemE J Γ (.o .F) F te) : SemE J Γ (.o .F) (tupleE F) (tCB (rTupleOf J.K) (tCons te tNil)) := fun {G0 H0 G H ρ σ Q} w p => by
  refine h w (p.bind.imp (fun d _ q v G1 H1 P1 e1 _ r1 => ?_) fun _ q => q)
  unfold tupleD at q
  cases r1 with
  | F r1 =>
    cases r1 with
    | lst h1 h2 => exact ⟨_, _, rfl, .inl ⟨.of (e1.gh _ _ h1), fun l hl => tuple_new (a := l) (E := fun _ => True) e1 h2 hl (q.of_ok)⟩⟩
    | scr h1 h2 => exact ⟨_, _, rfl, .inl ⟨e1.gh.seq h1, fun l hl => tuple_new (a := l) (E := fun _ => True) e1 h2 hl (q.of_ok)⟩⟩
    | tup h1 h2 => exact ⟨_, _, rfl, .inr ⟨.of (e1.gh _ _ h1), q.of_ok _ G1 H1 Pno e1 Fr.no (.F (.tup h1 h2))⟩⟩
    | _ => cases q
/-- of a list looked at -/
def tupleLD : Dt → Rs Dt
  | .lst ds => .ok (.tup ds)
  | _ => .no
def tupleLE := op1E tupleLD
theorem se_tupleL (h : SemE J Γ .S F te) : SemE J Γ (.o .F) (tupleLE F) (tCB (rTupleOf J.K) (tCons te tNil)) := fun {G0 H0 G H ρ σ Q} w p => by
  refine h w (p.bind.imp (fun d _ q v G1 H1 P1 e1 _ r1 => ?_) fun _ q => q)
  unfold tupleLD at q
  cases d with
  | lst ds =>
    obtain ⟨a, vs, rfl, sq, r⟩ := r1.2 ds (.inl rfl)
    rcases sq with ⟨_, s⟩ | ⟨z, _⟩ | ⟨z, _⟩ <;> try cases z
    exact ⟨_, _, rfl, .inl ⟨.of s, fun l hl => tuple_new (a := l) (E := fun _ => True) e1 r hl (q.of_ok)⟩⟩
  | _ => cases q
/-! ### slices -/
def SemOo := SemO
def noPart (_ : Ev) : Rs (Option Int) := .ok none
def asI : Dt → Rs (Option Int)
  | .int i => .ok (some i)
  | _ => .no
def partO (F : Ev → Rs Dt) (ρ : Ev) : Rs (Option Int) := F ρ >>= asI
theorem so_none : SemO J Γ noPart tNoPart := fun {G0 H0 G H ρ σ Q} w p => p.of_ok G H (Ext.refl w.gh)
theorem so_some (h : SemE J Γ .B F te) : SemO J Γ (partO F) (tPart te) := fun {G0 H0 G H ρ σ Q} w p => h w (p.bind.imp (fun d _ q v G' H' P e _ r => by
  cases r with
  | int i => exact ⟨i, rfl, q.of_ok G' H' e⟩
  | _ => cases q) fun _ q => q)
def cutL {α : Type} (xs : List α) (lo hi : Option Int) : List α := (xs.drop (HT.sIx xs.length 0 lo)).take (HT.sIx xs.length xs.length hi - HT.sIx xs.length 0 lo)
theorem Rps.cut {K : PySem.W.Frag} {ca : Str → Addr} {ds : List Dt} {vs : List V} (h : Rps K ca H ds vs) (lo hi : Option Int) : Rps K ca H (cutL ds lo hi) (cutV vs lo hi) := by
  unfold cutL cutV
  rw [h.length]
  exact (h.drop _).take _
def cutD : Dt → Option Int → Option Int → Rs Dt
  | .lst ds, lo, hi => .ok (.lst (cutL ds lo hi))
  | .scr ds, lo, hi => .ok (.lst (cutL ds lo hi))
  | .tup ds, lo, hi => .ok (.tup (cutL ds lo hi))
  | .str z, lo, hi => if strSz z = true then .ok (.str (cutS z lo hi)) else .no
  | _, _, _ => .no
def slcE (F : Ev → Rs Dt) (Fl Fh : Ev → Rs (Option Int)) (ρ : Ev) : Rs Dt := F ρ >>= fun d => Fl ρ >>= fun l => Fh ρ >>= fun u => cutD d l u
abbrev rSlice (K : PySem.W.Frag) : V → Option Int → Option Int → Hp → VK → Prop := fun x lo hi H Q => rSlL K x lo hi H Q ∨ rSlA K x lo hi H Q ∨ rSlS x lo hi H Q
theorem sl_any {X : Cx} : SlR X (fun x lo hi H Q => rSlL X.K x lo hi H Q ∨ (rSlA X.K x lo hi H Q ∨ rSlS x lo hi H Q)) := sl_list.or (sl_tupA.or sl_str)
variable {Fl Fh : Ev → Rs (Option Int)} {tl th : TO}
theorem cut_whole {α : Type} {xs : List α} {lo hi : Option Int} (h : HT.sIx xs.length 0 lo = 0 ∧ HT.sIx xs.length xs.length hi = xs.length) : cutL xs lo hi = xs := by
  unfold cutL
  rw [h.1, h.2]
  simp
theorem se_slc (h : SemE J Γ (.o .F) F te) (hl : SemO J Γ Fl tl) (hh : SemO J Γ Fh th) : SemE J Γ (.o .F) (slcE F Fl Fh) (tSl (fun x lo hi H Q => rSlL J.K x lo hi H Q ∨ (rSlA J.K x lo hi H Q ∨ rSlS x lo hi H Q)) te tl th) := fun {G0 H0 G H ρ σ Q} w p => by
  refine h w (p.bind.imp (fun d _ q v G1 H1 P1 e1 _ r1 => ?_) fun _ q => q)
  refine hl (w.ext e1) (q.bind.imp (fun l _ q G2 H2 e2 => ?_) fun _ q H' dx s => q H' dx (e1.h.trans s))
  refine hh (w.ext (e1.trans e2)) (q.bind.imp (fun u _ q G3 H3 e3 => ?_) fun _ q H' dx s => q H' dx ((e1.trans e2).h.trans s))
  have e := (e1.trans e2).trans e3
  have e23 := e2.trans e3
  unfold cutD at q
  cases r1 with
  | F r1 =>
    cases r1 with
    | lst h1 h2 =>
      refine .inl ⟨_, _, rfl, .of (e23.h _ _ (e1.gh _ _ h1)), fun a ha => ?_⟩
      obtain ⟨e4, f4, o4⟩ := new_lst e3.gh ha ((h2.mono e23.g).cut l u)
      obtain ⟨G5, e5, r5, _⟩ := frz_ext e4 f4 o4
      exact q.of_ok _ _ _ Pno (e.trans e5) Fr.no (.F r5)
    | scr h1 h2 =>
      refine .inl ⟨_, _, rfl, e23.h.seq (e1.gh.seq h1), fun a ha => ?_⟩
      obtain ⟨e4, f4, o4⟩ := new_lst e3.gh ha ((h2.mono e23.g).cut l u)
      obtain ⟨G5, e5, r5, _⟩ := frz_ext e4 f4 o4
      exact q.of_ok _ _ _ Pno (e.trans e5) Fr.no (.F r5)
    | tup h1 h2 =>
      refine .inr (.inl ⟨_, _, rfl, .of (e23.h _ _ (e1.gh _ _ h1)), fun hw => ?_, fun hw a ha => ?_⟩)
      · have c := cut_whole (xs := _) hw
        have hw2 := hw
        rw [← h2.length] at hw2
        have c2 := cut_whole hw2
        have q := q.of_ok
        simp only [c2] at q
        exact q _ G3 H3 Pno e Fr.no (.F (.tup (e23.g _ _ h1) (h2.mono e23.g)))
      · obtain ⟨e4, o4⟩ := new_tup e3.gh ha ((h2.mono e23.g).cut l u)
        exact q.of_ok _ _ _ Pno (e.trans e4) Fr.no (.F o4)
    | str z =>
      have q : Rs.Post _ _ (if strSz z = true then Rs.ok (Dt.str (cutS z l u)) else Rs.no) := q
      by_cases c : strSz z = true
      · rw [if_pos c] at q
        exact .inr (.inr ⟨z, rfl, sz1000000 (strSz_ok c), q.of_ok _ G3 H3 Pno e Fr.no (.F (.str _))⟩)
      · rw [if_neg c] at q; cases q
    | _ => cases q
/-- of a list looked at -/
def cutLD : Dt → Option Int → Option Int → Rs Dt
  | .lst ds, lo, hi => .ok (.lst (cutL ds lo hi))
  | .scr ds, lo, hi => .ok (.lst (cutL ds lo hi))
  | _, _, _ => .no
def slcLE (F : Ev → Rs Dt) (Fl Fh : Ev → Rs (Option Int)) (ρ : Ev) : Rs Dt := F ρ >>= fun d => Fl ρ >>= fun l => Fh ρ >>= fun u => cutLD d l u
theorem se_slcL (h : SemE J Γ .S F te) (hl : SemO J Γ Fl tl) (hh : SemO J Γ Fh th) : SemE J Γ (.o (.L .F)) (slcLE F Fl Fh) (tSl (fun x lo hi H Q => rSlL J.K x lo hi H Q ∨ (rSlA J.K x lo hi H Q ∨ rSlS x lo hi H Q)) te tl th) := fun {G0 H0 G H ρ σ Q} w p => by
  refine h w (p.bind.imp (fun d _ q v G1 H1 P1 e1 _ r1 => ?_) fun _ q => q)
  refine hl (w.ext e1) (q.bind.imp (fun l _ q G2 H2 e2 => ?_) fun _ q H' dx s => q H' dx (e1.h.trans s))
  refine hh (w.ext (e1.trans e2)) (q.bind.imp (fun u _ q G3 H3 e3 => ?_) fun _ q H' dx s => q H' dx ((e1.trans e2).h.trans s))
  have e := (e1.trans e2).trans e3
  have e23 := e2.trans e3
  have go : ∀ (ds : List Dt) (vs : List V) (a : Addr), v = .ref a → SqL J.K H1 a vs → Rps J.K J.ca G1 ds vs → cutLD d l u = .ok (.lst (cutL ds l u)) → rSlL J.K v l u H3 Q := fun ds vs a ev s r z => by
    rw [z] at q
    refine ⟨a, vs, ev, e23.h.seq s, fun b hb => ?_⟩
    obtain ⟨e4, f4, o4⟩ := new_lst e3.gh hb ((r.mono e23.g).cut l u)
    exact q.of_ok _ _ _ _ (e.trans e4) (fun b hb => ⟨(f4 b hb).1, e.h.free (f4 b hb).2.1, (f4 b hb).2.2⟩) o4
  cases d with
  | lst ds =>
    obtain ⟨a, vs, ev, sq, r⟩ := r1.2 ds (.inl rfl)
    rcases sq with ⟨_, s⟩ | ⟨z, _⟩ | ⟨z, _⟩ <;> try cases z
    exact .inl (go ds vs a ev (.of s) r rfl)
  | scr ds =>
    obtain ⟨a, vs, ev, sq, r⟩ := r1.2 ds (.inr (.inl rfl))
    rcases sq with ⟨z, _⟩ | ⟨_, s⟩ | ⟨z, _⟩ <;> try cases z
    exact .inl (go ds vs a ev s r rfl)
  | _ => cases q
/-! ### + of everything, list times int -/
abbrev rPlus (K : PySem.W.Frag) : R2 := fun x y H Q => rI0 (fun i j => .int (i + j)) x y H Q ∨ ((∃ i j, x = .str i ∧ y = .str j ∧ i.length + j.length ≤ sizeLine ∧ Q (.str (i ++ j)) H) ∨ (rCat x y H Q ∨ rCatA K x y H Q))
theorem op_plus {X : Cx} : OpR X (binaryOp .Add) (fun x y H Q => rI0 (fun i j => .int (i + j)) x y H Q ∨ ((∃ i j, x = .str i ∧ y = .str j ∧ i.length + j.length ≤ sizeLine ∧ Q (.str (i ++ j)) H) ∨ (rCat x y H Q ∨ rCatA X.K x y H Q))) := op_add.or (op_add_str.or (op_cat.or op_catA))
@[irreducible] def lenSz (n : Nat) : Bool := decide (n ≤ 1000000)
theorem lenSz_le {n : Nat} (h : lenSz n = true) : n ≤ 1000000 := by
  unfold lenSz at h
  exact of_decide_eq_true h
def plusD : Dt → Dt → Rs Dt
  | .int i, .int j => .ok (.int (i + j))
  | .str i, .str j => if lenSz (i.length + j.length) = true then .ok (.str (i ++ j)) else .no
  | .lst a, .lst b => if lenSz (a.length + b.length) = true then .ok (.lst (a ++ b)) else .no
  | .tup a, .tup b => if lenSz (a.length + b.length) = true then .ok (.tup (a ++ b)) else .no
  | _, _ => .no
def plusE := op2E plusD
theorem lenSz_ok {n : Nat} (h : lenSz n = true) : n ≤ sizeLine := sz1000000 (lenSz_le h)
theorem Rps.nil_iff {K : PySem.W.Frag} {ca : Str → Addr} {ds : List Dt} {vs : List V} (h : Rps K ca H ds vs) : vs = [] ↔ ds = [] := by
  cases h with
  | nil => simp
  | cons _ _ => simp
theorem se_plus (ha : SemE J Γ (.o .F) Fa ta) (hb : SemE J Γ (.o .F) Fb tb) : SemE J Γ (.o .F) (plusE Fa Fb) (tOp (fun x y H Q => rI0 (fun i j => .int (i + j)) x y H Q ∨ ((∃ i j, x = .str i ∧ y = .str j ∧ i.length + j.length ≤ sizeLine ∧ Q (.str (i ++ j)) H) ∨ (rCat x y H Q ∨ rCatA J.K x y H Q))) ta tb) := fun {G0 H0 G H ρ σ Q} w p => by
  refine ha w (p.bind.imp (fun a _ p1 x G1 H1 _ e1 _ ra => ?_) fun _ q => q)
  refine hb (w.ext e1) (p1.bind.imp (fun b _ q y G2 H2 _ e2 _ rb => ?_) fun _ q H' dx s => q H' dx (e1.h.trans s))
  have e := e1.trans e2
  cases ra with
  | F ra =>
    cases rb with
    | F rb =>
      have ra := ra.mono e2.g
      cases ra with
      | int i =>
        cases rb with
        | int j => exact .inl ⟨i, j, rfl, rfl, q.of_ok _ G2 H2 Pno e Fr.no (.F (.int _))⟩
        | _ => cases q
      | str i =>
        cases rb with
        | str j =>
          by_cases c : lenSz (i.length + j.length) = true
          · have q : Rs.Post _ _ (if lenSz (i.length + j.length) = true then Rs.ok (Dt.str (i ++ j)) else Rs.no) := q
            rw [if_pos c] at q
            exact .inr (.inl ⟨i, j, rfl, rfl, lenSz_ok c, q.of_ok _ G2 H2 Pno e Fr.no (.F (.str _))⟩)
          · have q : Rs.Post _ _ (if lenSz (i.length + j.length) = true then Rs.ok (Dt.str (i ++ j)) else Rs.no) := q
            rw [if_neg c] at q; cases q
        | _ => cases q
      | @lst _ vs ds h1 h2 =>
        cases rb with
        | @lst _ us es k1 k2 =>
          by_cases c : lenSz (ds.length + es.length) = true
          · have q : Rs.Post _ _ (if lenSz (ds.length + es.length) = true then Rs.ok (Dt.lst (ds ++ es)) else Rs.no) := q
            rw [if_pos c] at q
            refine .inr (.inr (.inl ⟨_, _, _, _, rfl, rfl, e2.gh _ _ h1, e2.gh _ _ k1, by rw [← h2.length, ← k2.length]; exact lenSz_ok c, fun a ha => ?_⟩))
            obtain ⟨e4, f4, o4⟩ := new_lst e2.gh ha (h2.append k2)
            obtain ⟨G5, e5, r5, _⟩ := frz_ext e4 f4 o4
            exact q.of_ok _ _ _ Pno (e.trans e5) Fr.no (.F r5)
          · have q : Rs.Post _ _ (if lenSz (ds.length + es.length) = true then Rs.ok (Dt.lst (ds ++ es)) else Rs.no) := q
            rw [if_neg c] at q; cases q
        | _ => cases q
      | @tup _ vs ds h1 h2 =>
        cases rb with
        | @tup _ us es k1 k2 =>
          by_cases c : lenSz (ds.length + es.length) = true
          · have q : Rs.Post _ _ (if lenSz (ds.length + es.length) = true then Rs.ok (Dt.tup (ds ++ es)) else Rs.no) := q
            rw [if_pos c] at q
            refine .inr (.inr (.inr ⟨_, _, _, _, rfl, rfl, .of (e2.gh _ _ h1), .of (e2.gh _ _ k1), by rw [← h2.length, ← k2.length]; exact lenSz_ok c, fun z => ?_, fun z z2 => ?_, fun z z2 a ha => ?_⟩))
            · have z3 := h2.nil_iff.mp z
              subst z3
              exact q.of_ok _ G2 H2 Pno e Fr.no (.F (.tup k1 k2))
            · have z3 := k2.nil_iff.mp z2
              subst z3
              rw [List.append_nil] at q
              exact q.of_ok _ G2 H2 Pno e Fr.no (.F (.tup h1 h2))
            · obtain ⟨e4, o4⟩ := new_tup e2.gh ha (h2.append k2)
              exact q.of_ok _ _ _ Pno (e.trans e4) Fr.no (.F o4)
          · have q : Rs.Post _ _ (if lenSz (ds.length + es.length) = true then Rs.ok (Dt.tup (ds ++ es)) else Rs.no) := q
            rw [if_neg c] at q; cases q
        | _ => cases q
      | _ => cases rb <;> cases q
/-- list + list, looked at; list * int -/
def catD : Dt → Dt → Rs Dt
  | .lst a, .lst b => if lenSz (a.length + b.length) = true then .ok (.lst (a ++ b)) else .no
  | _, _ => .no
def catE := op2E catD
def repD : Dt → Dt → Rs Dt
  | .lst a, .int k => if (lenSz (a.length * k.toNat) && decide (k ≤ 1000000 ∧ -1000000 ≤ k)) = true then .ok (.lst (List.replicate k.toNat a).flatten) else .no
  | _, _ => .no
def repE := op2E repD
theorem S_lst {K : PySem.W.Frag} {ca : Str → Addr} {v : V} {P : Addr → Prop} {ds : List Dt} (h : Res K ca G H .S (.lst ds) v P) : ∃ a vs, v = .ref a ∧ H a = some (.lst vs) ∧ Rps K ca G ds vs := by
  obtain ⟨a, vs, e, sq, r⟩ := h.2 ds (.inl rfl)
  rcases sq with ⟨_, s⟩ | ⟨z, _⟩ | ⟨z, _⟩ <;> try cases z
  exact ⟨a, vs, e, s, r⟩
theorem se_cat (ha : SemE J Γ .S Fa ta) (hb : SemE J Γ .S Fb tb) : SemE J Γ (.o (.L .F)) (catE Fa Fb) (tOp (fun x y H Q => rI0 (fun i j => .int (i + j)) x y H Q ∨ ((∃ i j, x = .str i ∧ y = .str j ∧ i.length + j.length ≤ sizeLine ∧ Q (.str (i ++ j)) H) ∨ (rCat x y H Q ∨ rCatA J.K x y H Q))) ta tb) := fun {G0 H0 G H ρ σ Q} w p => by
  refine ha w (p.bind.imp (fun a _ p1 x G1 H1 _ e1 _ ra => ?_) fun _ q => q)
  refine hb (w.ext e1) (p1.bind.imp (fun b _ q y G2 H2 _ e2 _ rb => ?_) fun _ q H' dx s => q H' dx (e1.h.trans s))
  have e := e1.trans e2
  cases a with
  | lst ds =>
    cases b with
    | lst es =>
      obtain ⟨a, vs, rfl, s1, r1⟩ := S_lst ra
      obtain ⟨b, us, rfl, s2, r2⟩ := S_lst rb
      by_cases c : lenSz (ds.length + es.length) = true
      · have q : Rs.Post _ _ (if lenSz (ds.length + es.length) = true then Rs.ok (Dt.lst (ds ++ es)) else Rs.no) := q
        rw [if_pos c] at q
        refine .inr (.inr (.inl ⟨_, _, _, _, rfl, rfl, e2.h _ _ s1, s2, by rw [← r1.length, ← r2.length]; exact lenSz_ok c, fun a ha => ?_⟩))
        obtain ⟨e4, f4, o4⟩ := new_lst e2.gh ha ((r1.mono e2.g).append r2)
        exact q.of_ok _ _ _ _ (e.trans e4) (fun b hb => ⟨(f4 b hb).1, e.h.free (f4 b hb).2.1, (f4 b hb).2.2⟩) o4
      · have q : Rs.Post _ _ (if lenSz (ds.length + es.length) = true then Rs.ok (Dt.lst (ds ++ es)) else Rs.no) := q
        rw [if_neg c] at q; cases q
    | _ => cases q
  | _ => cases b <;> cases q
theorem se_rep (ha : SemE J Γ .S Fa ta) (hb : SemE J Γ .B Fb tb) : SemE J Γ (.o (.L .F)) (repE Fa Fb) (tOp rRep ta tb) := fun {G0 H0 G H ρ σ Q} w p => by
  refine ha w (p.bind.imp (fun a _ p1 x G1 H1 _ e1 _ ra => ?_) fun _ q => q)
  refine hb (w.ext e1) (p1.bind.imp (fun b _ q y G2 H2 _ e2 _ rb => ?_) fun _ q H' dx s => q H' dx (e1.h.trans s))
  have e := e1.trans e2
  cases a with
  | lst ds =>
    cases rb with
    | int k =>
      obtain ⟨a, vs, rfl, s1, r1⟩ := S_lst ra
      by_cases c : (lenSz (ds.length * k.toNat) && decide (k ≤ 1000000 ∧ -1000000 ≤ k)) = true
      · have q : Rs.Post _ _ (if (lenSz (ds.length * k.toNat) && decide (k ≤ 1000000 ∧ -1000000 ≤ k)) = true then Rs.ok (Dt.lst (List.replicate k.toNat ds).flatten) else Rs.no) := q
        rw [if_pos c] at q
        rw [Bool.and_eq_true] at c
        have c2 := of_decide_eq_true c.2
        refine ⟨_, k, _, rfl, rfl, e2.h _ _ s1, by omega, by omega, by rw [← r1.length]; exact lenSz_ok c.1, fun a ha => ?_⟩
        obtain ⟨e4, f4, o4⟩ := new_lst e2.gh ha ((r1.mono e2.g).flatrep k.toNat)
        exact q.of_ok _ _ _ _ (e.trans e4) (fun b hb => ⟨(f4 b hb).1, e.h.free (f4 b hb).2.1, (f4 b hb).2.2⟩) o4
      · have q : Rs.Post _ _ (if (lenSz (ds.length * k.toNat) && decide (k ≤ 1000000 ∧ -1000000 ≤ k)) = true then Rs.ok (Dt.lst (List.replicate k.toNat ds).flatten) else Rs.no) := q
        rw [if_neg c] at q; cases q
    | _ => cases q
  | _ => cases rb <;> cases q
end
end Pm
namespace Pm
open PySem PySem.Spec PyProof.Rows L2 RZ RT
open Classical
/-! ### what is walked -/
structure Walk (K : PySem.W.Frag) (ca : Str → Addr) (J : It) (G : Hp) (ds : List Dt) : Prop where
  go : ∀ i d G1 H1, ds[i]? = some d → Same G G1 → Same G1 H1 → J.go i H1 ∧ ∀ x H2, J.yld i H1 x H2 → ∃ G2, Ext G1 H1 G2 H2 ∧ Rp K ca G2 d x
  stop : ∀ G1 H1, Same G G1 → Same G1 H1 → J.stop ds.length H1
def SemI (J : Jc) (Γ : List Mode) (F : Ev → Rs (List Dt)) (wi : TI) : Prop := ∀ ⦃G0 H0 G H : Hp⦄ ⦃ρ : Ev⦄ ⦃σ : L2.St⦄ ⦃R : It → Hp → Prop⦄, Wd J G0 H0 Γ ρ σ G H →
  Rs.Post (fun ds => ∀ it G' H', Ext G H G' H' → Walk J.K J.ca it G' ds → R it H') (fun c => ∀ H' dx, Same H H' → XR c dx H' → J.W (.ref (J.ca c.1)) dx σ H') (F ρ) → wi σ H R
section
variable {J : Jc} {Γ : List Mode} {em : EM} {m : Mode} {ms : List Mode} {F Fa Fb : Ev → Rs Dt} {Fs : List (Ev → Rs Dt)} {te ta tb : TE} {tr : TA} {G0 H0 G H G' H' : Hp} {ρ : Ev} {σ : L2.St}
theorem walk_list {K : PySem.W.Frag} {ca : Str → Addr} {a : Addr} {vs : List V} {ds : List Dt} (h : SqL K G a vs) (r : Rps K ca G ds vs) : Walk K ca (Itl K a) G ds := by
  refine ⟨fun i d G1 H1 e g1 g2 => ?_, fun G1 H1 g1 g2 => ⟨vs, g2.seq (g1.seq h), by rw [r.length]; exact Nat.le_refl _⟩⟩
  obtain ⟨v, hv, rv⟩ := r.get e
  refine ⟨⟨vs, v, g2.seq (g1.seq h), hv⟩, fun x H2 y => ?_⟩
  obtain ⟨y1, y2⟩ := y
  subst y1
  have z := y2 vs (g2.seq (g1.seq h))
  rw [hv] at z
  cases z
  exact ⟨G1, Ext.refl g2, rv.mono g1⟩
theorem walk_tup {K : PySem.W.Frag} {ca : Str → Addr} {a : Addr} {vs : List V} {ds : List Dt} (h : SqT K G a vs) (r : Rps K ca G ds vs) : Walk K ca (Itt K a) G ds := by
  refine ⟨fun i d G1 H1 e g1 g2 => ?_, fun G1 H1 g1 g2 => ⟨vs, g2.sqt (g1.sqt h), by rw [r.length]; exact Nat.le_refl _⟩⟩
  obtain ⟨v, hv, rv⟩ := r.get e
  refine ⟨⟨vs, v, g2.sqt (g1.sqt h), hv⟩, fun x H2 y => ?_⟩
  obtain ⟨y1, y2⟩ := y
  subst y1
  have z := y2 vs (g2.sqt (g1.sqt h))
  rw [hv] at z
  cases z
  exact ⟨G1, Ext.refl g2, rv.mono g1⟩
def seqI (F : Ev → Rs Dt) (ρ : Ev) : Rs (List Dt) := F ρ >>= fun d => match d with
  | .lst ds => .ok ds
  | .scr ds => .ok ds
  | .tup ds => .ok ds
  | _ => .no
/-- a list or a tuple walked -/
def iSeqA (K : PySem.W.Frag) (te : TE) : TI := fun σ H R => iList K te σ H R ∨ iTup K te σ H R
theorem pi_seqA {X : Cx} {tg e : Expr} {te : TE} (he : PE X e te) : PI X tg e (iSeqA X.K te) := by
  refine ⟨fun pins s σ H R I h => ?_⟩
  rcases h with h | h
  · exact (pi_list he).run pins s σ H R I h
  · exact (pi_tup he).run pins s σ H R I h
def tupI (F : Ev → Rs Dt) (ρ : Ev) : Rs (List Dt) := F ρ >>= fun d => match d with
  | .tup ds => .ok ds
  | _ => .no
theorem si_seq (h : SemE J Γ (.o .F) F te) : SemI J Γ (seqI F) (iSeqA J.K te) := fun {G0 H0 G H ρ σ R} w p => by
  cases z : F ρ with
  | ex c =>
    refine .inl (h w ?_)
    unfold seqI at p
    rw [z] at p ⊢
    cases p with
    | ex p => exact .ex p
  | no => unfold seqI at p; rw [z] at p; cases p
  | ok d =>
    unfold seqI at p
    rw [z] at p
    cases d with
    | lst ds =>
      refine .inl (h w ?_)
      rw [z]
      exact .ok fun v G1 H1 P1 e1 _ r1 => by
        cases r1 with
        | F r1 =>
          cases r1 with
          | lst h1 h2 => exact ⟨_, rfl, ⟨_, .of (e1.gh _ _ h1)⟩, Rs.Post.of_ok p _ G1 H1 e1 (walk_list (.of h1) h2)⟩
    | scr ds =>
      refine .inl (h w ?_)
      rw [z]
      exact .ok fun v G1 H1 P1 e1 _ r1 => by
        cases r1 with
        | F r1 =>
          cases r1 with
          | scr h1 h2 => exact ⟨_, rfl, ⟨_, e1.gh.seq h1⟩, Rs.Post.of_ok p _ G1 H1 e1 (walk_list h1 h2)⟩
    | tup ds =>
      refine .inr (h w ?_)
      rw [z]
      exact .ok fun v G1 H1 P1 e1 _ r1 => by
        cases r1 with
        | F r1 =>
          cases r1 with
          | tup h1 h2 => exact ⟨_, rfl, ⟨_, .of (e1.gh _ _ h1)⟩, Rs.Post.of_ok p _ G1 H1 e1 (walk_tup (.of h1) h2)⟩
    | _ => cases p
theorem si_tup (h : SemE J Γ (.o .F) F te) : SemI J Γ (tupI F) (iTup J.K te) := fun {G0 H0 G H ρ σ R} w p => by
  refine h w (p.bind.imp (fun d _ q v G1 H1 P1 e1 _ r1 => ?_) fun _ q => q)
  cases r1 with
  | F r1 =>
    cases r1 with
    | tup h1 h2 => exact ⟨_, rfl, ⟨_, .of (e1.gh _ _ h1)⟩, Rs.Post.of_ok q _ G1 H1 e1 (walk_tup (.of h1) h2)⟩
    | _ => cases q
/-- ranges -/
def rangeL (lo : Int) (n : Nat) : List Dt := (List.range n).map fun i => Dt.int (lo + (i : Nat))
theorem walk_range {K : PySem.W.Frag} {ca : Str → Addr} (lo : Int) (n : Nat) : Walk K ca (Itr lo n) G (rangeL lo n) := by
  have hl : (rangeL lo n).length = n := by unfold rangeL; rw [List.length_map, List.length_range]
  refine ⟨fun i d G1 H1 e g1 g2 => ?_, fun G1 H1 g1 g2 => by rw [hl]; exact Nat.le_refl _⟩
  have hi : i < n := by have := (List.getElem?_eq_some_iff.mp e).1; rw [hl] at this; exact this
  refine ⟨hi, fun x H2 y => ?_⟩
  obtain ⟨y1, y2⟩ := y
  subst y1 y2
  have z : d = .int (lo + (i : Nat)) := by
    unfold rangeL at e
    rw [List.getElem?_map, List.getElem?_range hi] at e
    exact (Option.some.inj e).symm
  subst z
  exact ⟨G1, Ext.refl g2, .int _⟩
@[irreducible] def intSz (i : Int) : Bool := decide (-1000000000 ≤ i ∧ i ≤ 1000000000)
theorem intSz_ok {i : Int} (h : intSz i = true) : -1000000000 ≤ i ∧ i ≤ 1000000000 := by
  unfold intSz at h
  exact of_decide_eq_true h
def rng1I (Fs : List (Ev → Rs Dt)) (ρ : Ev) : Rs (List Dt) := argsE Fs ρ >>= fun ds => match ds with
  | [.int j] => if intSz j = true then .ok (rangeL 0 j.toNat) else .no
  | _ => .no
def rng2I (Fs : List (Ev → Rs Dt)) (ρ : Ev) : Rs (List Dt) := argsE Fs ρ >>= fun ds => match ds with
  | [.int i, .int j] => if (intSz i && intSz j) = true then .ok (rangeL i (j - i).toNat) else .no
  | _ => .no
theorem Rps.one {K : PySem.W.Frag} {ca : Str → Addr} {d : Dt} {vs : List V} (h : Rps K ca H [d] vs) : ∃ v, vs = [v] ∧ Rp K ca H d v := by
  cases h with
  | cons h1 h2 => cases h2; exact ⟨_, rfl, h1⟩
theorem Rps.two {K : PySem.W.Frag} {ca : Str → Addr} {d e : Dt} {vs : List V} (h : Rps K ca H [d, e] vs) : ∃ v u, vs = [v, u] ∧ Rp K ca H d v ∧ Rp K ca H e u := by
  cases h with
  | cons h1 h2 =>
    obtain ⟨u, rfl, h3⟩ := h2.one
    exact ⟨_, u, rfl, h1, h3⟩
theorem si_rng1 (h : SemBs J Γ Fs tr) : SemI J Γ (rng1I Fs) (iRng1 tr) := fun {G0 H0 G H ρ σ R} w p => by
  refine h w (p.bind.imp (fun ds _ q vs G1 H1 e1 r1 => ?_) fun _ q => q)
  split at q
  · rename_i j hj
    obtain ⟨v, rfl, r⟩ := r1.one
    cases r
    by_cases c : intSz j = true
    · rw [if_pos c] at q
      have c := intSz_ok c
      exact ⟨j, rfl, by omega, by omega, q.of_ok _ G1 H1 e1 (walk_range 0 _)⟩
    · rw [if_neg c] at q; cases q
  · cases q
theorem si_rng2 (h : SemBs J Γ Fs tr) : SemI J Γ (rng2I Fs) (iRng2 tr) := fun {G0 H0 G H ρ σ R} w p => by
  refine h w (p.bind.imp (fun ds _ q vs G1 H1 e1 r1 => ?_) fun _ q => q)
  split at q
  · rename_i i j hj
    obtain ⟨v, u, rfl, r, r'⟩ := r1.two
    cases r
    cases r'
    by_cases c : (intSz i && intSz j) = true
    · rw [if_pos c] at q
      rw [Bool.and_eq_true] at c
      have c1 := intSz_ok c.1
      have c2 := intSz_ok c.2
      exact ⟨i, j, rfl, by omega, q.of_ok _ G1 H1 e1 (walk_range i _)⟩
    · rw [if_neg c] at q; cases q
  · cases q
/-- zip of two tuples, of two lists, as long as each other -/
def zipL : List Dt → List Dt → List Dt
  | a :: as, b :: bs => .tup [a, b] :: zipL as bs
  | _, _ => []
theorem zipL_get : ∀ {as bs : List Dt} {i : Nat} {d : Dt}, (zipL as bs)[i]? = some d → ∃ a b, as[i]? = some a ∧ bs[i]? = some b ∧ d = .tup [a, b]
  | [], _, i, d, h => by simp [zipL] at h
  | _ :: _, [], i, d, h => by simp [zipL] at h
  | a :: as, b :: bs, 0, d, h => by
    have : Dt.tup [a, b] = d := by simpa [zipL] using h
    exact ⟨a, b, rfl, rfl, this.symm⟩
  | a :: as, b :: bs, i + 1, d, h => by
    obtain ⟨x, y, h1, h2, h3⟩ := zipL_get (as := as) (bs := bs) (i := i) (by simpa [zipL] using h)
    exact ⟨x, y, by simpa using h1, by simpa using h2, h3⟩
theorem zipL_len : ∀ {as bs : List Dt}, (zipL as bs).length = min as.length bs.length
  | [], bs => by simp [zipL]
  | _ :: _, [] => by simp [zipL]
  | a :: as, b :: bs => by
    rw [zipL, List.length_cons, List.length_cons, List.length_cons, zipL_len]
    omega
theorem zipL_length : ∀ {as bs : List Dt}, as.length = bs.length → (zipL as bs).length = as.length
  | [], [], _ => rfl
  | a :: as, b :: bs, h => by
    rw [zipL, List.length_cons, List.length_cons, zipL_length (by simpa using h)]
theorem walk_pairs {K : PySem.W.Frag} {ca : Str → Addr} {J : It} {ds : List Dt} (hgo : ∀ i d G1 H1, ds[i]? = some d → Same G G1 → Same G1 H1 → J.go i H1 ∧ ∀ x H2, J.yld i H1 x H2 → ∃ T a b u v, d = .tup [a, b] ∧ x = .ref T ∧ H1 T = none ∧ H2 = upd H1 T (.tup [u, v]) ∧ Rp K ca G1 a u ∧ Rp K ca G1 b v)
    (hs : ∀ G1 H1, Same G G1 → Same G1 H1 → J.stop ds.length H1) : Walk K ca J G ds := by
  refine ⟨fun i d G1 H1 e g1 g2 => ?_, hs⟩
  obtain ⟨h1, h2⟩ := hgo i d G1 H1 e g1 g2
  refine ⟨h1, fun x H2 y => ?_⟩
  obtain ⟨T, a, b, u, v, rfl, rfl, hT, rfl, ra, rb⟩ := h2 x H2 y
  obtain ⟨e2, o2⟩ := new_tup g2 hT (.cons ra (.cons rb .nil))
  exact ⟨_, e2, o2⟩
theorem walk_zipL {K : PySem.W.Frag} {ca : Str → Addr} {a b : Addr} {vs us : List V} {ds es : List Dt} (h : SqL K G a vs) (k : SqL K G b us) (r : Rps K ca G ds vs) (r2 : Rps K ca G es us) : Walk K ca (Itz K a b) G (zipL ds es) := by
  refine walk_pairs (fun i d G1 H1 e g1 g2 => ?_) fun G1 H1 g1 g2 => ⟨vs, us, g2.seq (g1.seq h), g2.seq (g1.seq k), ?_⟩
  · obtain ⟨x, y, e1, e2, rfl⟩ := zipL_get e
    obtain ⟨v, hv, rv⟩ := r.get e1
    obtain ⟨u, hu, ru⟩ := r2.get e2
    refine ⟨⟨vs, us, v, u, g2.seq (g1.seq h), g2.seq (g1.seq k), hv, hu⟩, fun z H2 q => ?_⟩
    obtain ⟨T, x', y', q1, q2, q3, q4, q5⟩ := q
    have z4 := q4 vs (g2.seq (g1.seq h))
    have z5 := q5 us (g2.seq (g1.seq k))
    rw [hv] at z4
    rw [hu] at z5
    cases z4
    cases z5
    exact ⟨T, x, y, v, u, rfl, q1, q2, q3, rv.mono g1, ru.mono g1⟩
  · rw [zipL_len]
    rw [← r.length, ← r2.length]
    omega
theorem walk_zipT {K : PySem.W.Frag} {ca : Str → Addr} {a b : Addr} {vs us : List V} {ds es : List Dt} (h : SqT K G a vs) (k : SqT K G b us) (r : Rps K ca G ds vs) (r2 : Rps K ca G es us) : Walk K ca (ItzT K a b) G (zipL ds es) := by
  refine walk_pairs (fun i d G1 H1 e g1 g2 => ?_) fun G1 H1 g1 g2 => ⟨vs, us, g2.sqt (g1.sqt h), g2.sqt (g1.sqt k), ?_⟩
  · obtain ⟨x, y, e1, e2, rfl⟩ := zipL_get e
    obtain ⟨v, hv, rv⟩ := r.get e1
    obtain ⟨u, hu, ru⟩ := r2.get e2
    refine ⟨⟨vs, us, v, u, g2.sqt (g1.sqt h), g2.sqt (g1.sqt k), hv, hu⟩, fun z H2 q => ?_⟩
    obtain ⟨T, x', y', q1, q2, q3, q4, q5⟩ := q
    have z4 := q4 vs (g2.sqt (g1.sqt h))
    have z5 := q5 us (g2.sqt (g1.sqt k))
    rw [hv] at z4
    rw [hu] at z5
    cases z4
    cases z5
    exact ⟨T, x, y, v, u, rfl, q1, q2, q3, rv.mono g1, ru.mono g1⟩
  · rw [zipL_len]
    rw [← r.length, ← r2.length]
    omega
def zipI (Fs : List (Ev → Rs Dt)) (ρ : Ev) : Rs (List Dt) := argsE Fs ρ >>= fun ds => match ds with
  | [.lst a, .lst b] => .ok (zipL a b)
  | [.tup a, .tup b] => .ok (zipL a b)
  | _ => .no
theorem si_zip (h : SemZ J Γ [.F, .F] Fs tr) : SemI J Γ (zipI Fs) (iZipA J.K tr) := fun {G0 H0 G H ρ σ R} w p => by
  refine h w (p.bind.imp (fun ds _ q vs G1 H1 P1 e1 _ o1 => ?_) fun _ q => q)
  have r1 := o1.allF rfl
  split at q
  · obtain ⟨v, u, rfl, r, r'⟩ := r1.two
    cases r with
    | lst h1 h2 =>
      cases r' with
      | lst k1 k2 => exact ⟨_, _, _, _, rfl, .inl ⟨.of (e1.gh _ _ h1), .of (e1.gh _ _ k1), q.of_ok _ G1 H1 e1 (walk_zipL (.of h1) (.of k1) h2 k2)⟩⟩
  · obtain ⟨v, u, rfl, r, r'⟩ := r1.two
    cases r with
    | tup h1 h2 =>
      cases r' with
      | tup k1 k2 => exact ⟨_, _, _, _, rfl, .inr ⟨.of (e1.gh _ _ h1), .of (e1.gh _ _ k1), q.of_ok _ G1 H1 e1 (walk_zipT (.of h1) (.of k1) h2 k2)⟩⟩
  · cases q
/-- enumerate of a list -/
def enumL : Nat → List Dt → List Dt
  | _, [] => []
  | n, d :: ds => .tup [.int (n : Nat), d] :: enumL (n + 1) ds
theorem enumL_length : ∀ {n : Nat} {ds : List Dt}, (enumL n ds).length = ds.length
  | _, [] => rfl
  | n, d :: ds => by rw [enumL, List.length_cons, List.length_cons, enumL_length]
theorem enumL_get : ∀ {n : Nat} {ds : List Dt} {i : Nat} {d : Dt}, (enumL n ds)[i]? = some d → ∃ a, ds[i]? = some a ∧ d = .tup [.int ((n + i : Nat) : Int), a]
  | _, [], i, d, h => by simp [enumL] at h
  | n, a :: ds, 0, d, h => by
    have : Dt.tup [.int (n : Nat), a] = d := by simpa [enumL] using h
    exact ⟨a, rfl, this.symm⟩
  | n, a :: ds, i + 1, d, h => by
    obtain ⟨x, h1, h2⟩ := enumL_get (n := n + 1) (ds := ds) (i := i) (by simpa [enumL] using h)
    refine ⟨x, by simpa using h1, ?_⟩
    rw [h2]
    congr 3
    omega
def enumI (Fs : List (Ev → Rs Dt)) (ρ : Ev) : Rs (List Dt) := argsE Fs ρ >>= fun ds => match ds with
  | [.lst a] => .ok (enumL 0 a)
  | [.scr a] => .ok (enumL 0 a)
  | _ => .no
theorem walk_enum {K : PySem.W.Frag} {ca : Str → Addr} {a : Addr} {vs : List V} {ds : List Dt} (h : SqL K G a vs) (r : Rps K ca G ds vs) : Walk K ca (Ite K a) G (enumL 0 ds) := by
  refine walk_pairs (fun i d G1 H1 e g1 g2 => ?_) fun G1 H1 g1 g2 => ⟨vs, g2.seq (g1.seq h), by rw [enumL_length, r.length]; exact Nat.le_refl _⟩
  obtain ⟨x, e1, rfl⟩ := enumL_get e
  obtain ⟨v, hv, rv⟩ := r.get e1
  refine ⟨⟨vs, v, g2.seq (g1.seq h), hv⟩, fun z H2 q => ?_⟩
  obtain ⟨T, x', q1, q2, q3, q4⟩ := q
  have z4 := q4 vs (g2.seq (g1.seq h))
  rw [hv] at z4
  cases z4
  exact ⟨T, _, x, _, v, rfl, q1, q2, q3, by rw [Nat.zero_add]; exact .int _, rv.mono g1⟩
theorem si_enum (h : SemZ J Γ [.F] Fs tr) : SemI J Γ (enumI Fs) (iEnum J.K tr) := fun {G0 H0 G H ρ σ R} w p => by
  refine h w (p.bind.imp (fun ds _ q vs G1 H1 P1 e1 _ o1 => ?_) fun _ q => q)
  have r1 := o1.allF rfl
  split at q
  · obtain ⟨v, rfl, r⟩ := r1.one
    cases r with
    | lst h1 h2 => exact ⟨_, _, rfl, .of (e1.gh _ _ h1), q.of_ok _ G1 H1 e1 (walk_enum (.of h1) h2)⟩
  · obtain ⟨v, rfl, r⟩ := r1.one
    cases r with
    | scr h1 h2 => exact ⟨_, _, rfl, e1.gh.seq h1, q.of_ok _ G1 H1 e1 (walk_enum h1 h2)⟩
  · cases q
/-- reversed -/
def revI (F : Ev → Rs Dt) (ρ : Ev) : Rs (List Dt) := F ρ >>= fun d => match d with
  | .lst ds => .ok ds.reverse
  | .tup ds => .ok ds.reverse
  | _ => .no
theorem rev_get {α : Type} {xs : List α} {i : Nat} {x : α} (h : xs.reverse[i]? = some x) : i < xs.length ∧ xs[xs.length - 1 - i]? = some x := by
  have hi : i < xs.length := by have := (List.getElem?_eq_some_iff.mp h).1; simpa using this
  rw [List.getElem?_reverse hi] at h
  exact ⟨hi, h⟩
theorem walk_revL {K : PySem.W.Frag} {ca : Str → Addr} {a : Addr} {vs : List V} {ds : List Dt} (h : SqL K G a vs) (r : Rps K ca G ds vs) : Walk K ca (Itv K a vs.length) G ds.reverse := by
  refine ⟨fun i d G1 H1 e g1 g2 => ?_, fun G1 H1 g1 g2 => by rw [List.length_reverse, r.length]; exact Nat.le_refl _⟩
  obtain ⟨hi, e⟩ := rev_get e
  obtain ⟨v, hv, rv⟩ := r.get e
  rw [r.length] at hv hi
  refine ⟨⟨hi, vs, v, g2.seq (g1.seq h), hv⟩, fun x H2 y => ?_⟩
  obtain ⟨y1, y2⟩ := y
  subst y1
  have z := y2 vs (g2.seq (g1.seq h))
  rw [hv] at z
  cases z
  exact ⟨G1, Ext.refl g2, rv.mono g1⟩
theorem walk_revT {K : PySem.W.Frag} {ca : Str → Addr} {a : Addr} {vs : List V} {ds : List Dt} (h : SqT K G a vs) (r : Rps K ca G ds vs) : Walk K ca (ItvT K a vs.length) G ds.reverse := by
  refine ⟨fun i d G1 H1 e g1 g2 => ?_, fun G1 H1 g1 g2 => by rw [List.length_reverse, r.length]; exact Nat.le_refl _⟩
  obtain ⟨hi, e⟩ := rev_get e
  obtain ⟨v, hv, rv⟩ := r.get e
  rw [r.length] at hv hi
  refine ⟨⟨hi, vs, v, g2.sqt (g1.sqt h), hv⟩, fun x H2 y => ?_⟩
  obtain ⟨y1, y2⟩ := y
  subst y1
  have z := y2 vs (g2.sqt (g1.sqt h))
  rw [hv] at z
  cases z
  exact ⟨G1, Ext.refl g2, rv.mono g1⟩
theorem si_rev (h : SemE J Γ (.o .F) F te) : SemI J Γ (revI F) (iRevA J.K te) := fun {G0 H0 G H ρ σ R} w p => by
  refine h w (p.bind.imp (fun d _ q v G1 H1 P1 e1 _ r1 => ?_) fun _ q => q)
  cases r1 with
  | F r1 =>
    cases r1 with
    | lst h1 h2 => exact ⟨_, _, rfl, .inl ⟨.of (e1.gh _ _ h1), Rs.Post.of_ok q _ G1 H1 e1 (walk_revL (.of h1) h2)⟩⟩
    | tup h1 h2 => exact ⟨_, _, rfl, .inr ⟨.of (e1.gh _ _ h1), Rs.Post.of_ok q _ G1 H1 e1 (walk_revT (.of h1) h2)⟩⟩
    | _ => cases q
end
end Pm
namespace Pm
open PySem PySem.Spec PyProof.Rows L2
open Classical
/-! ### targets -/
def SemG (J : Jc) (Γ : List Mode) (vs : List Nat) (FG : Dt → Ev → Option Ev) (g : TG) : Prop := ∀ ⦃G0 H0 G H : Hp⦄ ⦃ρ ρ' : Ev⦄ ⦃σ : L2.St⦄ ⦃Q : L2.St → Hp → Prop⦄ ⦃d : Dt⦄ ⦃v : V⦄, Wd J G0 H0 Γ ρ σ G H → Rp J.K J.ca G d v → FG d ρ = some ρ' →
  (∀ σ', wipe σ' vs = wipe σ vs → Wd J G0 H0 Γ ρ' σ' G H → Q σ' H) → g v σ H Q
def SemGs (J : Jc) (Γ : List Mode) (vs : List Nat) (FG : List Dt → Ev → Option Ev) (g : TGs) : Prop := ∀ ⦃G0 H0 G H : Hp⦄ ⦃ρ ρ' : Ev⦄ ⦃σ : L2.St⦄ ⦃Q : L2.St → Hp → Prop⦄ ⦃ds : List Dt⦄ ⦃us : List V⦄, Wd J G0 H0 Γ ρ σ G H → Rps J.K J.ca G ds us → FG ds ρ = some ρ' →
  (∀ σ', wipe σ' vs = wipe σ vs → Wd J G0 H0 Γ ρ' σ' G H → Q σ' H) → g us σ H Q
def nameG (i : Nat) (d : Dt) (ρ : Ev) : Option Ev := some (ρ.set i (some d))
def nilG : List Dt → Ev → Option Ev
  | [], ρ => some ρ
  | _, _ => none
def consG (f : Dt → Ev → Option Ev) (fs : List Dt → Ev → Option Ev) : List Dt → Ev → Option Ev
  | d :: ds, ρ => (f d ρ).bind fun ρ1 => fs ds ρ1
  | [], _ => none
def tupG (n : Nat) (fs : List Dt → Ev → Option Ev) (d : Dt) (ρ : Ev) : Option Ev := match d with
  | .tup ds => if ds.length = n then fs ds ρ else none
  | _ => none
theorem wipe_in {σ : L2.St} {i : Nat} : ∀ {vs : List Nat}, i ∈ vs → (wipe σ vs)[i]? = if i < σ.length then some none else none
  | [], h => by cases h
  | v :: vs, h => by
    show ((wipe σ vs).set v none)[i]? = _
    by_cases e : v = i
    · subst e
      rw [List.getElem?_set, wipe_length]
      simp
    · rw [List.getElem?_set_ne e]
      rcases List.mem_cons.mp h with q | q
      · exact absurd q.symm e
      · exact wipe_in q
theorem wipe_ext {σ τ : L2.St} {vs : List Nat} (hl : σ.length = τ.length) (h : ∀ j, j ∉ vs → σ[j]? = τ[j]?) : wipe σ vs = wipe τ vs := by
  refine List.ext_getElem? fun j => ?_
  by_cases hj : j ∈ vs
  · rw [wipe_in hj, wipe_in hj, hl]
  · rw [wipe_out hj, wipe_out hj]
    exact h j hj
theorem wipe_set {σ : L2.St} {i : Nat} {x : Option V} {vs : List Nat} (h : i ∈ vs) : wipe (σ.set i x) vs = wipe σ vs :=
  wipe_ext (List.length_set ..) fun j hj => List.getElem?_set_ne fun e => hj (by rw [← e]; exact h)
theorem wipe_wipe {σ : L2.St} {vs : List Nat} : wipe (wipe σ vs) vs = wipe σ vs := wipe_ext (wipe_length _ _) fun j hj => wipe_out hj
def wipeE (ρ : Ev) : List Nat → Ev
  | [] => ρ
  | v :: vs => (wipeE ρ vs).set v none
theorem wipeE_length (ρ : Ev) : ∀ vs : List Nat, (wipeE ρ vs).length = ρ.length
  | [] => rfl
  | v :: vs => by unfold wipeE; rw [List.length_set, wipeE_length ρ vs]
theorem wipeE_some {ρ : Ev} {i : Nat} {x : Dt} : ∀ {vs : List Nat}, (wipeE ρ vs)[i]? = some (some x) → ρ[i]? = some (some x) ∧ i ∉ vs
  | [], h => ⟨h, by simp⟩
  | v :: vs, h => by
    unfold wipeE at h
    by_cases hi : v = i
    · subst hi
      by_cases hv : v < (wipeE ρ vs).length
      · rw [List.getElem?_set_self hv] at h; cases h
      · rw [List.getElem?_eq_none (by simpa using hv)] at h; cases h
    · rw [List.getElem?_set_ne hi] at h
      obtain ⟨h1, h2⟩ := wipeE_some h
      exact ⟨h1, by simp only [List.mem_cons, not_or]; exact ⟨fun e => hi e.symm, h2⟩⟩
section
variable {J : Jc} {Γ : List Mode} {em : EM} {m : Mode} {ms : List Mode} {F Fa Fb : Ev → Rs Dt} {Fs : List (Ev → Rs Dt)} {te ta tb : TE} {tr : TA} {G0 H0 G H G' H' : Hp} {ρ : Ev} {σ : L2.St} {vs : List Nat}
theorem Wd.nw (w : Wd J G0 H0 Γ ρ σ G H) : Wd J.nw G0 H0 Γ ρ σ G H := ⟨w.x, w.lg, w.lr, w.env, fun _ _ h => nomatch h⟩
theorem Wd.wipe (w : Wd J G0 H0 Γ ρ σ G H) (vs : List Nat) (hp : J.pin = []) : Wd J G0 H0 Γ (wipeE ρ vs) (L2.wipe σ vs) G H := by
  obtain ⟨Pf, h1, h2, h3⟩ := w.env
  refine ⟨w.x, by rw [wipeE_length]; exact w.lg, by rw [wipeE_length, wipe_length]; exact w.lr, ⟨Pf, h1, h2, fun i d q => ?_⟩, fun _ v h => by rw [hp] at h; cases h⟩
  obtain ⟨q1, q2⟩ := wipeE_some q
  obtain ⟨v, m, s1, s2, s3⟩ := h3 i d q1
  exact ⟨v, m, by rw [wipe_out q2]; exact s1, s2, s3⟩
theorem set_same {Γ : List Mode} {i : Nat} (h : Γ[i]? = some m) : Γ.set i m = Γ := by
  refine List.ext_getElem? fun j => ?_
  rw [List.getElem?_set]
  split
  · rename_i e
    subst e
    have hl := (List.getElem?_eq_some_iff.mp h).1
    rw [if_pos hl, h]
  · rfl
theorem sg_name {i : Nat} (hm : Γ[i]? = some .F := by rfl) (hv : i ∈ vs := by decide) (hp : J.free i := by rfl) : SemG J Γ vs (nameG i) (gName i) := fun {G0 H0 G H ρ ρ' σ Q d v} w r e k => by
  cases e
  have w2 := w.set (Ext.refl w.gh) (.F (P := Pno) r) (Fr.no (G := G)) i hp
  rw [set_same hm] at w2
  exact k _ (wipe_set hv) w2
theorem sgs_nil : SemGs J Γ vs nilG gNil := fun {G0 H0 G H ρ ρ' σ Q ds us} w r e k => by
  cases ds with
  | nil =>
    cases e
    cases r
    exact ⟨rfl, k σ rfl w⟩
  | cons _ _ => cases e
theorem sgs_cons {f : Dt → Ev → Option Ev} {fs : List Dt → Ev → Option Ev} {g : TG} {gs : TGs} (h : SemG J Γ vs f g) (k : SemGs J Γ vs fs gs) : SemGs J Γ vs (consG f fs) (gCons g gs) := fun {G0 H0 G H ρ ρ' σ Q ds us} w r e l => by
  cases ds with
  | nil => cases e
  | cons d ds =>
    cases r with
    | cons r1 r2 =>
      have e : (f d ρ).bind (fun ρ1 => fs ds ρ1) = some ρ' := e
      cases q : f d ρ with
      | none => rw [q] at e; cases e
      | some ρ1 =>
        rw [q] at e
        refine ⟨_, _, rfl, h w r1 q fun σ1 z w1 => ?_⟩
        exact k w1 r2 e fun σ2 z2 w2 => l σ2 (z2.trans z) w2
theorem sg_tup {n : Nat} {fs : List Dt → Ev → Option Ev} {gs : TGs} (k : SemGs J Γ vs fs gs) : SemG J Γ vs (tupG n fs) (gTup J.K n gs) := fun {G0 H0 G H ρ ρ' σ Q d v} w r e l => by
  cases r with
  | @tup a us ds h1 h2 =>
    have e : (if ds.length = n then fs ds ρ else none) = some ρ' := e
    split at e
    · rename_i hn
      exact ⟨_, _, rfl, .of (w.gh _ _ h1), by rw [← h2.length]; exact hn, k w h2 e l⟩
    · cases e
  | _ => cases e
/-! ### comprehensions -/
def compL (FG : Dt → Ev → Option Ev) (Ft : Ev → Rs Bool) (Fe : Ev → Rs Dt) (ρ : Ev) : List Dt → Rs (List Dt)
  | [] => .ok []
  | d :: ds => match FG d ρ with
    | none => .no
    | some ρ1 => Ft ρ1 >>= fun b => if b = true then Fe ρ1 >>= fun y => compL FG Ft Fe ρ ds >>= fun ys => .ok (y :: ys) else compL FG Ft Fe ρ ds
def noEx {α : Type} : Rs α → Rs α
  | .ok a => .ok a
  | _ => .no
def compE (Fi : Ev → Rs (List Dt)) (vs : List Nat) (FG : Dt → Ev → Option Ev) (Ft : Ev → Rs Bool) (Fe : Ev → Rs Dt) (ρ : Ev) : Rs Dt := Fi ρ >>= fun ds => if lenSz ds.length = true then noEx (compL FG Ft Fe (wipeE ρ vs) ds) >>= fun ys => .ok (.lst ys) else .no
def yesT (_ : Ev) : Rs Bool := .ok true
theorem st_yes : SemT J Γ yesT tYes := fun {G0 H0 G H ρ σ Q} w p => p.of_ok G H (Ext.refl w.gh)
theorem Ows.append {K : PySem.W.Frag} {ca : Str → Addr} : ∀ {ds : List Dt} {es : List Dt} {ms ns : List Mode} {vs us : List V} {P1 P2 P : Addr → Prop}, Ows K ca G H ms ds vs P1 → Ows K ca G H ns es us P2 → (∀ b, P1 b → P b) → (∀ b, P2 b → P b) → (∀ b, P1 b → ¬ P2 b) → Ows K ca G H (ms ++ ns) (ds ++ es) (vs ++ us) P
  | [], es, ms, ns, vs, us, P1, P2, P, h, k, q1, q2, q3 => by
    cases h
    exact k.weaken q2
  | d :: ds, es, ms, ns, vs, us, P1, P2, P, h, k, q1, q2, q3 => by
    cases h with
    | @cons _ _ _ _ _ _ _ A B h1 h2 r1 r2 r3 =>
      refine .cons (P1 := A) (P2 := fun b => B b ∨ P2 b) h1 (Ows.append h2 k (fun _ => .inl) (fun _ => .inr) fun b hb => q3 b (r2 b hb)) (fun b hb => q1 b (r1 b hb)) (fun b hb => hb.elim (fun z => q1 b (r2 b z)) (q2 b)) fun b hb z => ?_
      rcases z with z | z
      · exact r3 b hb z
      · exact q3 b (r1 b hb) z
theorem Ext.mut {p : Addr} {o : HO} (e : Ext G H G' H') (hp : H p = none) (hg : G' p = none) : Ext G H G' (L2.upd H' p o) := by
  refine ⟨e.g, fun a u q => ?_, fun a u q => ?_, e.base⟩
  · rw [upd_ne fun z => by rw [z, hp] at q; cases q]
    exact e.h a u q
  · rw [upd_ne fun z => by rw [z, hg] at q; cases q]
    exact e.gh a u q
theorem bind_ok {α β : Type} {r : Rs α} {f : α → Rs β} {b : β} (h : (r >>= f) = .ok b) : ∃ a, r = .ok a ∧ f a = .ok b := by
  cases r with
  | ok a => exact ⟨a, rfl, h⟩
  | ex c => cases h
  | no => cases h
theorem noEx_ok {α : Type} {r : Rs α} {a : α} (h : noEx r = .ok a) : r = .ok a := by
  cases r with
  | ok b => exact h
  | ex c => cases h
  | no => cases h
variable {Fi : Ev → Rs (List Dt)} {wi : TI} {FG : Dt → Ev → Option Ev} {g : TG} {Ft : Ev → Rs Bool} {tt : TT} {Fe : Ev → Rs Dt}
/-- what is walked, from here on -/
structure WalkX (K : PySem.W.Frag) (ca : Str → Addr) (it : It) (G H : Hp) (ds : List Dt) : Prop where
  go : ∀ i d G1 H1, ds[i]? = some d → Ext G H G1 H1 → it.go i H1 ∧ ∀ x H2, it.yld i H1 x H2 → ∃ G2, Ext G1 H1 G2 H2 ∧ Rp K ca G2 d x
  stop : ∀ G1 H1, Ext G H G1 H1 → it.stop ds.length H1
def SemIX (J : Jc) (Γ : List Mode) (F : Ev → Rs (List Dt)) (wi : TI) : Prop := ∀ ⦃G0 H0 G H : Hp⦄ ⦃ρ : Ev⦄ ⦃σ : L2.St⦄ ⦃R : It → Hp → Prop⦄, Wd J G0 H0 Γ ρ σ G H →
  Rs.Post (fun ds => ∀ it G' H', Ext G H G' H' → WalkX J.K J.ca it G' H' ds → R it H') (fun c => ∀ H' dx, Same H H' → XR c dx H' → J.W (.ref (J.ca c.1)) dx σ H') (F ρ) → wi σ H R
theorem six (h : SemI J Γ Fi wi) : SemIX J Γ Fi wi := fun {G0 H0 G H ρ σ R} w p => h w (p.imp (fun ds _ q it G1 H1 e1 wk => q it G1 H1 e1 ⟨fun i d G2 H2 e E => wk.go i d G2 H2 e E.g E.gh, fun G2 H2 E => wk.stop G2 H2 E.g E.gh⟩) fun _ q => q)
/-- a list looked at -/
theorem si_seqX (h : SemE J Γ .S Fa ta) : SemIX J Γ (seqI Fa) (iSeqA J.K ta) := fun {G0 H0 G H ρ σ R} w p => by
  cases z : Fa ρ with
  | ex c =>
    refine .inl (h w ?_)
    unfold seqI at p
    rw [z] at p ⊢
    cases p with
    | ex p => exact .ex p
  | no => unfold seqI at p; rw [z] at p; cases p
  | ok d =>
    unfold seqI at p
    rw [z] at p
    cases d with
    | lst ds =>
      refine .inl (h w ?_)
      rw [z]
      exact .ok fun v G1 H1 P1 e1 _ r1 => by
        obtain ⟨a, vs, rfl, s, r⟩ := S_lst r1
        refine ⟨a, rfl, ⟨vs, .of s⟩, Rs.Post.of_ok p _ G1 H1 e1 ⟨fun i d G2 H2 e E => ?_, fun G2 H2 E => ⟨vs, .of (E.h _ _ s), by rw [r.length]; exact Nat.le_refl _⟩⟩⟩
        obtain ⟨v, hv, rv⟩ := r.get e
        have s2 := E.h _ _ s
        refine ⟨⟨vs, v, .of s2, hv⟩, fun x H3 y => ?_⟩
        obtain ⟨y1, y2⟩ := y
        subst y1
        have u := y2 vs (.of s2)
        rw [hv] at u
        cases u
        exact ⟨G2, Ext.refl E.gh, rv.mono E.g⟩
    | scr ds =>
      refine .inl (h w ?_)
      rw [z]
      exact .ok fun v G1 H1 P1 e1 _ r1 => by
        obtain ⟨a, vs, ev, sq, r⟩ := r1.2 ds (.inr (.inl rfl))
        rcases sq with ⟨z, _⟩ | ⟨_, s⟩ | ⟨z, _⟩ <;> try cases z
        refine ⟨a, ev, ⟨vs, s⟩, Rs.Post.of_ok p _ G1 H1 e1 ⟨fun i d G2 H2 e E => ?_, fun G2 H2 E => ⟨vs, E.h.seq s, by rw [r.length]; exact Nat.le_refl _⟩⟩⟩
        obtain ⟨v, hv, rv⟩ := r.get e
        have s2 := E.h.seq s
        refine ⟨⟨vs, v, s2, hv⟩, fun x H3 y => ?_⟩
        obtain ⟨y1, y2⟩ := y
        subst y1
        have u := y2 vs s2
        rw [hv] at u
        cases u
        exact ⟨G2, Ext.refl E.gh, rv.mono E.g⟩
    | tup ds =>
      refine .inr (h w ?_)
      rw [z]
      exact .ok fun v G1 H1 P1 e1 _ r1 => by
        obtain ⟨a, vs, ev, sq, r⟩ := r1.2 ds (.inr (.inr rfl))
        rcases sq with ⟨z, _⟩ | ⟨z, _⟩ | ⟨_, s⟩ <;> try cases z
        refine ⟨a, ev, ⟨vs, .of s⟩, Rs.Post.of_ok p _ G1 H1 e1 ⟨fun i d G2 H2 e E => ?_, fun G2 H2 E => ⟨vs, .of (E.h _ _ s), by rw [r.length]; exact Nat.le_refl _⟩⟩⟩
        obtain ⟨v, hv, rv⟩ := r.get e
        have s2 := E.h _ _ s
        refine ⟨⟨vs, v, .of s2, hv⟩, fun x H3 y => ?_⟩
        obtain ⟨y1, y2⟩ := y
        subst y1
        have u := y2 vs (.of s2)
        rw [hv] at u
        cases u
        exact ⟨G2, Ext.refl E.gh, rv.mono E.g⟩
    | _ => cases p
theorem se_comp (hi : SemIX J Γ Fi wi) (hg : SemG J.nw Γ vs FG g) (ht : SemT J.nw Γ Ft tt) (he : SemE J.nw Γ (.o m) Fe te) : SemE J Γ (.o (.L m)) (compE Fi vs FG Ft Fe) (tLc wi g tt te vs) := fun {G0 H0 G H ρ σ Q} w p => by
  refine hi w (p.bind.imp (fun ds _ q it G1 H1 e1 wk D hD => ?_) fun _ q => q)
  by_cases c : lenSz ds.length = true
  case neg => rw [if_neg c] at q; cases q
  rw [if_pos c] at q
  have c := lenSz_le c
  cases hn : noEx (compL FG Ft Fe (wipeE ρ vs) ds) with
  | ex z => rw [hn] at q; cases hz : compL FG Ft Fe (wipeE ρ vs) ds <;> rw [hz] at hn <;> cases hn
  | no => rw [hn] at q; cases q
  | ok total =>
  rw [hn, ok_bind] at q
  have hn := noEx_ok hn
  have fin := q.of_ok
  let St : Nat → Hp → Prop := fun i Hi => ∃ (G2 : Hp) (aD : List Dt) (aV : List V) (P : Addr → Prop) (ys : List Dt), Ext G1 H1 G2 Hi ∧ Hi D = some (.lst aV) ∧ G2 D = none ∧ Ows J.K J.ca G2 Hi (List.replicate aD.length m) aD aV P ∧ (∀ b, P b → G2 b = none ∧ H1 b = none ∧ Hi b ≠ none ∧ b ≠ D) ∧
    aD.length ≤ i ∧ compL FG Ft Fe (wipeE ρ vs) (ds.drop i) = .ok ys ∧ aD ++ ys = total
  refine ⟨fun i n Hi => n = ds.length - i ∧ i ≤ ds.length ∧ St i Hi, ⟨ds.length, by simp, Nat.zero_le _, G1, [], [], Pno, total, ?_, upd_same, e1.gh.free hD, .nil, fun _ z => z.elim, Nat.le_refl _, by simpa using hn, rfl⟩, ?_⟩
  · exact (Ext.refl e1.gh).mut hD (e1.gh.free hD)
  rintro i n Hi ⟨rfl, hi, G2, aD, aV, P, ys, E, hDi, gD, own, pr, la, hc, tot⟩
  by_cases hlt : i < ds.length
  case neg =>
    have ei : i = ds.length := by omega
    subst ei
    refine .inl ⟨wk.stop G2 Hi E, ?_⟩
    have z : compL FG Ft Fe (wipeE ρ vs) (ds.drop ds.length) = .ok [] := by rw [List.drop_length]; rfl
    rw [z] at hc
    cases hc
    rw [List.append_nil] at tot
    subst tot
    refine fin _ G2 Hi (fun b => b = D ∨ P b) (e1.trans E) (fun b hb => ?_) (.L hDi gD (.inl rfl) (own.weaken fun b hb => ⟨.inr hb, (pr b hb).2.2.2⟩))
    rcases hb with rfl | hb
    · exact ⟨gD, e1.h.free hD, by rw [hDi]; exact fun z => by cases z⟩
    · exact ⟨(pr b hb).1, e1.h.free (pr b hb).2.1, (pr b hb).2.2.1⟩
  obtain ⟨go, step⟩ := wk.go i ds[i] G2 Hi (by simp [hlt]) E
  refine .inr ⟨go, fun H' => ∃ m', m' < ds.length - i ∧ (m' = ds.length - (i + 1) ∧ i + 1 ≤ ds.length ∧ St (i + 1) H'), fun H' z => z, fun x H3 y => ?_⟩
  obtain ⟨G3, e3, rx⟩ := step x H3 y
  have hdrop : ds.drop i = ds[i] :: ds.drop (i + 1) := List.drop_eq_getElem_cons hlt
  rw [hdrop] at hc
  have hc : (match FG ds[i] (wipeE ρ vs) with
    | none => Rs.no
    | some ρ1 => Ft ρ1 >>= fun b => if b = true then Fe ρ1 >>= fun y => compL FG Ft Fe (wipeE ρ vs) (ds.drop (i + 1)) >>= fun ys => .ok (y :: ys) else compL FG Ft Fe (wipeE ρ vs) (ds.drop (i + 1))) = .ok ys := hc
  cases hF : FG ds[i] (wipeE ρ vs) with
  | none => rw [hF] at hc; cases hc
  | some ρ1 =>
  rw [hF] at hc
  obtain ⟨b, hb, hc⟩ := bind_ok hc
  have w3 : Wd J.nw G0 H0 Γ (wipeE ρ vs) (L2.wipe σ vs) G3 H3 := ((w.ext e1).ext (E.trans e3)).nw.wipe vs rfl
  refine hg w3 rx hF fun σ2 hw w4 => ⟨hw.trans wipe_wipe, ?_⟩
  refine ht w4 ?_
  rw [hb]
  refine .ok fun G4 H4 e4 => ?_
  have E4 : Ext G1 H1 G4 H4 := (E.trans e3).trans e4
  have carry : ∀ {G5 H5 : Hp}, Ext G2 Hi G5 H5 → Ows J.K J.ca G5 H5 (List.replicate aD.length m) aD aV P ∧ (∀ b, P b → G5 b = none ∧ H1 b = none ∧ H5 b ≠ none ∧ b ≠ D) := fun {G5 H5} e5 =>
    ⟨own.carry e5.g fun b hb => ⟨e5.h.at (pr b hb).2.2.1, by rw [e5.base b (pr b hb).2.2.1]; exact (pr b hb).1⟩, fun b hb => ⟨by rw [e5.base b (pr b hb).2.2.1]; exact (pr b hb).1, (pr b hb).2.1, e5.h.nn (pr b hb).2.2.1, (pr b hb).2.2.2⟩⟩
  have hDi0 : Hi D ≠ none := by rw [hDi]; exact fun z => by cases z
  cases b with
  | false =>
    obtain ⟨o4, p4⟩ := carry (e3.trans e4)
    show ∃ m', _
    refine ⟨ds.length - (i + 1), by omega, rfl, hlt, G4, aD, aV, P, ys, E4, (e3.trans e4).h _ _ hDi, by rw [(e3.trans e4).base D hDi0]; exact gD, o4, p4, by omega, hc, tot⟩
  | true =>
    show te σ2 H4 _
    have hc : (Fe ρ1 >>= fun y => compL FG Ft Fe (wipeE ρ vs) (ds.drop (i + 1)) >>= fun ys => .ok (y :: ys)) = .ok ys := hc
    obtain ⟨yD, hy, hc⟩ := bind_ok hc
    obtain ⟨ys2, hys, hc⟩ := bind_ok hc
    cases hc
    refine he (w4.ext e4) ?_
    rw [hy]
    refine .ok fun v G5 H5 P5 e5 f5 o5 => ?_
    have e25 := (e3.trans e4).trans e5
    obtain ⟨o6, p6⟩ := carry e25
    have hD5 : H5 D = some (.lst aV) := e25.h _ _ hDi
    have gD5 : G5 D = none := by rw [e25.base D hDi0]; exact gD
    refine ⟨aV, hD5, ?_, ds.length - (i + 1), by omega, rfl, hlt, G5, aD ++ [yD], aV ++ [v], fun b => P b ∨ P5 b, ys2, (E.trans e25).mut hD gD5, upd_same, gD5, ?_, fun b hb => ?_, by rw [List.length_append, List.length_singleton]; omega, hys, by rw [List.append_assoc]; exact tot⟩
    · rw [← own.len.1]
      exact Nat.lt_of_lt_of_le (Nat.lt_of_le_of_lt la hlt) (sz1000000 c)
    · rw [List.length_append, List.length_singleton, List.replicate_succ']
      have nD5 : ∀ b, P5 b → b ≠ D := fun b hb z => by
        have := (f5 b hb).2.1
        rw [z, (e3.trans e4).h _ _ hDi] at this
        cases this
      refine Ows.append (P1 := P) (P2 := P5) (o6.carry (Same.refl _) fun b hb => ⟨upd_ne (p6 b hb).2.2.2, (p6 b hb).1⟩) (.cons (P1 := P5) (P2 := Pno) (o5.carry (Same.refl _) fun b hb => ⟨upd_ne (nD5 b hb), (f5 b hb).1⟩) .nil (fun _ z => z) (fun _ z => z.elim) (fun _ _ z => z)) (fun _ => .inl) (fun _ => .inr) fun b h1 h2 => ?_
      exact (pr b h1).2.2.1 ((e3.trans e4).h.free (f5 b h2).2.1)
    · rcases hb with hb | hb
      · obtain ⟨a1, a2, a3, a4⟩ := p6 b hb
        exact ⟨a1, a2, by rw [upd_ne a4]; exact a3, a4⟩
      · have nb : b ≠ D := fun z => by
          have := (f5 b hb).2.1
          rw [z, (e3.trans e4).h _ _ hDi] at this
          cases this
        exact ⟨(f5 b hb).1, E4.h.free (f5 b hb).2.1, by rw [upd_ne nb]; exact (f5 b hb).2.2, nb⟩
end
end Pm
namespace Pm
open PySem PySem.Spec PyProof.Rows L2
open Classical
/-! ### statements -/
inductive Ot where
  | nx (ρ : Ev) | rt (d : Dt) | bk (ρ : Ev) | ct (ρ : Ev) | ex (c : Xn) (ρ : Ev) | no
inductive PostS (J : Jc) (G0 H0 Gs : Hp) (Γ' : List Mode) (D : Ends) : Ot → Prop where
  | nx {ρ' : Ev} : (∀ σ' G' H', Same Gs G' → Wd J G0 H0 Γ' ρ' σ' G' H' → D.nx σ' H') → PostS J G0 H0 Gs Γ' D (.nx ρ')
  | rt {d : Dt} : (∀ v G' H' P, Ext G0 H0 G' H' → Fr G' H0 H' P → Ow J.K J.ca G' H' J.mr d v P → D.rt v H') → PostS J G0 H0 Gs Γ' D (.rt d)
  | bk {ρ' : Ev} : (∀ σ' G' H', Same Gs G' → Wd J G0 H0 J.gb ρ' σ' G' H' → D.bk σ' H') → PostS J G0 H0 Gs Γ' D (.bk ρ')
  | ct {ρ' : Ev} : (∀ σ' G' H', Same Gs G' → Wd J G0 H0 J.gb ρ' σ' G' H' → D.ct σ' H') → PostS J G0 H0 Gs Γ' D (.ct ρ')
  | ex {c : Xn} {ρ' : Ev} : (∀ dx σ' H', Same H0 H' → XR c dx H' → (∀ Γ1, J.gx = some Γ1 → ∃ G', Same Gs G' ∧ Wd J G0 H0 Γ1 ρ' σ' G' H') → J.W (.ref (J.ca c.1)) dx σ' H') → PostS J G0 H0 Gs Γ' D (.ex c ρ')
def SemS (J : Jc) (Γ Γ' : List Mode) (F : Ev → Ot) (ts : TS) : Prop := ∀ ⦃G0 H0 G H : Hp⦄ ⦃ρ : Ev⦄ ⦃σ : L2.St⦄ ⦃D : Ends⦄, Wd J G0 H0 Γ ρ σ G H → PostS J G0 H0 G Γ' D (F ρ) → ts D σ H
def bindS {α : Type} (r : Rs α) (ρ : Ev) (k : α → Ot) : Ot := match r with
  | .ok a => k a
  | .ex c => .ex c ρ
  | .no => .no
theorem bindS_ok {α : Type} {a : α} {ρ : Ev} {k : α → Ot} : bindS (.ok a) ρ k = k a := rfl
def Gx (J : Jc) (Γ : List Mode) : Prop := J.gx = none ∨ J.gx = some Γ
section
variable {J : Jc} {Γ Γ' Γ1 Γ2 : List Mode} {em : EM} {m : Mode} {ms : List Mode} {Fe Fa Fb : Ev → Rs Dt} {Fs : List (Ev → Rs Dt)} {te ta tb : TE} {tr : TA} {G0 H0 Gs G H G' H' : Hp} {ρ : Ev} {σ : L2.St} {vs : List Nat}
  {F F1 F2 : Ev → Ot} {ts t1 t2 : TS} {D : Ends}
theorem exS {c : Xn} (w : Wd J G0 H0 Γ ρ σ G H) (hx : Gx J Γ) (p : PostS J G0 H0 G Γ' D (.ex c ρ)) : ∀ H1 dx, Same H H1 → XR c dx H1 → J.W (.ref (J.ca c.1)) dx σ H1 := fun H1 dx s xr => by
  cases p with
  | ex p =>
    refine p dx σ H1 (w.x.h.trans s) xr fun Γ1 z => ?_
    rcases hx with h | h
    · rw [h] at z; cases z
    · rw [h] at z
      cases z
      exact ⟨G, Same.refl _, w.heap s⟩
theorem PostS.bind {α : Type} {r : Rs α} {k : α → Ot} (w : Wd J G0 H0 Γ ρ σ G H) (hx : Gx J Γ) (p : PostS J G0 H0 G Γ' D (bindS r ρ k)) : Rs.Post (fun a => PostS J G0 H0 G Γ' D (k a)) (fun c => ∀ H1 dx, Same H H1 → XR c dx H1 → J.W (.ref (J.ca c.1)) dx σ H1) r := by
  cases r with
  | ok a => exact .ok p
  | ex c => exact .ex (exS w hx p)
  | no => cases p
theorem PostS.up {o : Ot} (e : Same Gs G') (p : PostS J G0 H0 Gs Γ' D o) : PostS J G0 H0 G' Γ' D o := by
  cases p with
  | nx p => exact .nx fun a b c d => p a b c (e.trans d)
  | rt p => exact .rt p
  | bk p => exact .bk fun a b c d => p a b c (e.trans d)
  | ct p => exact .ct fun a b c d => p a b c (e.trans d)
  | ex p => exact .ex fun a b c d x k => p a b c d x fun Γ1 z => (k Γ1 z).imp fun _ q => ⟨e.trans q.1, q.2⟩
theorem PostS.of_nx {ρ' : Ev} (p : PostS J G0 H0 Gs Γ' D (.nx ρ')) : ∀ σ' G' H', Same Gs G' → Wd J G0 H0 Γ' ρ' σ' G' H' → D.nx σ' H' := by
  cases p with
  | nx p => exact p
theorem PostS.of_rt {d : Dt} (p : PostS J G0 H0 Gs Γ' D (.rt d)) : ∀ v G' H' P, Ext G0 H0 G' H' → Fr G' H0 H' P → Ow J.K J.ca G' H' J.mr d v P → D.rt v H' := by
  cases p with
  | rt p => exact p
def nextS (ρ : Ev) : Ot := .nx ρ
def seqS (F1 F2 : Ev → Ot) (ρ : Ev) : Ot := match F1 ρ with
  | .nx ρ1 => F2 ρ1
  | o => o
theorem ss_next : SemS J Γ Γ nextS tNext := fun {G0 H0 G H ρ σ D} w p => p.of_nx σ G H (Same.refl _) w
theorem ss_seq (h : SemS J Γ Γ1 F1 t1) (k : SemS J Γ1 Γ2 F2 t2) : SemS J Γ Γ2 (seqS F1 F2) (tSeq t1 t2) := fun {G0 H0 G H ρ σ D} w p => by
  refine h (D := { D with nx := t2 D }) w ?_
  unfold seqS at p
  cases q : F1 ρ with
  | nx ρ1 =>
    rw [q] at p
    exact .nx fun σ' G' H' sg w' => k w' (p.up sg)
  | rt d =>
    rw [q] at p
    cases p with
    | rt p => exact .rt p
  | bk r =>
    rw [q] at p
    cases p with
    | bk p => exact .bk p
  | ct r =>
    rw [q] at p
    cases p with
    | ct p => exact .ct p
  | ex c r =>
    rw [q] at p
    cases p with
    | ex p => exact .ex p
  | no => rw [q] at p; cases p
/-- from here on a name is frozen -/
theorem ss_frz {i : Nat} (h : SemS J (Γ.set i .F) Γ' F ts) : SemS J Γ Γ' F ts := fun {G0 H0 G H ρ σ D} w p => by
  obtain ⟨Pf, h1, h2, h3⟩ := w.env
  have sg : Same G (fun b => if Pf i b then H b else G b) := fun a u q => by
    show (if Pf i a then H a else G a) = some u
    by_cases z : Pf i a
    · rw [if_pos z]; exact w.gh a u q
    · rw [if_neg z]; exact q
  refine h (G := fun b => if Pf i b then H b else G b) ⟨⟨w.x.g.trans sg, w.x.h, fun a u q => ?_, fun a q => ?_⟩, by rw [List.length_set]; exact w.lg, w.lr, ⟨fun j a => j ≠ i ∧ Pf j a, fun j k a q r s => h1 j k a q r.2 s.2, fun j a q => ?_, fun j d q => ?_⟩, w.pn⟩ (p.up sg)
  · have q : (if Pf i a then H a else G a) = some u := q
    by_cases z : Pf i a
    · rw [if_pos z] at q; exact q
    · rw [if_neg z] at q; exact w.gh a u q
  · show (if Pf i a then H a else G a) = G0 a
    rw [if_neg fun z => q (h2 i a z).2.1]
    exact w.x.base a q
  · obtain ⟨q0, q⟩ := q
    refine ⟨?_, (h2 j a q).2⟩
    show (if Pf i a then H a else G a) = none
    rw [if_neg (h1 j i a q0 q)]
    exact (h2 j a q).1
  · obtain ⟨v, m, s1, s2, s3⟩ := h3 j d q
    by_cases hj : j = i
    · subst hj
      refine ⟨v, .F, s1, List.getElem?_set_self (List.getElem?_eq_some_iff.mp s2).1, .F (s3.freeze sg fun b hb => if_pos hb)⟩
    · refine ⟨v, m, s1, by rw [List.getElem?_set_ne (Ne.symm hj)]; exact s2, (s3.carry sg fun b hb => ⟨rfl, ?_⟩).weaken fun b hb => ⟨hj, hb⟩⟩
      show (if Pf i b then H b else G b) = none
      rw [if_neg (h1 j i b hj hb)]
      exact (h2 j b hb).1
def asgS (i : Nat) (Fe : Ev → Rs Dt) (ρ : Ev) : Ot := bindS (Fe ρ) ρ fun d => .nx (ρ.set i (some d))
theorem ss_asg {i : Nat} (h : SemE J Γ (.o m) Fe te) (hx : Gx J Γ) (hp : J.free i := by rfl) : SemS J Γ (Γ.set i m) (asgS i Fe) (tAsg te (gName i)) := fun {G0 H0 G H ρ σ D} w p =>
  h w ((p.bind w hx).imp (fun d _ q v G1 H1 P e f o => q.of_nx _ G1 H1 e.g (w.set e o f i hp)) fun _ q => q)
/-- the name frozen before stays frozen -/
theorem ss_asgF {i : Nat} (h : SemE J Γ (.o .F) Fe te) (hx : Gx J Γ) (hm : Γ[i]? = some .F := by rfl) (hp : J.free i := by rfl) : SemS J Γ Γ (asgS i Fe) (tAsg te (gName i)) := by
  have := ss_asg (i := i) h hx hp
  rw [set_same hm] at this
  exact this
def asgG (FG : Dt → Ev → Option Ev) (Fe : Ev → Rs Dt) (ρ : Ev) : Ot := bindS (Fe ρ) ρ fun d => match FG d ρ with
  | some ρ' => .nx ρ'
  | none => .no
theorem ss_asgG {FG : Dt → Ev → Option Ev} {g : TG} (h : SemE J Γ (.o .F) Fe te) (hg : SemG J Γ vs FG g) (hx : Gx J Γ) : SemS J Γ Γ (asgG FG Fe) (tAsg te g) := fun {G0 H0 G H ρ σ D} w p =>
  h w ((p.bind w hx).imp (fun d _ q v G1 H1 P e f o => by
    cases o with
    | F o =>
      cases z : FG d ρ with
      | none => rw [z] at q; cases q
      | some ρ' =>
        rw [z] at q
        exact hg (w.ext e) o z fun σ' _ w' => q.of_nx σ' G1 H1 e.g w') fun _ q => q)
def dropS (Fe : Ev → Rs Dt) (ρ : Ev) : Ot := bindS (Fe ρ) ρ fun _ => .nx ρ
theorem ss_drop (h : SemE J Γ em Fe te) (hx : Gx J Γ) : SemS J Γ Γ (dropS Fe) (tDrop te) := fun {G0 H0 G H ρ σ D} w p =>
  h w ((p.bind w hx).imp (fun d _ q v G1 H1 P e f o => q.of_nx σ G1 H1 e.g (w.ext e)) fun _ q => q)
def retS (Fe : Ev → Rs Dt) (ρ : Ev) : Ot := bindS (Fe ρ) ρ fun d => .rt d
theorem ss_ret (h : SemE J Γ (.o J.mr) Fe te) (hx : Gx J Γ) : SemS J Γ Γ' (retS Fe) (tRet te) := fun {G0 H0 G H ρ σ D} w p =>
  h w ((p.bind w hx).imp (fun d _ q v G1 H1 P e f o => q.of_rt v G1 H1 P (w.x.trans e) (fun b hb => ⟨(f b hb).1, w.x.h.free (f b hb).2.1, (f b hb).2.2⟩) o) fun _ q => q)
/-- an owned name handed back -/
theorem ss_retV {i : Nat} (hm : Γ[i]? = some J.mr) : SemS J Γ Γ' (retS (varE i)) (tRet (tVar i)) := fun {G0 H0 G H ρ σ D} w p => by
  unfold retS at p
  unfold varE at p
  cases q : ρ[i]? with
  | none => rw [q] at p; cases p
  | some o =>
  cases o with
  | none => rw [q] at p; cases p
  | some d =>
  rw [q] at p
  obtain ⟨Pf, h1, h2, h3⟩ := w.env
  obtain ⟨v, m', s1, s2, s3⟩ := h3 i d q
  rw [hm] at s2
  cases s2
  exact ⟨v, s1, PostS.of_rt p v G H (Pf i) w.x (fun b hb => h2 i b hb) s3⟩
def retN (_ : Ev) : Ot := .rt .non
theorem ss_retN (hm : J.mr = .F) : SemS J Γ Γ' retN tRetN := fun {G0 H0 G H ρ σ D} w p => p.of_rt .non G H Pno w.x Fr.no (by rw [hm]; exact .F .non)
def ifS (Ft : Ev → Rs Bool) (F1 F2 : Ev → Ot) (ρ : Ev) : Ot := bindS (Ft ρ) ρ fun b => if b = true then F1 ρ else F2 ρ
theorem ss_if {Ft : Ev → Rs Bool} {tt : TT} (h : SemT J Γ Ft tt) (k : SemS J Γ Γ' F1 t1) (l : SemS J Γ Γ' F2 t2) (hx : Gx J Γ) : SemS J Γ Γ' (ifS Ft F1 F2) (tIfS tt t1 t2) := fun {G0 H0 G H ρ σ D} w p =>
  h w ((p.bind w hx).imp (fun b _ q G1 H1 e => by
    cases b with
    | true => exact k (w.ext e) (PostS.up e.g q)
    | false => exact l (w.ext e) (PostS.up e.g q)) fun _ q => q)
def brkS (ρ : Ev) : Ot := .bk ρ
def cntS (ρ : Ev) : Ot := .ct ρ
theorem ss_brk (hb : J.gb = Γ) : SemS J Γ Γ' brkS tBreak := fun {G0 H0 G H ρ σ D} w p => by
  cases p with
  | bk p => exact p σ G H (Same.refl _) (by rw [hb]; exact w)
theorem ss_cnt (hb : J.gb = Γ) : SemS J Γ Γ' cntS tCont := fun {G0 H0 G H ρ σ D} w p => by
  cases p with
  | ct p => exact p σ G H (Same.refl _) (by rw [hb]; exact w)
def raiS (c : Str) (ρ : Ev) : Ot := .ex (c, none) ρ
theorem ss_rai {c : Str} (hx : Gx J Γ) : SemS J Γ Γ' (raiS c) (fun _ σ H => J.W (.ref (J.ca c)) none σ H) := fun {G0 H0 G H ρ σ D} w p => exS w hx p H none (Same.refl _) rfl
/-- what stands behind a return, a raise -/
theorem ss_any (h : SemS J Γ Γ1 F ts) (hn : ∀ ρ ρ', F ρ ≠ .nx ρ') : SemS J Γ Γ2 F ts := fun {G0 H0 G H ρ σ D} w p => h w (by
  cases q : F ρ with
  | nx r => exact absurd q (hn _ _)
  | rt d => rw [q] at p; cases p with | rt p => exact .rt p
  | bk d => rw [q] at p; cases p with | bk p => exact .bk p
  | ct d => rw [q] at p; cases p with | ct p => exact .ct p
  | ex c d => rw [q] at p; cases p with | ex p => exact .ex p
  | no => rw [q] at p; cases p)
/-! ### for -/
def forL (FG : Dt → Ev → Option Ev) (Fb : Ev → Ot) : List Dt → Ev → Ot
  | [], ρ => .nx ρ
  | d :: ds, ρ => match FG d ρ with
    | none => .no
    | some ρ1 => match Fb ρ1 with
      | .nx ρ2 => forL FG Fb ds ρ2
      | .ct ρ2 => forL FG Fb ds ρ2
      | .bk ρ2 => .nx ρ2
      | o => o
def forS (Fi : Ev → Rs (List Dt)) (FG : Dt → Ev → Option Ev) (Fb : Ev → Ot) (ρ : Ev) : Ot := bindS (Fi ρ) ρ fun ds => forL FG Fb ds ρ
abbrev Jc.lp (J : Jc) (Γ : List Mode) : Jc := { J with gb := Γ }
theorem Wd.lp {Γb : List Mode} (w : Wd J G0 H0 Γ ρ σ G H) : Wd (J.lp Γb) G0 H0 Γ ρ σ G H := ⟨w.x, w.lg, w.lr, w.env, w.pn⟩
theorem Wd.unlp {Γb : List Mode} (w : Wd (J.lp Γb) G0 H0 Γ ρ σ G H) : Wd J G0 H0 Γ ρ σ G H := ⟨w.x, w.lg, w.lr, w.env, w.pn⟩
theorem ss_for {Fi : Ev → Rs (List Dt)} {wi : TI} {FG : Dt → Ev → Option Ev} {g : TG} (hi : SemI J Γ Fi wi) (hg : SemG (J.lp Γ) Γ vs FG g) (hb : SemS (J.lp Γ) Γ Γ F ts) (hx : Gx J Γ) : SemS J Γ Γ (forS Fi FG F) (tFor wi g ts) := fun {G0 H0 G H ρ σ D} w p => by
  refine hi w ((p.bind w hx).imp (fun ds _ q it G1 H1 e1 wk => ?_) fun _ q => q)
  refine ⟨fun i n σ' Hi => n = ds.length - i ∧ i ≤ ds.length ∧ ∃ G' ρ', Wd J G0 H0 Γ ρ' σ' G' Hi ∧ Same G1 G' ∧ PostS J G0 H0 G' Γ D (forL FG F (ds.drop i) ρ'), ⟨ds.length, by simp, Nat.zero_le _, G1, ρ, w.ext e1, Same.refl _, by simpa using PostS.up e1.g q⟩, ?_⟩
  rintro i n σ' Hi ⟨rfl, hi', G', ρ', w', sg, q'⟩
  by_cases hlt : i < ds.length
  case neg =>
    have ei : i = ds.length := by omega
    subst ei
    rw [List.drop_length] at q'
    exact .inl ⟨wk.stop G' Hi sg w'.gh, PostS.of_nx q' σ' G' Hi (Same.refl _) w'⟩
  obtain ⟨go, step⟩ := wk.go i ds[i] G' Hi (by simp [hlt]) sg w'.gh
  have hdrop : ds.drop i = ds[i] :: ds.drop (i + 1) := List.drop_eq_getElem_cons hlt
  rw [hdrop] at q'
  have q' : PostS J G0 H0 G' Γ D (match FG ds[i] ρ' with
    | none => .no
    | some ρ1 => match F ρ1 with
      | .nx ρ2 => forL FG F (ds.drop (i + 1)) ρ2
      | .ct ρ2 => forL FG F (ds.drop (i + 1)) ρ2
      | .bk ρ2 => .nx ρ2
      | o => o) := q'
  refine .inr ⟨go, fun σ2 H2 => ∃ m', m' < ds.length - i ∧ (m' = ds.length - (i + 1) ∧ i + 1 ≤ ds.length ∧ ∃ G' ρ', Wd J G0 H0 Γ ρ' σ2 G' H2 ∧ Same G1 G' ∧ PostS J G0 H0 G' Γ D (forL FG F (ds.drop (i + 1)) ρ')), fun σ2 H2 z => z, fun x H3 y => ?_⟩
  obtain ⟨G3, e3, rx⟩ := step x H3 y
  cases hF : FG ds[i] ρ' with
  | none => rw [hF] at q'; cases q'
  | some ρ1 =>
  rw [hF] at q'
  refine hg (w'.ext e3).lp rx hF fun σ2 _ w4 => ?_
  refine hb w4 ?_
  have q' : PostS J G0 H0 G' Γ D (match F ρ1 with
      | .nx ρ2 => forL FG F (ds.drop (i + 1)) ρ2
      | .ct ρ2 => forL FG F (ds.drop (i + 1)) ρ2
      | .bk ρ2 => .nx ρ2
      | o => o) := q'
  have q' := q'.up e3.g
  have nxt : ∀ ρ2, PostS J G0 H0 G3 Γ D (forL FG F (ds.drop (i + 1)) ρ2) → ∀ σ5 G5 H5, Same G3 G5 → Wd (J.lp Γ) G0 H0 Γ ρ2 σ5 G5 H5 → ∃ m', m' < ds.length - i ∧ (m' = ds.length - (i + 1) ∧ i + 1 ≤ ds.length ∧ ∃ G' ρ', Wd J G0 H0 Γ ρ' σ5 G' H5 ∧ Same G1 G' ∧ PostS J G0 H0 G' Γ D (forL FG F (ds.drop (i + 1)) ρ')) := fun ρ2 p σ5 G5 H5 s5 w5 =>
    ⟨ds.length - (i + 1), by omega, rfl, hlt, G5, ρ2, w5.unlp, (sg.trans e3.g).trans s5, p.up s5⟩
  cases hB : F ρ1 with
  | nx r =>
    rw [hB] at q'
    exact .nx (nxt r q')
  | rt d =>
    rw [hB] at q'
    cases q' with
    | rt p => exact .rt p
  | bk r =>
    rw [hB] at q'
    exact .bk fun σ5 G5 H5 s5 w5 => PostS.of_nx q' σ5 G5 H5 s5 w5.unlp
  | ct r =>
    rw [hB] at q'
    exact .ct (nxt r q')
  | ex c r =>
    rw [hB] at q'
    cases q' with
    | ex p => exact .ex fun dx σ5 H5 s5 x5 k5 => p dx σ5 H5 s5 x5 fun Γ1 z => (k5 Γ1 z).imp fun _ w5 => ⟨w5.1, w5.2.unlp⟩
  | no => rw [hB] at q'; cases q'
/-! ### while -/
def whlL (Ft : Ev → Rs Bool) (Fb : Ev → Ot) : Nat → Ev → Ot
  | 0, _ => .no
  | n + 1, ρ => bindS (Ft ρ) ρ fun b => if b = true then (match Fb ρ with
    | .nx ρ2 => whlL Ft Fb n ρ2
    | .ct ρ2 => whlL Ft Fb n ρ2
    | .bk ρ2 => .nx ρ2
    | o => o) else .nx ρ
theorem ss_whl {Ft : Ev → Rs Bool} {tt : TT} {n : Nat} (h : SemT J Γ Ft tt) (hb : SemS (J.lp Γ) Γ Γ F ts) (hx : Gx J Γ) : SemS J Γ Γ (whlL Ft F n) (tWhile tt ts) := fun {G0 H0 G H ρ σ D} w p => by
  refine ⟨fun k σ' Hi => ∃ G' ρ', Wd J G0 H0 Γ ρ' σ' G' Hi ∧ PostS J G0 H0 G' Γ D (whlL Ft F k ρ'), ⟨n, G, ρ, w, p⟩, ?_⟩
  rintro k σ' Hi ⟨G', ρ', w', q⟩
  cases k with
  | zero => cases q
  | succ k =>
    refine h w' ((PostS.bind w' hx q).imp (fun b _ q G1 H1 e => ?_) fun _ q => q)
    cases b with
    | false => exact PostS.of_nx q σ' G1 H1 e.g (w'.ext e)
    | true =>
      refine ⟨fun σ2 H2 => ∃ m', m' < k + 1 ∧ ∃ G' ρ', Wd J G0 H0 Γ ρ' σ2 G' H2 ∧ PostS J G0 H0 G' Γ D (whlL Ft F m' ρ'), fun σ2 H2 z => z, ?_⟩
      refine hb (w'.ext e).lp ?_
      have q : PostS J G0 H0 G' Γ D (match F ρ' with
        | .nx ρ2 => whlL Ft F k ρ2
        | .ct ρ2 => whlL Ft F k ρ2
        | .bk ρ2 => .nx ρ2
        | o => o) := q
      have q := q.up e.g
      have nxt : ∀ ρ2, PostS J G0 H0 G1 Γ D (whlL Ft F k ρ2) → ∀ σ5 G5 H5, Same G1 G5 → Wd (J.lp Γ) G0 H0 Γ ρ2 σ5 G5 H5 → ∃ m', m' < k + 1 ∧ ∃ G' ρ', Wd J G0 H0 Γ ρ' σ5 G' H5 ∧ PostS J G0 H0 G' Γ D (whlL Ft F m' ρ') := fun ρ2 p σ5 G5 H5 s5 w5 =>
        ⟨k, by omega, G5, ρ2, w5.unlp, p.up s5⟩
      cases hB : F ρ' with
      | nx r =>
        rw [hB] at q
        exact .nx (nxt r q)
      | rt d =>
        rw [hB] at q
        cases q with
        | rt p => exact .rt p
      | bk r =>
        rw [hB] at q
        exact .bk fun σ5 G5 H5 s5 w5 => PostS.of_nx q σ5 G5 H5 s5 w5.unlp
      | ct r =>
        rw [hB] at q
        exact .ct (nxt r q)
      | ex c r =>
        rw [hB] at q
        cases q with
        | ex p => exact .ex fun dx σ5 H5 s5 x5 k5 => p dx σ5 H5 s5 x5 fun Γ1 z => (k5 Γ1 z).imp fun _ w5 => ⟨w5.1, w5.2.unlp⟩
      | no => rw [hB] at q; cases q
end
end Pm
namespace Pm
open PySem PySem.Spec PyProof.Rows L2
open Classical
/-! ### places: an owned part of a name -/
structure EnvR (J : Jc) (H0 : Hp) (Γ : List Mode) (ρ : Ev) (σ : L2.St) (G H : Hp) : Prop where
  lg : Γ.length = ρ.length
  lr : ρ.length = σ.length
  env : ∃ Pf : Nat → Addr → Prop, (∀ i j a, i ≠ j → Pf i a → ¬ Pf j a) ∧ (∀ i a, Pf i a → G a = none ∧ H0 a = none ∧ H a ≠ none) ∧
    ∀ i d, ρ[i]? = some (some d) → ∃ v m, σ[i]? = some (some v) ∧ Γ[i]? = some m ∧ Ow J.K J.ca G H m d v (Pf i)
/-- the part stands at v, is d, owns P; what takes its place is put by put -/
structure Foc (J : Jc) (H0 : Hp) (Γ : List Mode) (σ : L2.St) (G H : Hp) (m : Mode) (d : Dt) (v : V) (put : Dt → Ev) : Prop where
  ex : ∃ P : Addr → Prop, Ow J.K J.ca G H m d v P ∧ (∀ b, P b → G b = none ∧ H0 b = none ∧ H b ≠ none) ∧
    ∀ G2 H2 d2 P2, Same G G2 → (∀ b, H b ≠ none → ¬ P b → H2 b = H b ∧ G2 b = G b) → Ow J.K J.ca G2 H2 m d2 v P2 → (∀ b, P2 b → (P b ∨ H b = none) ∧ G2 b = none ∧ H0 b = none ∧ H2 b ≠ none) → EnvR J H0 Γ (put d2) σ G2 H2
def SemP (J : Jc) (Γ : List Mode) (F : Ev → Rs (Dt × (Dt → Ev))) (m : Mode) (te : TE) : Prop := ∀ ⦃G0 H0 G H : Hp⦄ ⦃ρ : Ev⦄ ⦃σ : L2.St⦄ ⦃Q : VK⦄, Wd J G0 H0 Γ ρ σ G H →
  Rs.Post (fun x => ∀ v G' H', Ext G H G' H' → Foc J H0 Γ σ G' H' m x.1 v x.2 → Q v H') (fun c => ∀ H' dx, Same H H' → XR c dx H' → J.W (.ref (J.ca c.1)) dx σ H') (F ρ) → te σ H Q
section
variable {J : Jc} {Γ Γ' Γ1 Γ2 : List Mode} {em : EM} {m : Mode} {ms : List Mode} {Fe Fa Fb : Ev → Rs Dt} {Fs : List (Ev → Rs Dt)} {te ta tb : TE} {tr : TA} {G0 H0 Gs G H G' H' : Hp} {ρ : Ev} {σ : L2.St} {vs : List Nat}
  {F F1 F2 : Ev → Ot} {ts t1 t2 : TS} {D : Ends} {d : Dt} {v : V} {put : Dt → Ev}
theorem Foc.ext (f : Foc J H0 Γ σ G H m d v put) (e : Ext G H G' H') : Foc J H0 Γ σ G' H' m d v put := by
  obtain ⟨P, o, r, k⟩ := f.ex
  refine ⟨P, o.carry e.g fun b hb => ⟨e.h.at (r b hb).2.2, by rw [e.base b (r b hb).2.2]; exact (r b hb).1⟩, fun b hb => ⟨by rw [e.base b (r b hb).2.2]; exact (r b hb).1, (r b hb).2.1, e.h.nn (r b hb).2.2⟩, fun G2 H2 d2 P2 sg h1 o2 h2 => ?_⟩
  refine k G2 H2 d2 P2 (e.g.trans sg) (fun b hb hn => ?_) o2 fun b hb => ?_
  · obtain ⟨a1, a2⟩ := h1 b (e.h.nn hb) hn
    exact ⟨a1.trans (e.h.at hb), a2.trans (e.base b hb)⟩
  · obtain ⟨a1, a2⟩ := h2 b hb
    exact ⟨a1.imp id fun z => e.h.free z, a2⟩
def varP (i : Nat) (ρ : Ev) : Rs (Dt × (Dt → Ev)) := match ρ[i]? with
  | some (some d) => .ok (d, fun x => ρ.set i (some x))
  | _ => .no
theorem sp_var {i : Nat} (hm : Γ[i]? = some m) : SemP J Γ (varP i) m (tVar i) := fun {G0 H0 G H ρ σ Q} w p => by
  unfold varP at p
  cases hq : ρ[i]? with
  | none => rw [hq] at p; cases p
  | some o =>
  cases o with
  | none => rw [hq] at p; cases p
  | some d =>
  rw [hq] at p
  obtain ⟨Pf, h1, h2, h3⟩ := w.env
  obtain ⟨v, m', s1, s2, s3⟩ := h3 i d hq
  rw [hm] at s2
  cases s2
  refine ⟨v, s1, p.of_ok v G H (Ext.refl w.gh) ⟨Pf i, s3, h2 i, fun G2 H2 d2 P2 sg k1 o2 k2 => ?_⟩⟩
  have hl : i < ρ.length := (List.getElem?_eq_some_iff.mp hq).1
  refine ⟨by rw [List.length_set]; exact w.lg, by rw [List.length_set]; exact w.lr, fun j => if j = i then P2 else Pf j, fun j k a q r s => ?_, fun j a q => ?_, fun j c q => ?_⟩
  · by_cases hj : j = i
    · by_cases hk : k = i
      · exact q (hj.trans hk.symm)
      · simp only [hj, if_true] at r
        simp only [hk, if_false] at s
        rcases (k2 a r).1 with z | z
        · exact h1 k i a hk s z
        · exact (h2 k a s).2.2 z
    · simp only [hj, if_false] at r
      by_cases hk : k = i
      · simp only [hk, if_true] at s
        rcases (k2 a s).1 with z | z
        · exact h1 j i a hj r z
        · exact (h2 j a r).2.2 z
      · simp only [hk, if_false] at s
        exact h1 j k a q r s
  · by_cases hj : j = i
    · simp only [hj, if_true] at q
      exact (k2 a q).2
    · simp only [hj, if_false] at q
      obtain ⟨a1, a2, a3⟩ := h2 j a q
      obtain ⟨b1, b2⟩ := k1 a a3 (h1 j i a hj q)
      exact ⟨by rw [b2]; exact a1, a2, by rw [b1]; exact a3⟩
  · by_cases hj : j = i
    · subst hj
      rw [List.getElem?_set_self hl] at q
      have hd : d2 = c := by simpa using q
      subst hd
      refine ⟨v, m, s1, hm, ?_⟩
      simp only [if_true]
      exact o2
    · rw [List.getElem?_set_ne (Ne.symm hj)] at q
      obtain ⟨v2, m2, t1, t2, t3⟩ := h3 j c q
      refine ⟨v2, m2, t1, t2, ?_⟩
      simp only [hj, if_false]
      refine t3.carry sg fun b hb => ?_
      obtain ⟨a1, a2, a3⟩ := h2 j b hb
      obtain ⟨b1, b2⟩ := k1 b a3 (h1 j i b hj hb)
      exact ⟨b1, by rw [b2]; exact a1⟩
/-- into the parts of an owned row of parts -/
theorem Ows.focus {K : PySem.W.Frag} {ca : Str → Addr} : ∀ {ds : List Dt} {ms : List Mode} {us : List V} {P : Addr → Prop} {k : Nat} {m : Mode} {d : Dt}, Ows K ca G H ms ds us P → ms[k]? = some m → ds[k]? = some d →
    ∃ v Pk, us[k]? = some v ∧ Ow K ca G H m d v Pk ∧ (∀ b, Pk b → P b) ∧ ∀ G2 H2 d2 P2, Same G G2 → (∀ b, P b → ¬ Pk b → H2 b = H b ∧ G2 b = none) → Ow K ca G2 H2 m d2 v P2 → (∀ b, P2 b → Pk b ∨ ¬ P b) → Ows K ca G2 H2 ms (ds.set k d2) us (fun b => (P b ∧ ¬ Pk b) ∨ P2 b)
  | [], ms, us, P, k, m, d, h, hm, hd => by simp at hd
  | x :: ds, ms, us, P, 0, m, d, h, hm, hd => by
    cases h with
    | @cons m' ms _ _ v us _ P1 P2 h1 h2 q1 q2 q3 =>
      have e1 : m' = m := by simpa using hm
      have e2 : x = d := by simpa using hd
      subst e1 e2
      refine ⟨v, P1, rfl, h1, q1, fun G2 H2 d2 P2' sg c o c2 => ?_⟩
      refine .cons (P1 := P2') (P2 := fun b => P2 b) o (h2.carry sg fun b hb => c b (q2 b hb) fun z => q3 b z hb) (fun b hb => .inr hb) (fun b hb => .inl ⟨q2 b hb, fun z => q3 b z hb⟩) fun b hb z => ?_
      rcases c2 b hb with y | y
      · exact q3 b y z
      · exact y (q2 b z)
  | x :: ds, ms, us, P, k + 1, m, d, h, hm, hd => by
    cases h with
    | @cons m' ms _ _ v us _ P1 P2 h1 h2 q1 q2 q3 =>
      obtain ⟨w, Pk, e1, e2, e3, e4⟩ := Ows.focus (k := k) h2 (by simpa using hm) (by simpa using hd)
      refine ⟨w, Pk, by simpa using e1, e2, fun b hb => q2 b (e3 b hb), fun G2 H2 d2 P2' sg c o c2 => ?_⟩
      have r := e4 G2 H2 d2 (fun b => P2' b) sg (fun b hb hn => c b (q2 b hb) hn) o (fun b hb => (c2 b hb).imp id fun z y => z (q2 b y))
      rw [List.set_cons_succ]
      refine .cons (P1 := P1) (P2 := fun b => (P2 b ∧ ¬ Pk b) ∨ P2' b) (h1.carry sg fun b hb => c b (q1 b hb) fun z => q3 b hb (e3 b z)) r (fun b hb => .inl ⟨q1 b hb, fun z => q3 b hb (e3 b z)⟩) (fun b hb => hb.imp (fun z => ⟨q2 b z.1, z.2⟩) id) fun b hb z => ?_
      rcases z with z | z
      · exact q3 b hb z.1
      · rcases c2 b z with y | y
        · exact q3 b hb (e3 b y)
        · exact y (q1 b hb)
def ixP (Fp : Ev → Rs (Dt × (Dt → Ev))) (Fi : Ev → Rs Dt) (ρ : Ev) : Rs (Dt × (Dt → Ev)) := Fp ρ >>= fun x => Fi ρ >>= fun k => match x.1, k with
  | .lst ds, .int i => (match ixN ds.length i with
    | some j => (match ds[j]? with
      | some e => .ok (e, fun y => x.2 (.lst (ds.set j y)))
      | none => .no)
    | none => .no)
  | _, _ => .no
variable {Fp : Ev → Rs (Dt × (Dt → Ev))}
theorem Foc.item {ds : List Dt} {j : Nat} {e : Dt} (f : Foc J H0 Γ σ G H (.L m) (.lst ds) v put) (hj : ds[j]? = some e) : ∃ a us u, v = .ref a ∧ H a = some (.lst us) ∧ us[j]? = some u ∧ ds.length = us.length ∧ Foc J H0 Γ σ G H m e u (fun y => put (.lst (ds.set j y))) := by
  obtain ⟨P, o, r, k⟩ := f.ex
  cases o with
  | @L _ a us _ _ h1 h2 h3 h4 =>
    obtain ⟨u, Pk, q1, q2, q3, q4⟩ := h4.focus (k := j) (m := m) (by
      rw [List.getElem?_replicate, if_pos (List.getElem?_eq_some_iff.mp hj).1]) hj
    refine ⟨a, us, u, rfl, h1, q1, h4.len.1, Pk, q2, fun b hb => r b (q3 b hb).1, fun G2 H2 d2 P2 sg c o2 c2 => ?_⟩
    have ha : ¬ Pk a := fun z => (q3 a z).2 rfl
    have hna : H a ≠ none := by rw [h1]; exact fun z => by cases z
    have p2a : ∀ b, P2 b → b ≠ a := fun b hb z => by
      rcases (c2 b hb).1 with y | y
      · exact ha (z ▸ y)
      · exact hna (z ▸ y)
    have rest := q4 G2 H2 d2 P2 sg (fun b hb hn => ⟨(c b (r b hb.1).2.2 hn).1, by rw [(c b (r b hb.1).2.2 hn).2]; exact (r b hb.1).1⟩) o2 fun b hb => (c2 b hb).1.imp id fun z y => (r b y.1).2.2 z
    refine k G2 H2 (.lst (ds.set j d2)) (fun b => (P b ∧ ¬ Pk b) ∨ P2 b) sg (fun b hb hn => c b hb fun z => hn (q3 b z).1) (.L (by rw [(c a hna ha).1]; exact h1) (by rw [(c a hna ha).2]; exact h2) (.inl ⟨h3, ha⟩) ?_) fun b hb => ?_
    · rw [List.length_set]
      refine rest.weaken fun b hb => ?_
      rcases hb with ⟨⟨z1, z2⟩, z3⟩ | z
      · exact ⟨.inl ⟨z1, z3⟩, z2⟩
      · exact ⟨.inr z, p2a b z⟩
    · rcases hb with ⟨z1, z2⟩ | z
      · obtain ⟨a1, a2, a3⟩ := r b z1
        obtain ⟨b1, b2⟩ := c b a3 z2
        exact ⟨.inl z1, by rw [b2]; exact a1, a2, by rw [b1]; exact a3⟩
      · exact ⟨(c2 b z).1.imp (fun y => (q3 b y).1) id, (c2 b z).2⟩
theorem sp_ix {ti : TE} {Fi : Ev → Rs Dt} (h : SemP J Γ Fp (.L m) te) (k : SemE J Γ .B Fi ti) : SemP J Γ (ixP Fp Fi) m (tOp (rIx J.K) te ti) := fun {G0 H0 G H ρ σ Q} w p => by
  refine h w (p.bind.imp (fun x _ q v G1 H1 e1 f1 => ?_) fun _ q => q)
  refine k (w.ext e1) (Rs.Post.imp (Rs.Post.bind q) (fun i _ q u G2 H2 _ e2 _ ri => ?_) fun _ q H' dx s => q H' dx (e1.h.trans s))
  obtain ⟨xd, xp⟩ := x
  have f2 := f1.ext e2
  cases ri with
  | int i =>
    cases xd with
    | lst ds =>
      have q : Rs.Post _ _ (match ixN ds.length i with
        | some j => (match ds[j]? with
          | some e => Rs.ok (e, fun y => xp (.lst (ds.set j y)))
          | none => Rs.no)
        | none => Rs.no) := q
      cases hj : ixN ds.length i with
      | none => rw [hj] at q; cases q
      | some j =>
        rw [hj] at q
        cases he : ds[j]? with
        | none => simp only [he] at q; cases q
        | some e =>
          simp only [he] at q
          obtain ⟨a, us, z, rfl, h1, h2, h3, h4⟩ := f2.item he
          exact .inl ⟨a, us, i, z, rfl, rfl, .of h1, by unfold atI; rw [← h3, hj]; exact h2, q.of_ok z G2 H2 (e1.trans e2) h4⟩
    | _ => cases q
  | _ => cases xd <;> cases q
/-- an owned list is changed -/
theorem Foc.chg {ds : List Dt} (f : Foc J H0 Γ σ G H (.L m) (.lst ds) v put) (w : Wd J G0 H0 Γ ρ σ G H) (e : Ext G H G' H') : ∃ a us Pin, v = .ref a ∧ H' a = some (.lst us) ∧ Ows J.K J.ca G' H' (List.replicate ds.length m) ds us Pin ∧ (∀ b, Pin b → H b ≠ none ∧ b ≠ a ∧ G' b = none ∧ H' b ≠ none) ∧
    ∀ ds' us' Px, Ows J.K J.ca G' H' (List.replicate ds'.length m) ds' us' Px → (∀ b, Px b → b ≠ a ∧ (Pin b ∨ (H b = none ∧ G' b = none ∧ H' b ≠ none))) → Wd J G0 H0 Γ (put (.lst ds')) σ G' (upd H' a (.lst us')) := by
  obtain ⟨P, o, r, k⟩ := f.ex
  cases o with
  | @L _ a us _ _ h1 h2 h3 h4 =>
    have hna : H a ≠ none := by rw [h1]; exact fun z => by cases z
    have gpa : G' a = none := by rw [e.base a hna]; exact h2
    have c4 : Ows J.K J.ca G' H' (List.replicate ds.length m) ds us (fun b => P b ∧ b ≠ a) := h4.carry e.g fun b hb => ⟨e.h.at (r b hb.1).2.2, by rw [e.base b (r b hb.1).2.2]; exact (r b hb.1).1⟩
    refine ⟨a, us, fun b => P b ∧ b ≠ a, rfl, e.h _ _ h1, c4, fun b hb => ⟨(r b hb.1).2.2, hb.2, by rw [e.base b (r b hb.1).2.2]; exact (r b hb.1).1, e.h.nn (r b hb.1).2.2⟩, fun ds' us' Px o' c => ?_⟩
    have reg : ∀ b, (b = a ∨ Px b) → (P b ∨ H b = none) ∧ G' b = none ∧ H0 b = none ∧ (upd H' a (.lst us')) b ≠ none := fun b hb => by
      by_cases z : b = a
      · subst z
        exact ⟨.inl h3, gpa, (r b h3).2.1, by rw [upd_same]; exact fun z => by cases z⟩
      · rcases hb with hb | hb
        · exact absurd hb z
        · rw [upd_ne z]
          rcases (c b hb).2 with y | ⟨y1, y2, y3⟩
          · exact ⟨.inl y.1, by rw [e.base b (r b y.1).2.2]; exact (r b y.1).1, (r b y.1).2.1, e.h.nn (r b y.1).2.2⟩
          · exact ⟨.inr y1, y2, w.x.h.free y1, y3⟩
    have en := k G' (upd H' a (.lst us')) (.lst ds') (fun b => b = a ∨ Px b) e.g (fun b hb hn => ⟨by rw [upd_ne fun z => hn (by rw [z]; exact h3)]; exact e.h.at hb, e.base b hb⟩) (.L upd_same gpa (.inl rfl) ((o'.carry (Same.refl _) fun b hb => ⟨upd_ne (c b hb).1, ?_⟩).weaken fun b hb => ⟨.inr hb, (c b hb).1⟩)) reg
    · exact ⟨(w.x.trans e).mut (r a h3).2.1 gpa, en.lg, en.lr, en.env, w.pn⟩
    · rcases (c b hb).2 with y | ⟨y1, y2, y3⟩
      · rw [e.base b (r b y.1).2.2]; exact (r b y.1).1
      · exact y2
/-! ### statements that change a list -/
def lstOf (d : Dt) : Rs (List Dt) := match d with
  | .lst ds => .ok ds
  | _ => .no
/-- P.append(e) -/
def appS (Fp : Ev → Rs (Dt × (Dt → Ev))) (Fe : Ev → Rs Dt) (ρ : Ev) : Ot := bindS (Fp ρ) ρ fun x => match x.1 with
  | .lst ds => bindS (Fe ρ) ρ fun y => if lenSz ds.length = true then .nx (x.2 (.lst (ds ++ [y]))) else .no
  | _ => .no
theorem lenSz_lt {n : Nat} (h : lenSz n = true) : n < sizeLine := Nat.lt_of_le_of_lt (lenSz_le h) (by decide)
theorem ss_app (h : SemP J Γ Fp (.L m) te) (k : SemE J Γ (.o m) Fe ta) (hx : Gx J Γ) : SemS J Γ Γ (appS Fp Fe) (tDrop (tBM J.K "list" rAppend te (tCons ta tNil))) := fun {G0 H0 G H ρ σ D} w p => by
  refine h w ((PostS.bind w hx p).imp (fun x _ q v G1 H1 e1 f1 => ?_) fun _ q => q)
  obtain ⟨xd, xp⟩ := x
  have w1 := w.ext e1
  cases xd with
  | lst ds =>
    have q : PostS J G0 H0 G1 Γ D (bindS (Fe ρ) ρ fun y => if lenSz ds.length = true then .nx (xp (.lst (ds ++ [y]))) else .no) := q.up e1.g
    obtain ⟨a, us, Pin, rfl, hu, _⟩ := f1.chg w1 (Ext.refl w1.gh)
    refine ⟨.inl ⟨rfl, us, .of hu⟩, ?_⟩
    refine k w1 ((PostS.bind w1 hx q).imp (fun y _ q y' G2 H2 P2 e2 f2 o2 => ?_) fun _ q => q)
    obtain ⟨a', us', Pin', ea, hu', own, pr, fin⟩ := f1.chg w1 e2
    cases ea
    have q : PostS J G0 H0 G1 Γ D (if lenSz ds.length = true then .nx (xp (.lst (ds ++ [y]))) else .no) := q
    by_cases c : lenSz ds.length = true
    case neg => rw [if_neg c] at q; cases q
    rw [if_pos c] at q
    refine ⟨a, us', y', rfl, rfl, hu', by rw [← own.len.1]; exact lenSz_lt c, ?_⟩
    refine q.of_nx σ G2 _ e2.g (fin (ds ++ [y]) (us' ++ [y']) (fun b => Pin' b ∨ P2 b) ?_ fun b hb => ?_)
    · rw [List.length_append, List.length_singleton, List.replicate_succ']
      refine Ows.append (P1 := Pin') (P2 := P2) own (.cons (P1 := P2) (P2 := Pno) o2 .nil (fun _ z => z) (fun _ z => z.elim) (fun _ _ z => z)) (fun _ => .inl) (fun _ => .inr) fun b h1 h2 => ?_
      exact (pr b h1).1 (f2 b h2).2.1
    · rcases hb with hb | hb
      · exact ⟨(pr b hb).2.1, .inl hb⟩
      · refine ⟨fun z => ?_, .inr ⟨(f2 b hb).2.1, (f2 b hb).1, (f2 b hb).2.2⟩⟩
        have := (f2 b hb).2.1
        rw [z] at this
        exact absurd (e1.h.free this) (by
          intro _
          rw [hu] at this
          cases this)
  | _ => cases q
end
end Pm
namespace Pm
open PySem PySem.Spec PyProof.Rows L2
open Classical
/-! ### P[e] = v, v frozen -/
def setS (Fe : Ev → Rs Dt) (Fp : Ev → Rs (Dt × (Dt → Ev))) (Fi : Ev → Rs Dt) (ρ : Ev) : Ot := bindS (Fe ρ) ρ fun y => bindS (Fp ρ) ρ fun x => bindS (Fi ρ) ρ fun k => match x.1, k with
  | .lst ds, .int i => (match ixN ds.length i with
    | some j => .nx (x.2 (.lst (ds.set j y)))
    | none => .no)
  | _, _ => .no
section
variable {J : Jc} {Γ Γ' Γ1 Γ2 : List Mode} {em : EM} {m : Mode} {ms : List Mode} {Fe Fa Fb Fi : Ev → Rs Dt} {Fs : List (Ev → Rs Dt)} {te ta tb ti : TE} {tr : TA} {G0 H0 Gs G H G' H' : Hp} {ρ : Ev} {σ : L2.St} {vs : List Nat}
  {F F1 F2 : Ev → Ot} {ts t1 t2 : TS} {D : Ends} {d : Dt} {v : V} {put : Dt → Ev} {Fp : Ev → Rs (Dt × (Dt → Ev))}
theorem Rps.set {K : PySem.W.Frag} {ca : Str → Addr} : ∀ {ds : List Dt} {us : List V} {j : Nat} {d : Dt} {v : V}, Rps K ca H ds us → Rp K ca H d v → Rps K ca H (ds.set j d) (us.set j v)
  | [], _, j, _, _, h, _ => by cases h; exact .nil
  | x :: ds, _, 0, d, v, h, r => by
    cases h with
    | cons h1 h2 => exact .cons r h2
  | x :: ds, _, j + 1, d, v, h, r => by
    cases h with
    | cons h1 h2 => exact .cons h1 (Rps.set h2 r)
theorem ss_set (h : SemE J Γ (.o .F) Fe te) (k : SemP J Γ Fp (.L .F) ta) (l : SemE J Γ .B Fi ti) (hx : Gx J Γ) : SemS J Γ Γ (setS Fe Fp Fi) (tAsg te (gSub ta ti rSetL)) := fun {G0 H0 G H ρ σ D} w p => by
  refine h w ((PostS.bind w hx p).imp (fun y _ q v G1 H1 _ e1 _ o1 => ?_) fun _ q => q)
  have w1 := w.ext e1
  refine k w1 ((PostS.bind w1 hx (PostS.up e1.g q)).imp (fun x _ q v2 G2 H2 e2 f2 => ?_) fun _ q => q)
  have w2 := w1.ext e2
  refine l w2 ((PostS.bind w2 hx (PostS.up e2.g q)).imp (fun i _ q v3 G3 H3 _ e3 _ o3 => ?_) fun _ q => q)
  obtain ⟨xd, xp⟩ := x
  cases o1 with
  | F o1 =>
  cases o3 with
  | int i =>
    cases xd with
    | lst ds =>
      have q : PostS J G0 H0 G2 Γ D (match ixN ds.length i with
        | some j => .nx (xp (.lst (ds.set j y)))
        | none => .no) := q
      cases hj : ixN ds.length i with
      | none => rw [hj] at q; cases q
      | some j =>
        rw [hj] at q
        obtain ⟨a, us, Pin, rfl, hu, own, pr, fin⟩ := f2.chg w2 e3
        refine ⟨a, us, i, j, rfl, rfl, hu, by rw [← own.len.1]; exact hj, ?_⟩
        exact q.of_nx σ G3 _ e3.g (fin (ds.set j y) (us.set j v) Pno (Rps.own ((own.frozen).set (o1.mono (e2.g.trans e3.g)))) fun b z => z.elim)
    | _ => cases q
  | _ => cases xd <;> cases q
/-! ### fields -/
def fix (f : Str) : List Str → Option Nat
  | [] => none
  | g :: r => if f = g then some 0 else (fix f r).map (· + 1)
theorem fix_lookup {f : Str} : ∀ {ns : List Str} {us : List V} {j : Nat} {u : V}, fix f ns = some j → us[j]? = some u → (ns.zip us).lookup f = some u
  | [], _, _, _, h, _ => by cases h
  | g :: r, [], j, u, h, e => by simp at e
  | g :: r, x :: us, j, u, h, e => by
    unfold fix at h
    show (match f == g with | true => some x | false => (r.zip us).lookup f) = some u
    by_cases q : f = g
    · rw [if_pos q] at h
      cases h
      rw [show (f == g) = true from beq_iff_eq.mpr q]
      simpa using e
    · rw [if_neg q] at h
      cases z : fix f r with
      | none => rw [z] at h; cases h
      | some i =>
        rw [z] at h
        cases h
        rw [show (f == g) = false from beq_eq_false_iff_ne.mpr q]
        exact fix_lookup z (by simpa using e)
theorem fix_get {f : Str} : ∀ {ns : List Str} {j : Nat}, fix f ns = some j → ns[j]? = some f
  | [], _, h => by cases h
  | g :: r, j, h => by
    unfold fix at h
    by_cases q : f = g
    · rw [if_pos q] at h
      cases h
      simp [q]
    · rw [if_neg q] at h
      cases z : fix f r with
      | none => rw [z] at h; cases h
      | some i =>
        rw [z] at h
        cases h
        simpa using fix_get z
theorem fix_putN {f : Str} {y : V} : ∀ {ns : List Str} {us : List V}, ns.length = us.length → fix f ns = none → putF f y (ns.zip us) = (ns ++ [f]).zip (us ++ [y])
  | [], [], _, _ => rfl
  | g :: r, x :: us, hl, h => by
    unfold fix at h
    by_cases q : f = g
    · rw [if_pos q] at h; cases h
    · rw [if_neg q] at h
      cases z : fix f r with
      | some i => rw [z] at h; cases h
      | none =>
        show (if g = f then (g, y) :: r.zip us else (g, x) :: putF f y (r.zip us)) = _
        rw [if_neg fun e => q e.symm, fix_putN (by simpa using hl) z]
        rfl
theorem fix_putO {f : Str} {y : V} : ∀ {ns : List Str} {us : List V} {j : Nat}, ns.length = us.length → fix f ns = some j → putF f y (ns.zip us) = ns.zip (us.set j y)
  | [], _, _, _, h => by cases h
  | g :: r, [], _, hl, _ => by simp at hl
  | g :: r, x :: us, j, hl, h => by
    unfold fix at h
    by_cases q : f = g
    · rw [if_pos q] at h
      cases h
      show (if g = f then (g, y) :: r.zip us else _) = _
      rw [if_pos q.symm]
      rfl
    · rw [if_neg q] at h
      cases z : fix f r with
      | none => rw [z] at h; cases h
      | some i =>
        rw [z] at h
        cases h
        show (if g = f then (g, y) :: r.zip us else (g, x) :: putF f y (r.zip us)) = _
        rw [if_neg fun e => q e.symm, fix_putO (by simpa using hl) z]
        rfl
def fldD (C f : Str) (d : Dt) : Rs Dt := match d with
  | .ins C' ns ds => if C' = C then (match fix f ns with
    | some j => (match ds[j]? with | some e => .ok e | none => .no)
    | none => .no) else .no
  | _ => .no
def fldE (C f : Str) := op1E (fldD C f)
theorem fld_run {K : PySem.W.Frag} {ca : Str → Addr} {C f : Str} {d e : Dt} {v : V} (r : Rp K ca H d v) (q : fldD C f d = .ok e) : ∃ a dx fs u, v = .ref a ∧ H a = some (.ins (ca C) dx fs) ∧ fs.lookup f = some u ∧ Rp K ca H e u := by
  cases r with
  | @ins C' a dx ns us ds h1 h2 h3 =>
    replace q : (if C' = C then (match fix f ns with
      | some j => (match ds[j]? with | some e => Rs.ok e | none => .no)
      | none => .no) else .no) = .ok e := q
    split at q
    · rename_i hC
      subst hC
      cases z : fix f ns with
      | none => rw [z] at q; cases q
      | some j =>
        rw [z] at q
        cases z2 : ds[j]? with
        | none => simp only [z2] at q; cases q
        | some e' =>
          simp only [z2] at q
          cases q
          obtain ⟨u, hu, ru⟩ := h3.get z2
          exact ⟨a, dx, _, u, rfl, h1, fix_lookup z hu, ru⟩
    · cases q
  | _ => cases q
theorem nx_fld {C f : Str} : ∀ a c, fldD C f a ≠ .ex c := by
  intro a c
  unfold fldD
  split
  · split
    · split
      · split <;> intro q <;> cases q
      · intro q; cases q
    · intro q; cases q
  · intro q; cases q
theorem se_fld {C f : Str} (cl : Cls J.K (J.ca C)) (na : NoAttr J.K (J.ca C) f) (h : SemE J Γ (.o .F) Fe te) : SemE J Γ (.o .F) (fldE C f Fe) (tFld J.K te f) := fun {G0 H0 G H ρ σ Q} w p => by
  refine h w (p.bind.imp (fun d _ q v G1 H1 _ e1 _ r1 => ?_) fun _ q => q)
  cases r1 with
  | F r1 =>
    cases z : fldD C f d with
    | ok e =>
      rw [z] at q
      obtain ⟨a, dx, fs, u, rfl, h1, h2, h3⟩ := fld_run r1 z
      exact ⟨a, J.ca C, dx, fs, u, rfl, e1.gh _ _ h1, cl, na, h2, q.of_ok u G1 H1 Pno e1 Fr.no (.F h3)⟩
    | ex c => exact absurd z (nx_fld d c)
    | no => rw [z] at q; cases q
theorem se_fldB {C f : Str} (cl : Cls J.K (J.ca C)) (na : NoAttr J.K (J.ca C) f) (h : SemE J Γ .B Fe te) : SemE J Γ .B (fldE C f Fe) (tFld J.K te f) := fun {G0 H0 G H ρ σ Q} w p => by
  refine h w (p.bind.imp (fun d _ q v G1 H1 _ e1 _ r1 => ?_) fun _ q => q)
  cases z : fldD C f d with
  | ok e =>
    rw [z] at q
    obtain ⟨a, dx, fs, u, rfl, h1, h2, h3⟩ := fld_run r1 z
    exact ⟨a, J.ca C, dx, fs, u, rfl, h1, cl, na, h2, q.of_ok u G1 H1 Pno e1 Fr.no h3⟩
  | ex c => exact absurd z (nx_fld d c)
  | no => rw [z] at q; cases q
/-- a field of the owned self: a frozen one -/
def fldID (C f : Str) (j : Nat) (d : Dt) : Rs Dt := match d with
  | .ins C' ns ds => if C' = C then (if fix f ns = some j then (match ds[j]? with | some e => .ok e | none => .no) else .no) else .no
  | _ => .no
def fldIE (C f : Str) (j i : Nat) (ρ : Ev) : Rs Dt := varE i ρ >>= fldID C f j
theorem Ows.at {K : PySem.W.Frag} {ca : Str → Addr} {ds : List Dt} {us : List V} {P : Addr → Prop} {k : Nat} (h : Ows K ca G H ms ds us P) (hm : ms[k]? = some m) (hd : ds[k]? = some d) : ∃ v Pk, us[k]? = some v ∧ Ow K ca G H m d v Pk := by
  obtain ⟨v, Pk, a, b, _⟩ := h.focus hm hd
  exact ⟨v, Pk, a, b⟩
theorem fldI_run {C f : Str} {j i : Nat} (w : Wd J G0 H0 Γ ρ σ G H) (hm : Γ[i]? = some (.I ms)) {e : Dt} (q : fldIE C f j i ρ = .ok e) (hj : ms[j]? = some m) : ∃ a dx fs u P, σ[i]? = some (some (.ref a)) ∧ H a = some (.ins (J.ca C) dx fs) ∧ fs.lookup f = some u ∧ Ow J.K J.ca G H m e u P := by
  obtain ⟨d, q1, q2⟩ := bind_ok q
  obtain ⟨v, m', P, s1, s2, s3, _⟩ := w.get (varE_ok q1)
  rw [hm] at s2
  cases s2
  cases s3 with
  | @I _ C' a dx ns us ds _ h1 h2 h3 h4 h5 =>
    replace q2 : (if C' = C then (if fix f ns = some j then (match ds[j]? with | some e => Rs.ok e | none => .no) else .no) else .no) = .ok e := q2
    split at q2
    · rename_i hC
      subst hC
      split at q2
      · rename_i hf
        cases z2 : ds[j]? with
        | none => simp only [z2] at q2; cases q2
        | some e' =>
          simp only [z2] at q2
          cases q2
          obtain ⟨u, Pk, hu, ou⟩ := h5.at hj z2
          exact ⟨a, dx, _, u, Pk, s1, h1, fix_lookup hf hu, ou⟩
      · cases q2
    · cases q2
theorem nx_fldI {C f : Str} {j i : Nat} : ∀ c, fldIE C f j i ρ ≠ .ex c := by
  intro c
  unfold fldIE varE
  split
  · show fldID _ _ _ _ ≠ _
    unfold fldID
    split
    · split
      · split
        · split <;> intro q <;> cases q
        · intro q; cases q
      · intro q; cases q
    · intro q; cases q
  · intro q; cases q
theorem se_fldI {C f : Str} {j i : Nat} (cl : Cls J.K (J.ca C)) (na : NoAttr J.K (J.ca C) f) (hm : Γ[i]? = some (.I ms)) (hj : ms[j]? = some .F) : SemE J Γ (.o .F) (fldIE C f j i) (tFld J.K (tVar i) f) := fun {G0 H0 G H ρ σ Q} w p => by
  cases z : fldIE C f j i ρ with
  | ok e =>
    rw [z] at p
    obtain ⟨a, dx, fs, u, P, s1, h1, h2, o⟩ := fldI_run w hm z hj
    cases o with
    | F o => exact ⟨_, s1, a, J.ca C, dx, fs, u, rfl, h1, cl, na, h2, p.of_ok u G H Pno (Ext.refl w.gh) Fr.no (.F o)⟩
  | ex c => exact absurd z (nx_fldI c)
  | no => rw [z] at p; cases p
theorem se_fldIS {C f : Str} {j i : Nat} (cl : Cls J.K (J.ca C)) (na : NoAttr J.K (J.ca C) f) (hm : Γ[i]? = some (.I ms)) (hj : ms[j]? = some (.L .F)) : SemE J Γ .S (fldIE C f j i) (tFld J.K (tVar i) f) := fun {G0 H0 G H ρ σ Q} w p => by
  cases z : fldIE C f j i ρ with
  | ok e =>
    rw [z] at p
    obtain ⟨a, dx, fs, u, P, s1, h1, h2, o⟩ := fldI_run w hm z hj
    exact ⟨_, s1, a, J.ca C, dx, fs, u, rfl, h1, cl, na, h2, p.of_ok u G H Pno (Ext.refl w.gh) Fr.no (res_S w.gh o)⟩
  | ex c => exact absurd z (nx_fldI c)
  | no => rw [z] at p; cases p
/-- self.f = e, a new field of the owned self (slot i) -/
def newF0 (f : Str) (i : Nat) (Fe : Ev → Rs Dt) (ρ : Ev) : Ot := bindS (Fe ρ) ρ fun y => bindS (varE i ρ) ρ fun d => match d with
  | .ins C ns ds => if fix f ns = none ∧ ns.length < 100 then .nx (ρ.set i (some (.ins C (ns ++ [f]) (ds ++ [y])))) else .no
  | _ => .no
def newF (C f : Str) (i : Nat) (Fe : Ev → Rs Dt) (ρ : Ev) : Ot := bindS (varE i ρ) ρ fun d => match d with
  | .ins C' _ _ => if C' = C then newF0 f i Fe ρ else .no
  | _ => .no
theorem ss_newF {C f : Str} {i : Nat} (cl : Cls J.K (J.ca C)) (na : NoAttr J.K (J.ca C) f) (hm : Γ[i]? = some (.I ms)) (h : SemE J Γ (.o m) Fe te) (hx : Gx J Γ) :
    SemS J Γ (Γ.set i (.I (ms ++ [m]))) (newF C f i Fe) (sFld J.K (tVar i) te f) := fun {G0 H0 G H ρ σ D} w p => by
  replace p := PostS.bind w hx p
  cases hv : varE i ρ with
  | ex c => unfold varE at hv; split at hv <;> cases hv
  | no => rw [hv] at p; cases p
  | ok d =>
  rw [hv] at p
  replace p := p.of_ok
  have hq := varE_ok hv
  obtain ⟨Pf, h1, h2, h3⟩ := w.env
  obtain ⟨v, m', s1, s2, s3⟩ := h3 i d hq
  rw [hm] at s2
  cases s2
  cases s3 with
  | @I _ C' a dx ns us ds _ k1 k2 k3 k4 k5 =>
    replace p : PostS J G0 H0 G (Γ.set i (.I (ms ++ [m]))) D (if C' = C then newF0 f i Fe ρ else .no) := p
    by_cases hC : C' = C
    case neg => rw [if_neg hC] at p; cases p
    rw [if_pos hC] at p
    subst hC
    unfold newF0 at p
    refine h w ((PostS.bind w hx p).imp (fun y _ q u G1 H1 P1 e1 f1 o1 => ?_) fun _ q => q)
    replace q : PostS J G0 H0 G (Γ.set i (.I (ms ++ [m]))) D (if fix f ns = none ∧ ns.length < 100 then .nx (ρ.set i (some (.ins C' (ns ++ [f]) (ds ++ [y])))) else .no) := by
      rw [hv] at q
      exact q
    by_cases hf : fix f ns = none ∧ ns.length < 100
    case neg => rw [if_neg hf] at q; cases q
    rw [if_pos hf] at q
    have hna : H a ≠ none := by rw [k1]; exact fun z => by cases z
    have ga : G1 a = none := by rw [e1.base a hna]; exact k2
    have hl : i < ρ.length := (List.getElem?_eq_some_iff.mp hq).1
    have zl : (ns.zip us).length = ns.length := by rw [List.length_zip, k4, Nat.min_self]
    refine ⟨_, s1, a, J.ca C', dx, ns.zip us, rfl, e1.h _ _ k1, cl, na, by rw [zl]; omega, ?_⟩
    rw [fix_putN k4 hf.1]
    have pa : ∀ b, P1 b → b ≠ a := fun b hb z => hna (by rw [← z]; exact (f1 b hb).2.1)
    have carry : ∀ b, H b ≠ none → b ≠ a → G b = none → (upd H1 a (.ins (J.ca C') dx ((ns ++ [f]).zip (us ++ [u])))) b = H b ∧ G1 b = none := fun b hb hn hg => ⟨by rw [upd_ne hn]; exact e1.h.at hb, by rw [e1.base b hb]; exact hg⟩
    refine q.of_nx σ G1 _ e1.g ⟨(w.x.trans e1).mut (h2 i a k3).2.1 ga, by rw [List.length_set, List.length_set]; exact w.lg, by rw [List.length_set]; exact w.lr, ⟨fun j b => if j = i then (Pf i b ∨ P1 b) else Pf j b, fun j k b q r s => ?_, fun j b q => ?_, fun j c q => ?_⟩, w.pn⟩
    · by_cases hj : j = i
      · by_cases hk : k = i
        · exact q (hj.trans hk.symm)
        · simp only [hj, if_true] at r
          simp only [hk, if_false] at s
          rcases r with z | z
          · exact h1 k i b hk s z
          · exact (h2 k b s).2.2 (f1 b z).2.1
      · simp only [hj, if_false] at r
        by_cases hk : k = i
        · simp only [hk, if_true] at s
          rcases s with z | z
          · exact h1 j i b hj r z
          · exact (h2 j b r).2.2 (f1 b z).2.1
        · simp only [hk, if_false] at s
          exact h1 j k b q r s
    · have up : ∀ b, H1 b ≠ none → (upd H1 a (.ins (J.ca C') dx ((ns ++ [f]).zip (us ++ [u])))) b ≠ none := fun b hb => by
        by_cases z : b = a
        · rw [z, upd_same]; exact fun z => by cases z
        · rw [upd_ne z]; exact hb
      by_cases hj : j = i
      · simp only [hj, if_true] at q
        rcases q with q | q
        · obtain ⟨a1, a2, a3⟩ := h2 i b q
          exact ⟨by rw [e1.base b a3]; exact a1, a2, up b (e1.h.nn a3)⟩
        · exact ⟨(f1 b q).1, w.x.h.free (f1 b q).2.1, up b (f1 b q).2.2⟩
      · simp only [hj, if_false] at q
        obtain ⟨a1, a2, a3⟩ := h2 j b q
        exact ⟨by rw [e1.base b a3]; exact a1, a2, up b (e1.h.nn a3)⟩
    · by_cases hj : j = i
      · subst hj
        rw [List.getElem?_set_self hl] at q
        have hd : Dt.ins C' (ns ++ [f]) (ds ++ [y]) = c := by simpa using q
        subst hd
        refine ⟨_, .I (ms ++ [m]), s1, List.getElem?_set_self (by rw [w.lg]; exact hl), ?_⟩
        simp only [if_true]
        refine .I upd_same ga (.inl k3) (by rw [List.length_append, List.length_append, k4]; rfl) ?_
        refine Ows.append (P1 := fun b => Pf j b ∧ b ≠ a) (P2 := P1) (k5.carry e1.g fun b hb => carry b (h2 j b hb.1).2.2 hb.2 (h2 j b hb.1).1) (.cons (P1 := P1) (P2 := Pno) (o1.carry (Same.refl _) fun b hb => ⟨upd_ne (pa b hb), (f1 b hb).1⟩) .nil (fun _ z => z) (fun _ z => z.elim) (fun _ _ z => z)) (fun b hb => ⟨.inl hb.1, hb.2⟩) (fun b hb => ⟨.inr hb, pa b hb⟩) fun b q1 q2 => ?_
        exact (h2 j b q1.1).2.2 (f1 b q2).2.1
      · rw [List.getElem?_set_ne (Ne.symm hj)] at q
        obtain ⟨v2, m2, t1, t2, t3⟩ := h3 j c q
        refine ⟨v2, m2, t1, by rw [List.getElem?_set_ne (Ne.symm hj)]; exact t2, ?_⟩
        simp only [hj, if_false]
        exact t3.carry e1.g fun b hb => carry b (h2 j b hb).2.2 (fun z => h1 j i b hj hb (by rw [z]; exact k3)) (h2 j b hb).1
end
end Pm
namespace Pm
open PySem PySem.Spec PyProof.Rows L2
open Classical
/-! ### what a def promises -/
def spM (K : PySem.W.Frag) (ca : Str → Addr) (np : Nat) (m : Mode) (Fn : List Dt → Rs Dt) : Sp := fun vs H Q E => vs.length = np ∧ ∃ G ds, Same G H ∧ Rps K ca G ds vs ∧
  Rs.Post (fun d => ∀ v G' H' P, Ext G H G' H' → Fr G' H H' P → Ow K ca G' H' m d v P → Q v H') (fun c => ∀ dx H', Same H H' → XR c dx H' → E (.ref (ca c.1)) dx H') (Fn ds)
def isF : Mode → Bool
  | .F => true
  | _ => false
def outF (m : Mode) : Ot → Rs Dt
  | .nx _ => if isF m = true then .ok .non else .no
  | .rt d => .ok d
  | .ex c _ => .ex c
  | _ => .no
def defF (np nl : Nat) (m : Mode) (F : Ev → Ot) (ds : List Dt) : Rs Dt := if ds.length = np then outF m (F (ds.map some ++ List.replicate (nl - np) none)) else .no
theorem defF_len {np nl : Nat} {m : Mode} {F : Ev → Ot} {ds : List Dt} (h : ds.length ≠ np) : defF np nl m F ds = .no := if_neg h
section
variable {P : Program} {w : World} {K : PySem.W.Frag} {ca : Str → Addr} {mg : Str → Option Value} {base : Heap} {x qual : Str} {params : Arguments} {body : List Stmt} {scope : Scope} {f : Addr} {fd : FuncData} {N ps : List Str} {k : Nat} {m : Mode}
theorem fn_def {Fb : Ev → Ot} {Γ0 Γ1 : List Mode} (F : FunD K x qual params body scope [] [] f fd) (S : FnScope N ps scope) (hg : Γ0.length = N.length) (hp : ∀ i, i < ps.length → Γ0[i]? = some .F)
    (hb : ∀ (cdv : Value) (A : Around) (outer : List Env) (s : Shared) (H : Hp) (E : XK), Room k (A.deeper (envOfC qual scope s.heap.objs.size f cdv)) →
      ∃ t, PSs (cxOf (L2.CX P w) P w K mg base N qual scope f cdv A outer s H E) body t ∧ SemS ⟨K, ca, fun cls d _ H => E cls d H, none, [], m, []⟩ Γ0 Γ1 Fb t) :
    FnOk P w K mg base (L2.CX P w) (k + 1) f fd ps (spM K ca ps.length m (defF ps.length N.length m Fb)) := by
  refine F.ok S (fun vs H Q E h => h.1) fun cdv A outer s H vs Q E hr h => ?_
  obtain ⟨hl, G, ds, sg, r, p⟩ := h
  obtain ⟨t, ht, hs⟩ := hb cdv A outer s H E hr
  refine ⟨t, ht, ?_⟩
  have hpl : ps.length ≤ N.length := by have := congrArg List.length S.pre; rw [List.length_take] at this; omega
  have hdl : ds.length = ps.length := by rw [r.length]; exact hl
  have lgt : (ds.map some ++ List.replicate (N.length - ps.length) none : Ev).length = N.length := by
    rw [List.length_append, List.length_map, List.length_replicate, hdl]; omega
  refine hs (G0 := G) (H0 := H) (G := G) (H := H) (ρ := ds.map some ++ List.replicate (N.length - ps.length) none) (σ := L2.start N vs) (D := { nx := fun _ H' => Q .non H', rt := Q }) ⟨Ext.refl sg, by rw [lgt]; exact hg, ?_, ⟨fun _ => Pno, fun _ _ _ _ z => z.elim, fun _ _ z => z.elim, fun i d q => ?_⟩, fun _ _ z => nomatch z⟩ ?_
  · unfold L2.start
    rw [lgt, List.length_append, List.length_map, List.length_replicate]
    omega
  · have hi : i < ds.length := by
      by_cases hi : i < ds.length
      · exact hi
      · rw [List.getElem?_append_right (by simpa using hi), List.getElem?_replicate] at q
        split at q <;> cases q
    rw [List.getElem?_append_left (by simpa using hi), List.getElem?_map] at q
    have e : ds[i]? = some d := by
      cases z : ds[i]? with
      | none => rw [z] at q; cases q
      | some e => rw [z] at q; cases q; rfl
    obtain ⟨v, hv, rv⟩ := r.get e
    refine ⟨v, .F, ?_, hp i (by omega), .F rv⟩
    unfold L2.start
    rw [List.getElem?_append_left (by rw [List.length_map]; omega), List.getElem?_map, hv]
    rfl
  · unfold defF at p
    rw [if_pos hdl] at p
    cases q : Fb (ds.map some ++ List.replicate (N.length - ps.length) none) with
    | nx ρ' =>
      rw [q] at p
      refine .nx fun σ' G' H' _ w' => ?_
      replace p : Rs.Post _ _ (if isF m = true then Rs.ok Dt.non else Rs.no) := p
      by_cases c : isF m = true
      · rw [if_pos c] at p
        have hm : m = .F := by cases m <;> first | rfl | cases c
        subst hm
        exact p.of_ok .non G' H' Pno w'.x Fr.no (.F .non)
      · rw [if_neg c] at p; cases p
    | rt d =>
      rw [q] at p
      exact .rt p.of_ok
    | bk _ => rw [q] at p; cases p
    | ct _ => rw [q] at p; cases p
    | ex c ρ' =>
      rw [q] at p
      exact .ex fun dx σ' H' s x _ => p.of_ex dx H' s x
    | no => rw [q] at p; cases p
end
/-! ### calls -/
def tMethS (C : Addr) (m : Str) (sp : Sp) (E : L2.St → XK) (ta : TE) (t : TA) : TE := fun σ H Q => ta σ H fun x H1 => ∃ a dx fs, x = .ref a ∧ H1 a = some (.ins C dx fs) ∧ fs.lookup m = none ∧ t σ H1 fun vs H2 => sp (x :: vs) H2 Q (E σ)
def tMakeS (C : Addr) (sp : Sp) (E : L2.St → XK) (t : TA) : TE := fun σ H Q => t σ H fun vs H1 => ∀ x dx, H1 x = none → H1 dx = none → dx ≠ x →
  sp (.ref x :: vs) (upd (upd H1 dx (.own x)) x (.ins C dx [])) (fun v H2 => v = .non ∧ Q (.ref x) H2) (E σ)
section
variable {X : Cx} {CX : CXT} {k : Nat} {f C : Addr} {fd : FuncData} {ps : List Str} {sp : Sp} {E : L2.St → XK} {x m : Str} {p pos apos : Pos} {e o : Expr} {es : List Expr} {ta : TE} {t : TA}
theorem pe_callS0 (F : FnOk X.prog X.w X.K X.mg X.base CX k f fd ps sp) (hr : Room k X.A) (hg : Gl X x) (hm : X.mg x = some (.ref f)) (hk : PySem.W.keepIn X.K (.ref f) = true) (hb : Binds X.K fd ps []) (hx : ∀ σ, PassesAt CX X σ (E σ))
    (hdb : (x == ("__debug__" : Str)) = false := by decide) : PE X (.Call (.Name x p) [] [] pos) (tCallS sp E tNil) := by
  refine ⟨fun pins s σ H Q I h => ?_⟩
  refine wpAny_Call_Name_kw (ld_glob I hg hm ?_ hdb)
  exact PySem.W.callWith_K0 I.kIn hk (run_fnS (us := []) F hr hb (hx σ) I .nil h)
theorem pe_methS {pl : Sem Bool} (he : PE X o ta) (c : Cls X.K C) (hm : Meth X.K C m f) (F : FnOk X.prog X.w X.K X.mg X.base CX k f fd ps sp) (hr : Room k X.A) (hb : Binds X.K fd ps []) (hx : ∀ σ, PassesAt CX X σ (E σ)) (ha : PA X (e :: es) t)
    (hst : starEach (e :: es) X.env = (false, eval e X.env) :: starEach es X.env := by rfl) (hpl : (backTo pos (starEach es X.env)).any (·.1) = false := by rfl)
    (ht : eval (.Call (.Attribute o m apos) (e :: es) [] pos) X.env = (do
      let ov ← eval o X.env
      standAt apos.atName
      let (f, first) ← holding [ov] (getMethod ov m pl)
      callWith pos f first (backTo pos (starEach (e :: es) X.env)) (backToKw pos (keywordEach [] X.env))) := by rfl) :
    PE X (.Call (.Attribute o m apos) (e :: es) [] pos) (tMethS C m sp E ta t) := by
  refine ⟨fun pins s σ H Q I h => ?_⟩
  refine PySem.W.methodCall_KW (pl := pl) (thn (he.run pins s σ H _ I h) fun u s1 ⟨x, H1, I1, rx, a, dx, fs, ex, ea, l, q⟩ => ?_) ht
  subst ex
  obtain rfl : u = Value.ref a := rx
  refine getmeth_ok I1 ea c hm l ?_
  refine PySem.W.callWith_K (first := [.ref a]) (h₀ := X.base) I.ok.mod.kin hm.kp (thn (ha.run pos pins s1 σ H1 _ I1 q) fun us s2 ⟨vs, H2, I2, r, q2⟩ => ⟨I2.kIn, ?_⟩) hst hpl
  exact run_fnS (us := .ref a :: us) (vs := .ref a :: vs) F hr hb (hx σ) I2 (.cons rfl r) q2
theorem pe_methS0 {pl : Sem Bool} (he : PE X o ta) (c : Cls X.K C) (hm : Meth X.K C m f) (F : FnOk X.prog X.w X.K X.mg X.base CX k f fd ps sp) (hr : Room k X.A) (hb : Binds X.K fd ps []) (hx : ∀ σ, PassesAt CX X σ (E σ))
    (ht : eval (.Call (.Attribute o m apos) [] [] pos) X.env = (do
      let ov ← eval o X.env
      standAt apos.atName
      let (f, first) ← holding [ov] (getMethod ov m pl)
      callWith pos f first (backTo pos (starEach [] X.env)) (backToKw pos (keywordEach [] X.env))) := by rfl) :
    PE X (.Call (.Attribute o m apos) [] [] pos) (tMethS C m sp E ta tNil) := by
  refine ⟨fun pins s σ H Q I h => ?_⟩
  refine PySem.W.methodCall_KW (pl := pl) (thn (he.run pins s σ H _ I h) fun u s1 ⟨x, H1, I1, rx, a, dx, fs, ex, ea, l, q⟩ => ?_) ht
  subst ex
  obtain rfl : u = Value.ref a := rx
  refine getmeth_ok I1 ea c hm l ?_
  exact PySem.W.callWith_K0 (first := [.ref a]) I1.kIn hm.kp (run_fnS (us := [.ref a]) (vs := [.ref a]) F hr hb (hx σ) I1 (.cons rfl .nil) q)
theorem run_makeS {pins : List (Addr × Obj)} {σ : L2.St} {H : Hp} {s : Shared} {Q : VK} {us : List Value} {vs : List V} (M : Mk X.K C f) (F : FnOk X.prog X.w X.K X.mg X.base CX k f fd ps sp) (hr : Room (k + 1) X.A) (hb : Binds X.K fd ps []) (hx : PassesAt CX X σ (E σ))
    (I : Inv X pins σ H s) (r : Vals vs us)
    (h : ∀ x dx, H x = none → H dx = none → dx ≠ x → sp (.ref x :: vs) (upd (upd H dx (.own x)) x (.ins C dx [])) (fun v H2 => v = .non ∧ Q (.ref x) H2) (E σ)) :
    wpAny (model X.prog X.w) X.A (call (.ref C) us) (EP X pins σ Q) X.xe s := by
  have hq := h (s.heap.objs.size + 1) s.heap.objs.size (I.hok.fresh (Nat.le_succ _)) (I.hok.fresh (Nat.le_refl _)) (Nat.ne_of_lt (Nat.lt_succ_self _))
  have I2 := Inv.made (C := C) I
  have r2 : Vals (V.ref (s.heap.objs.size + 1) :: vs) (Value.ref (s.heap.objs.size + 1) :: us) := .cons rfl r
  have hl : (Value.ref (s.heap.objs.size + 1) :: us).length = ps.length := by
    have e := r2.length
    rw [F.len _ _ _ _ hq] at e
    exact e.symm
  have b := hb _ (Value.ref (s.heap.objs.size + 1) :: us) I2.kIn (by rw [List.append_nil]; exact hl)
  rw [List.append_nil] at b
  refine wpAny_call (make_map (f := f) I.kIn M.makes M.init (beq_iff_eq.mp M.fn) (codeAny_mono (F.run _ X.stack _ _ ⟨Value.ref (s.heap.objs.size + 1) :: us, []⟩ (Value.ref (s.heap.objs.size + 1) :: us) _ _ (E σ) (hr.make C us [])
    (I2.env0.make C us []) b r2 hq) fun r s' hq' => ?_))
  cases r with
  | error e => exact hx pins _ _ e s' I2 hq'
  | ok fl =>
    cases fl with
    | ret u =>
      obtain ⟨v, H', I3, rv, ev, q3⟩ := I2.after hq'
      subst ev
      exact ⟨rv, ⟨V.ref (s.heap.objs.size + 1), H', I3, rfl, q3⟩⟩
    | next => exact False.elim hq'
    | brk => exact False.elim hq'
    | cont => exact False.elim hq'
theorem pe_makeS (M : Mk X.K C f) (F : FnOk X.prog X.w X.K X.mg X.base CX k f fd ps sp) (hr : Room (k + 1) X.A) (hg : Gl X x) (hm : X.mg x = some (.ref C)) (hb : Binds X.K fd ps []) (hx : ∀ σ, PassesAt CX X σ (E σ))
    (ha : PA X (e :: es) t) (hdb : (x == ("__debug__" : Str)) = false := by decide) (he : starEach (e :: es) X.env = (false, eval e X.env) :: starEach es X.env := by rfl) (hpl : (backTo pos (starEach es X.env)).any (·.1) = false := by rfl) :
    PE X (.Call (.Name x p) (e :: es) [] pos) (tMakeS C sp E t) := by
  refine ⟨fun pins s σ H Q I h => ?_⟩
  refine wpAny_Call_Name_kw (ld_glob I hg hm ?_ hdb)
  refine PySem.W.callWith_K (h₀ := X.base) I.ok.mod.kin M.kp (thn (ha.run pos pins s σ H _ I h) fun us s1 ⟨vs, H1, I1, r, q⟩ => ⟨I1.kIn, ?_⟩) he hpl
  exact run_makeS M F hr hb (hx σ) I1 r q
end
section
variable {J : Jc} {Γ Γ' Γ1 Γ2 : List Mode} {em : EM} {m : Mode} {ms : List Mode} {Fe Fa Fb Fi : Ev → Rs Dt} {Fs : List (Ev → Rs Dt)} {te ta tb ti : TE} {tr : TA} {G0 H0 Gs G H G' H' : Hp} {ρ : Ev} {σ : L2.St} {vs : List Nat} {Fn : List Dt → Rs Dt} {np : Nat}
def callE (Fn : List Dt → Rs Dt) (Fs : List (Ev → Rs Dt)) (ρ : Ev) : Rs Dt := argsE Fs ρ >>= Fn
theorem se_call (h : SemZ J Γ ms Fs tr) (hF : allF ms = true := by rfl) (hl : Fs.length = np := by rfl) : SemE J Γ (.o m) (callE Fn Fs) (tCallS (spM J.K J.ca np m Fn) (WE J.W) tr) := fun {G0 H0 G H ρ σ Q} w p => by
  refine h w (p.bind.imp (fun ds hd q us G1 H1 P1 e1 f1 o1 => ?_) fun _ q => q)
  have r := o1.allF hF
  refine ⟨by rw [← r.length, argsE_len hd]; exact hl, G1, ds, e1.gh, r, q.imp (fun d _ q v G2 H2 P2 e2 f2 o2 => ?_) fun c q dx H2 s => q H2 dx (e1.h.trans s)⟩
  exact q v G2 H2 P2 (e1.trans e2) (fun b hb => ⟨(f2 b hb).1, e1.h.free (f2 b hb).2.1, (f2 b hb).2.2⟩) o2
/-- arguments looked at alone, a scalar handed back -/
def scalR (r : Rs Dt) : Rs Dt := r >>= fun d => if scal d = true then .ok d else .no
def callBE (Fn : List Dt → Rs Dt) (Fs : List (Ev → Rs Dt)) (ρ : Ev) : Rs Dt := argsE Fs ρ >>= fun ds => scalR (Fn ds)
theorem se_callB (h : SemBs J Γ Fs tr) (hl : Fs.length = np := by rfl) : SemE J Γ (.o .F) (callBE Fn Fs) (tCallS (spM J.K J.ca np .F Fn) (WE J.W) tr) := fun {G0 H0 G H ρ σ Q} w p => by
  refine h w (p.bind.imp (fun ds hd q us G1 H1 e1 r => ?_) fun _ q => q)
  refine ⟨by rw [← r.length, argsE_len hd]; exact hl, H1, ds, Same.refl _, r, (Rs.Post.bind q).imp (fun d _ q v G2 H2 P2 e2 f2 o2 => ?_) fun c q dx H2 s => q H2 dx (e1.h.trans s)⟩
  cases c : scal d with
  | false =>
    rw [c] at q
    cases q
  | true =>
    rw [c] at q
    cases o2 with
    | F o2 => exact q.of_ok v G1 H2 Pno (e1.trans (Ext.heap e1.gh e2.h)) Fr.no (.F (scal_rp c o2))
/-- o.m(..), o frozen -/
def noMeth (C m : Str) (d : Dt) : Rs Dt := match d with
  | .ins C' ns ds => if C' = C ∧ fix m ns = none then .ok d else .no
  | _ => .no
def methE (C m : Str) (Fn : List Dt → Rs Dt) (Fo : Ev → Rs Dt) (Fs : List (Ev → Rs Dt)) (ρ : Ev) : Rs Dt := Fo ρ >>= fun s => noMeth C m s >>= fun _ => argsE Fs ρ >>= fun ds => Fn (s :: ds)
def methBE (C m : Str) (Fn : List Dt → Rs Dt) (Fo : Ev → Rs Dt) (Fs : List (Ev → Rs Dt)) (ρ : Ev) : Rs Dt := Fo ρ >>= fun s => noMeth C m s >>= fun _ => argsE Fs ρ >>= fun ds => scalR (Fn (s :: ds))
theorem fix_none {f : Str} : ∀ {ns : List Str} {us : List V}, fix f ns = none → (ns.zip us).lookup f = none
  | [], _, _ => rfl
  | g :: r, [], _ => rfl
  | g :: r, x :: us, h => by
    unfold fix at h
    by_cases q : f = g
    · rw [if_pos q] at h; cases h
    · rw [if_neg q] at h
      cases z : fix f r with
      | some i => rw [z] at h; cases h
      | none =>
        show (match f == g with | true => some x | false => (r.zip us).lookup f) = none
        rw [show (f == g) = false from beq_eq_false_iff_ne.mpr q]
        exact fix_none z
theorem noMeth_run {K : PySem.W.Frag} {ca : Str → Addr} {C m : Str} {d e : Dt} {v : V} (r : Rp K ca H d v) (q : noMeth C m d = .ok e) : ∃ a dx fs, v = .ref a ∧ H a = some (.ins (ca C) dx fs) ∧ fs.lookup m = none := by
  cases r with
  | @ins C' a dx ns us ds h1 h2 h3 =>
    replace q : (if C' = C ∧ fix m ns = none then Rs.ok (Dt.ins C' ns ds) else .no) = .ok e := q
    split at q
    · rename_i hC
      obtain ⟨hC, hf⟩ := hC
      subst hC
      exact ⟨a, dx, _, rfl, h1, fix_none hf⟩
    · cases q
  | _ => cases q
theorem nx_noMeth {C m : Str} {d : Dt} {c : Xn} : noMeth C m d ≠ .ex c := by
  unfold noMeth
  split
  · split <;> intro q <;> cases q
  · intro q; cases q
theorem se_meth {C mm : Str} (ho : SemE J Γ (.o .F) Fa ta) (h : SemZ J Γ ms Fs tr) (hF : allF ms = true := by rfl) (hl : Fs.length + 1 = np := by rfl) : SemE J Γ (.o m) (methE C mm Fn Fa Fs) (tMethS (J.ca C) mm (spM J.K J.ca np m Fn) (WE J.W) ta tr) := fun {G0 H0 G H ρ σ Q} w p => by
  refine ho w (p.bind.imp (fun s _ q v G1 H1 _ e1 _ o1 => ?_) fun _ q => q)
  cases o1 with
  | F o1 =>
  cases z : noMeth C mm s with
  | ex c => exact absurd z nx_noMeth
  | no => rw [z] at q; cases q
  | ok s' =>
    rw [z] at q
    obtain ⟨a, dx, fs, rfl, h1, h2⟩ := noMeth_run o1 z
    refine ⟨a, dx, fs, rfl, e1.gh _ _ h1, h2, h (w.ext e1) ((Rs.Post.bind (r := argsE Fs ρ) q).imp (fun ds hd q us G2 H2 P2 e2 f2 o2 => ?_) fun _ q H' dx s => q H' dx (e1.h.trans s))⟩
    have r := o2.allF hF
    have e := e1.trans e2
    refine ⟨by rw [List.length_cons, ← r.length, argsE_len hd]; exact hl, G2, s :: ds, e2.gh, .cons (o1.mono e2.g) r, Rs.Post.imp q (fun d _ q v G3 H3 P3 e3 f3 o3 => ?_) fun c q dx H2 s => q H2 dx (e.h.trans s)⟩
    exact q v G3 H3 P3 (e.trans e3) (fun b hb => ⟨(f3 b hb).1, e.h.free (f3 b hb).2.1, (f3 b hb).2.2⟩) o3
theorem se_methB {C mm : Str} (ho : SemE J Γ .B Fa ta) (h : SemBs J Γ Fs tr) (hl : Fs.length + 1 = np := by rfl) : SemE J Γ (.o .F) (methBE C mm Fn Fa Fs) (tMethS (J.ca C) mm (spM J.K J.ca np .F Fn) (WE J.W) ta tr) := fun {G0 H0 G H ρ σ Q} w p => by
  refine ho w (p.bind.imp (fun s _ q v G1 H1 _ e1 _ o1 => ?_) fun _ q => q)
  cases z : noMeth C mm s with
  | ex c => exact absurd z nx_noMeth
  | no => rw [z] at q; cases q
  | ok s' =>
    rw [z] at q
    obtain ⟨a, dx, fs, rfl, h1, h2⟩ := noMeth_run o1 z
    refine ⟨a, dx, fs, rfl, h1, h2, h (w.ext e1) ((Rs.Post.bind (r := argsE Fs ρ) q).imp (fun ds hd q us G2 H2 e2 r => ?_) fun _ q H' dx s => q H' dx (e1.h.trans s))⟩
    have e := e1.trans e2
    refine ⟨by rw [List.length_cons, ← r.length, argsE_len hd]; exact hl, H2, s :: ds, Same.refl _, .cons (Rp.mono e2.h o1) r, (Rs.Post.bind q).imp (fun d _ q v G3 H3 P3 e3 f3 o3 => ?_) fun c q dx H2 s => q H2 dx (e.h.trans s)⟩
    cases c : scal d with
    | false =>
      rw [c] at q
      cases q
    | true =>
      rw [c] at q
      cases o3 with
      | F o3 => exact q.of_ok v G2 H3 Pno (e.trans (Ext.heap e.gh e3.h)) Fr.no (.F (scal_rp c o3))
/-! ### __init__, C(..) -/
def spI (K : PySem.W.Frag) (ca : Str → Addr) (C : Str) (np : Nat) (ms : List Mode) (Fn : List Dt → Rs Dt) : Sp := fun vs H Q E => vs.length = np ∧ ∃ (Hb G : Hp) (ds : List Dt) (x dx : Addr) (us : List V), vs = .ref x :: us ∧ Same Hb H ∧ Hb x = none ∧ H x = some (.ins (ca C) dx []) ∧ Same G Hb ∧ Rps K ca G ds us ∧
  Rs.Post (fun d => ∀ G' H' P, Ext G Hb G' H' → Fr G' Hb H' P → Ow K ca G' H' (.I ms) d (.ref x) P → Q .non H') (fun c => ∀ dx H', Same Hb H' → XR c dx H' → E (.ref (ca c.1)) dx H') (Fn ds)
def outI : Ot → Rs Dt
  | .nx ρ => (match ρ[0]? with
    | some (some d) => .ok d
    | _ => .no)
  | .ex c _ => .ex c
  | _ => .no
def initF (C : Str) (np nl : Nat) (F : Ev → Ot) (ds : List Dt) : Rs Dt := if ds.length + 1 = np then outI (F (some (.ins C [] []) :: ds.map some ++ List.replicate (nl - np) none)) else .no
end
section
variable {P : Program} {w : World} {K : PySem.W.Frag} {ca : Str → Addr} {mg : Str → Option Value} {base : Heap} {x qual : Str} {params : Arguments} {body : List Stmt} {scope : Scope} {f : Addr} {fd : FuncData} {N ps : List Str} {k : Nat} {ms : List Mode}
theorem fn_init {C : Str} {Fb : Ev → Ot} {Γ0 Γ1 : List Mode} (F : FunD K x qual params body scope [] [] f fd) (S : FnScope N ps scope) (hg : (Mode.I [] :: Γ0).length = N.length) (hp : ∀ i, i + 1 < ps.length → Γ0[i]? = some .F) (h1 : Γ1[0]? = some (.I ms))
    (hb : ∀ (cdv : Value) (A : Around) (outer : List Env) (s : Shared) (H : Hp) (E : XK) (xv : V), Room k (A.deeper (envOfC qual scope s.heap.objs.size f cdv)) →
      ∃ t, PSs (cxOf (L2.CX P w) P w K mg base N qual scope f cdv A outer s H E) body t ∧ SemS ⟨K, ca, fun cls d _ H => E cls d H, none, [], .F, [(0, xv)]⟩ (.I [] :: Γ0) Γ1 Fb t) :
    FnOk P w K mg base (L2.CX P w) (k + 1) f fd ps (spI K ca C ps.length ms (initF C ps.length N.length Fb)) := by
  refine F.ok S (fun vs H Q E h => h.1) fun cdv A outer s H vs Q E hr h => ?_
  obtain ⟨hl, Hb, G, ds, x, dx, us, rfl, sh, hx, hX, sg, r, p⟩ := h
  obtain ⟨t, ht, hs⟩ := hb cdv A outer s H E (.ref x) hr
  refine ⟨t, ht, ?_⟩
  have hpl : ps.length ≤ N.length := by have := congrArg List.length S.pre; rw [List.length_take] at this; omega
  have hdl : ds.length + 1 = ps.length := by rw [r.length]; exact hl
  have lgt : (some (.ins C [] []) :: ds.map some ++ List.replicate (N.length - ps.length) none : Ev).length = N.length := by
    rw [List.length_append, List.length_cons, List.length_map, List.length_replicate]; omega
  refine hs (G0 := G) (H0 := Hb) (G := G) (H := H) (ρ := some (.ins C [] []) :: ds.map some ++ List.replicate (N.length - ps.length) none) (σ := L2.start N (.ref x :: us)) (D := { nx := fun _ H' => Q .non H', rt := Q })
    ⟨⟨Same.refl _, sh, sg.trans sh, fun _ _ => rfl⟩, by rw [lgt]; exact hg, ?_, ⟨fun i b => i = 0 ∧ b = x, fun i j a q z1 z2 => q (z1.1.trans z2.1.symm), fun i a z => ?_, fun i d q => ?_⟩, fun i v z => by cases (List.mem_singleton.mp z); rfl⟩ ?_
  · unfold L2.start
    rw [lgt, List.length_append, List.length_map, List.length_replicate]
    omega
  · rw [z.2]
    exact ⟨sg.free hx, hx, by rw [hX]; exact fun z => by cases z⟩
  · cases i with
    | zero =>
      have e : Dt.ins C [] [] = d := by simpa using q
      subst e
      exact ⟨.ref x, .I [], rfl, rfl, .I (vs := []) hX (sg.free hx) ⟨rfl, rfl⟩ rfl .nil⟩
    | succ i =>
      have q : (ds.map some ++ List.replicate (N.length - ps.length) none : Ev)[i]? = some (some d) := by simpa using q
      have hi : i < ds.length := by
        by_cases hi : i < ds.length
        · exact hi
        · rw [List.getElem?_append_right (by simpa using hi), List.getElem?_replicate] at q
          split at q <;> cases q
      rw [List.getElem?_append_left (by simpa using hi), List.getElem?_map] at q
      have e : ds[i]? = some d := by
        cases z : ds[i]? with
        | none => rw [z] at q; cases q
        | some e => rw [z] at q; cases q; rfl
      obtain ⟨v, hv, rv⟩ := r.get e
      have hlu : i < us.length := by rw [← r.length]; exact hi
      refine ⟨v, .F, ?_, hp i (by omega), .F rv⟩
      show (some (V.ref x) :: us.map some ++ List.replicate (N.length - (V.ref x :: us).length) none : L2.St)[i + 1]? = _
      rw [List.cons_append, List.getElem?_cons_succ, List.getElem?_append_left (by rw [List.length_map]; exact hlu), List.getElem?_map, hv]
      rfl
  · unfold initF at p
    rw [if_pos hdl] at p
    cases q : Fb (some (.ins C [] []) :: ds.map some ++ List.replicate (N.length - ps.length) none) with
    | nx ρ' =>
      rw [q] at p
      refine .nx fun σ' G' H' _ w' => ?_
      cases z : ρ'[0]? with
      | none => simp only [outI, z] at p; cases p
      | some o =>
      cases o with
      | none => simp only [outI, z] at p; cases p
      | some d =>
        simp only [outI, z] at p
        obtain ⟨Pf, k1, k2, k3⟩ := w'.env
        obtain ⟨v, m, s1, s2, s3⟩ := k3 0 d z
        rw [w'.pn 0 (.ref x) List.mem_cons_self] at s1
        cases s1
        rw [h1] at s2
        cases s2
        exact p.of_ok G' H' (Pf 0) w'.x (fun b hb => k2 0 b hb) s3
    | rt d => rw [q] at p; cases p
    | bk _ => rw [q] at p; cases p
    | ct _ => rw [q] at p; cases p
    | ex c ρ' =>
      rw [q] at p
      exact .ex fun dx σ' H' s x _ => p.of_ex dx H' s x
    | no => rw [q] at p; cases p
end
section
variable {J : Jc} {Γ : List Mode} {ms : List Mode} {ns : List Mode} {Fs : List (Ev → Rs Dt)} {tr : TA} {Fn : List Dt → Rs Dt} {np : Nat}
theorem se_make {C : Str} (h : SemZ J Γ ms Fs tr) (hF : allF ms = true := by rfl) (hl : Fs.length + 1 = np := by rfl) : SemE J Γ (.o (.I ns)) (callE Fn Fs) (tMakeS (J.ca C) (spI J.K J.ca C np ns Fn) (WE J.W) tr) := fun {G0 H0 G H ρ σ Q} w p => by
  refine h w (p.bind.imp (fun ds hd q us G1 H1 P1 e1 f1 o1 => ?_) fun _ q => q)
  have r := o1.allF hF
  intro x dx hx hdx ne
  have s1 : Same H1 (upd (upd H1 dx (.own x)) x (.ins (J.ca C) dx [])) := fun b o e => by
    rw [upd_ne (ne_of_none e hx), upd_ne (ne_of_none e hdx)]
    exact e
  refine ⟨by rw [List.length_cons, ← r.length, argsE_len hd]; exact hl, H1, G1, ds, x, dx, us, rfl, s1, hx, upd_same, e1.gh, r, q.imp (fun d _ q G2 H2 P2 e2 f2 o2 => ⟨rfl, ?_⟩) fun c q dx H2 s => q H2 dx (e1.h.trans s)⟩
  exact q (.ref x) G2 H2 P2 (e1.trans e2) (fun b hb => ⟨(f2 b hb).1, e1.h.free (f2 b hb).2.1, (f2 b hb).2.2⟩) o2
end
end Pm
namespace Pm
open PySem PySem.Spec PyProof.Rows L2
open Classical
/-! ### small helpers for the printed texts -/
theorem hpF : ∀ {Γ : List Mode} {n : Nat}, allF (Γ.take n) = true → n ≤ Γ.length → ∀ i, i < n → Γ[i]? = some .F
  | [], n, _, h, i, hi => by simp at h; omega
  | m :: Γ, 0, _, _, i, hi => by omega
  | m :: Γ, n + 1, h, hl, i, hi => by
    rw [List.take_succ_cons] at h
    cases m with
    | F =>
      cases i with
      | zero => rfl
      | succ i => rw [List.getElem?_cons_succ]; exact hpF (n := n) h (by simpa using hl) i (by omega)
    | _ => cases h
theorem pe_globI {X : Cx} {x : Str} {i : Int} {pos : Pos} (h : ∃ t, X.mg x = some (.int i t)) (hg : Gl X x := by rfl) (hd : (x == ("__debug__" : Str)) = false := by decide) : PE X (.Name x pos) (tC (.int i)) := by
  obtain ⟨t, h⟩ := h
  exact pe_glob (v := .int i) hg h ⟨t, rfl⟩ hd
/-- lists of bools, of ints -/
def blsOf : List Dt → Option (List Bool)
  | [] => some []
  | .bl b :: ds => (blsOf ds).map (b :: ·)
  | _ => none
def intsOf : List Dt → Option (List Int)
  | [] => some []
  | .int i :: ds => (intsOf ds).map (i :: ·)
  | _ => none
section
variable {K : PySem.W.Frag} {ca : Str → Addr} {H : Hp}
theorem rps_bls : ∀ {ds : List Dt} {bs : List Bool} {vs : List V}, blsOf ds = some bs → Rps K ca H ds vs → vs = bs.map V.bl
  | [], bs, vs, h, r => by cases h; cases r; rfl
  | d :: ds, bs, vs, h, r => by
    cases r with
    | cons r1 r2 =>
      cases d with
      | bl b =>
        cases q : blsOf ds with
        | none => simp [blsOf, q] at h
        | some cs =>
          have e : b :: cs = bs := by simpa [blsOf, q] using h
          subst e
          cases r1
          rw [rps_bls q r2]; rfl
      | _ => simp [blsOf] at h
theorem rps_ints : ∀ {ds : List Dt} {bs : List Int} {vs : List V}, intsOf ds = some bs → Rps K ca H ds vs → vs = bs.map V.int
  | [], bs, vs, h, r => by cases h; cases r; rfl
  | d :: ds, bs, vs, h, r => by
    cases r with
    | cons r1 r2 =>
      cases d with
      | int b =>
        cases q : intsOf ds with
        | none => simp [intsOf, q] at h
        | some cs =>
          have e : b :: cs = bs := by simpa [intsOf, q] using h
          subst e
          cases r1
          rw [rps_ints q r2]; rfl
      | _ => simp [intsOf] at h
end
theorem blsOf_map (bs : List Bool) : blsOf (bs.map Dt.bl) = some bs := by
  induction bs with
  | nil => rfl
  | cons b bs ih => rw [List.map_cons, blsOf, ih]; rfl
theorem intsOf_map (bs : List Int) : intsOf (bs.map Dt.int) = some bs := by
  induction bs with
  | nil => rfl
  | cons b bs ih => rw [List.map_cons, intsOf, ih]; rfl
def lisD : Dt → Option (List Dt)
  | .lst ds => some ds
  | .scr ds => some ds
  | _ => none
def allD (d : Dt) : Rs Dt := match lisD d with
  | some ds => (match blsOf ds with | some bs => .ok (.bl (bs.all id)) | none => .no)
  | none => .no
def anyD (d : Dt) : Rs Dt := match lisD d with
  | some ds => (match blsOf ds with | some bs => .ok (.bl (bs.any id)) | none => .no)
  | none => .no
def sumD (d : Dt) : Rs Dt := match lisD d with
  | some ds => (match intsOf ds with | some bs => .ok (.int bs.sum) | none => .no)
  | none => .no
def maxL : List Int → Int
  | [] => 0
  | a :: r => r.foldl max a
def minL : List Int → Int
  | [] => 0
  | a :: r => r.foldl min a
theorem foldl_max_le : ∀ (l : List Int) (a : Int), a ≤ l.foldl max a ∧ (∀ y ∈ l, y ≤ l.foldl max a) ∧ (l.foldl max a = a ∨ l.foldl max a ∈ l)
  | [], a => ⟨Int.le_refl _, fun y h => (by cases h), .inl rfl⟩
  | b :: l, a => by
    obtain ⟨h1, h2, h3⟩ := foldl_max_le l (max a b)
    rw [List.foldl_cons]
    refine ⟨by omega, fun y hy => ?_, ?_⟩
    · rcases List.mem_cons.mp hy with rfl | hy
      · omega
      · exact h2 y hy
    · rcases h3 with h3 | h3
      · by_cases q : a ≤ b
        · right; rw [h3, Int.max_eq_right q]; exact List.mem_cons_self
        · left; rw [h3, Int.max_eq_left (by omega)]
      · right; exact List.mem_cons_of_mem _ h3
theorem foldl_min_le : ∀ (l : List Int) (a : Int), l.foldl min a ≤ a ∧ (∀ y ∈ l, l.foldl min a ≤ y) ∧ (l.foldl min a = a ∨ l.foldl min a ∈ l)
  | [], a => ⟨Int.le_refl _, fun y h => (by cases h), .inl rfl⟩
  | b :: l, a => by
    obtain ⟨h1, h2, h3⟩ := foldl_min_le l (min a b)
    rw [List.foldl_cons]
    refine ⟨by omega, fun y hy => ?_, ?_⟩
    · rcases List.mem_cons.mp hy with rfl | hy
      · omega
      · exact h2 y hy
    · rcases h3 with h3 | h3
      · by_cases q : a ≤ b
        · left; rw [h3, Int.min_eq_left q]
        · right; rw [h3, Int.min_eq_right (by omega)]; exact List.mem_cons_self
      · right; exact List.mem_cons_of_mem _ h3
def maxD (d : Dt) : Rs Dt := match lisD d with
  | some ds => (match intsOf ds with | some (a :: r) => .ok (.int (maxL (a :: r))) | _ => .no)
  | none => .no
def minD (d : Dt) : Rs Dt := match lisD d with
  | some ds => (match intsOf ds with | some (a :: r) => .ok (.int (minL (a :: r))) | _ => .no)
  | none => .no
def allE := op1E allD
def anyE := op1E anyD
def sumE := op1E sumD
def maxE := op1E maxD
def minE := op1E minD
theorem lis_rp {K : PySem.W.Frag} {ca : Str → Addr} {H : Hp} {b : Dt} {y : V} {ds : List Dt} (q : lisD b = some ds) (rb : Rp K ca H b y) : ∃ a vs, y = .ref a ∧ SqL K H a vs ∧ Rps K ca H ds vs := by
  cases rb with
  | lst h1 h2 => cases q; exact ⟨_, _, rfl, .of h1, h2⟩
  | scr h1 h2 => cases q; exact ⟨_, _, rfl, h1, h2⟩
  | _ => cases q
section
variable {J : Jc} {Γ : List Mode} {Fa Fb : Ev → Rs Dt} {ta tb : TE}
theorem nx_lis {g : List Dt → Rs Dt} (h : ∀ ds c, g ds ≠ .ex c) : ∀ a c, (match lisD a with | some ds => g ds | none => Rs.no) ≠ .ex c := by
  intro a c
  split
  · exact h _ _
  · intro q; cases q
theorem se_all (ha : SemE J Γ .B Fa ta) : SemE J Γ (.o .F) (allE Fa) (tCB (rAll J.K) (tCons ta tNil)) := se_cb1 (fun H a d x Q ra q k => by
  unfold allD at q
  cases e : lisD a with
  | none => rw [e] at q; cases q
  | some ds =>
    simp only [e] at q
    cases e2 : blsOf ds with
    | none => rw [e2] at q; cases q
    | some bs =>
      simp only [e2] at q
      cases q
      obtain ⟨p, vs, rfl, hs, r⟩ := lis_rp e ra
      exact ⟨p, bs, rfl, by rw [← rps_bls e2 r]; exact hs, k _ rfl fun _ => .bl _⟩) (nx_lis fun ds c => by split <;> intro q <;> cases q) ha
theorem se_any_ (ha : SemE J Γ .B Fa ta) : SemE J Γ (.o .F) (anyE Fa) (tCB (rAny J.K) (tCons ta tNil)) := se_cb1 (fun H a d x Q ra q k => by
  unfold anyD at q
  cases e : lisD a with
  | none => rw [e] at q; cases q
  | some ds =>
    simp only [e] at q
    cases e2 : blsOf ds with
    | none => rw [e2] at q; cases q
    | some bs =>
      simp only [e2] at q
      cases q
      obtain ⟨p, vs, rfl, hs, r⟩ := lis_rp e ra
      exact ⟨p, bs, rfl, by rw [← rps_bls e2 r]; exact hs, k _ rfl fun _ => .bl _⟩) (nx_lis fun ds c => by split <;> intro q <;> cases q) ha
theorem se_sum (ha : SemE J Γ .B Fa ta) : SemE J Γ (.o .F) (sumE Fa) (tCB (rSum J.K) (tCons ta tNil)) := se_cb1 (fun H a d x Q ra q k => by
  unfold sumD at q
  cases e : lisD a with
  | none => rw [e] at q; cases q
  | some ds =>
    simp only [e] at q
    cases e2 : intsOf ds with
    | none => rw [e2] at q; cases q
    | some bs =>
      simp only [e2] at q
      cases q
      obtain ⟨p, vs, rfl, hs, r⟩ := lis_rp e ra
      exact ⟨p, bs, rfl, by rw [← rps_ints e2 r]; exact hs, k _ rfl fun _ => .int _⟩) (nx_lis fun ds c => by split <;> intro q <;> cases q) ha
theorem se_max (ha : SemE J Γ .B Fa ta) : SemE J Γ (.o .F) (maxE Fa) (tCB (rMax J.K) (tCons ta tNil)) := se_cb1 (fun H a d x Q ra q k => by
  unfold maxD at q
  cases e : lisD a with
  | none => rw [e] at q; cases q
  | some ds =>
    simp only [e] at q
    cases e2 : intsOf ds with
    | none => rw [e2] at q; cases q
    | some bs =>
      cases bs with
      | nil => simp only [e2] at q; cases q
      | cons b r' =>
      simp only [e2] at q
      cases q
      obtain ⟨p, vs, rfl, hs, r⟩ := lis_rp e ra
      refine ⟨p, b :: r', rfl, by rw [← rps_ints e2 r]; exact hs, by simp, fun m hm hle => ?_⟩
      obtain ⟨h1, h2, h3⟩ := foldl_max_le r' b
      have em : m = maxL (b :: r') := by
        have a1 : m ≤ maxL (b :: r') := by
          rcases List.mem_cons.mp hm with z | z
          · rw [z]; exact h1
          · exact h2 m z
        have a2 : maxL (b :: r') ≤ m := hle _ (by
          show r'.foldl max b ∈ b :: r'
          rcases h3 with z | z
          · rw [z]; exact List.mem_cons_self
          · exact List.mem_cons_of_mem _ z)
        omega
      rw [em]
      exact k _ rfl fun _ => .int _) (nx_lis fun ds c => by split <;> intro q <;> cases q) ha
theorem se_min (ha : SemE J Γ .B Fa ta) : SemE J Γ (.o .F) (minE Fa) (tCB (rMin J.K) (tCons ta tNil)) := se_cb1 (fun H a d x Q ra q k => by
  unfold minD at q
  cases e : lisD a with
  | none => rw [e] at q; cases q
  | some ds =>
    simp only [e] at q
    cases e2 : intsOf ds with
    | none => rw [e2] at q; cases q
    | some bs =>
      cases bs with
      | nil => simp only [e2] at q; cases q
      | cons b r' =>
      simp only [e2] at q
      cases q
      obtain ⟨p, vs, rfl, hs, r⟩ := lis_rp e ra
      refine ⟨p, b :: r', rfl, by rw [← rps_ints e2 r]; exact hs, by simp, fun m hm hle => ?_⟩
      obtain ⟨h1, h2, h3⟩ := foldl_min_le r' b
      have em : m = minL (b :: r') := by
        have a1 : minL (b :: r') ≤ m := by
          rcases List.mem_cons.mp hm with z | z
          · rw [z]; exact h1
          · exact h2 m z
        have a2 : m ≤ minL (b :: r') := hle _ (by
          show r'.foldl min b ∈ b :: r'
          rcases h3 with z | z
          · rw [z]; exact List.mem_cons_self
          · exact List.mem_cons_of_mem _ z)
        omega
      rw [em]
      exact k _ rfl fun _ => .int _) (nx_lis fun ds c => by split <;> intro q <;> cases q) ha
/-- max(a, b), min(a, b) of ints -/
def max2E := op2E (i2 fun i j => .ok (.int (if j > i then j else i)))
def min2E := op2E (i2 fun i j => .ok (.int (if j < i then j else i)))
theorem se_cb2 {g : Dt → Dt → Rs Dt} {r : List V → Hp → VK → Prop} (hr : ∀ (H : Hp) (a b d : Dt) (x y : V) (Q : VK), Rp J.K J.ca H a x → Rp J.K J.ca H b y → g a b = .ok d → (∀ v, scal d = true → (∀ G, Rp J.K J.ca G d v) → Q v H) → r [x, y] H Q) (hn : NoEx2 g) (ha : SemE J Γ .B Fa ta) (hb : SemE J Γ .B Fb tb) :
    SemE J Γ (.o .F) (op2E g Fa Fb) (tCB r (tCons ta (tCons tb tNil))) := fun {G0 H0 G H ρ σ Q} w p => by
  refine ha w (p.bind.imp (fun a _ p1 x G1 H1 _ e1 _ ra => ?_) fun _ q => q)
  refine hb (w.ext e1) (p1.bind.imp (fun b _ p2 y G2 H2 _ e2 _ rb => ?_) fun _ q H' dx s => q H' dx (e1.h.trans s))
  show r [x, y] H2 Q
  cases q : g a b with
  | ok d =>
    rw [q] at p2
    exact hr H2 a b d x y Q (Rp.mono e2.h ra) rb q fun v _ hv => p2.of_ok v G2 H2 Pno (e1.trans e2) Fr.no (.F (hv _))
  | ex c => exact absurd q (hn a b c)
  | no => rw [q] at p2; cases p2
theorem se_max2 (ha : SemE J Γ .B Fa ta) (hb : SemE J Γ .B Fb tb) : SemE J Γ (.o .F) (max2E Fa Fb) (tCB (fun xs H Q => ∃ i j, xs = [.int i, .int j] ∧ Q (.int (if j > i then j else i)) H) (tCons ta (tCons tb tNil))) := se_cb2 (fun H a b d x y Q ra rb q k => by
  cases ra with
  | int i =>
    cases rb with
    | int j => cases q; exact ⟨i, j, rfl, k _ rfl fun _ => .int _⟩
    | _ => cases q
  | _ => cases rb <;> cases q) (nx_i2 fun _ _ _ q => by cases q) ha hb
theorem se_min2 (ha : SemE J Γ .B Fa ta) (hb : SemE J Γ .B Fb tb) : SemE J Γ (.o .F) (min2E Fa Fb) (tCB (fun xs H Q => ∃ i j, xs = [.int i, .int j] ∧ Q (.int (if j < i then j else i)) H) (tCons ta (tCons tb tNil))) := se_cb2 (fun H a b d x y Q ra rb q k => by
  cases ra with
  | int i =>
    cases rb with
    | int j => cases q; exact ⟨i, j, rfl, k _ rfl fun _ => .int _⟩
    | _ => cases q
  | _ => cases rb <;> cases q) (nx_i2 fun _ _ _ q => by cases q) ha hb
end
end Pm
namespace Pm
open PySem PySem.Spec PyProof.Rows L2
open Classical
/-! ### try .. except X -/
abbrev Jc.tr (J : Jc) (W : WX) (Γ : List Mode) : Jc := { J with W := W, gx := some Γ }
/-- in the suite nothing is raised -/
abbrev Jc.nx (J : Jc) (p : List (Nat × V)) : Jc := { J with W := fun _ _ _ _ => False, pin := p }
def noX : Ot → Ot
  | .ex _ _ => .no
  | o => o
def tryS (subs : List (Str × Bool)) (Fb Fh : Ev → Ot) (ρ : Ev) : Ot := match Fb ρ with
  | .ex c ρ' => (match subs.lookup c.1 with
    | some true => noX (Fh ρ')
    | some false => .ex c ρ'
    | none => .no)
  | o => o
def tTryO (K : PySem.W.Frag) (c : Value) (th : Addr → Value → Option Addr → TS) (W : WX) (tb : WX → TS) : TS := fun D σ H => tb (wOnly K c th W D) D σ H
def tTryA (K : PySem.W.Frag) (c : Value) (i : Nat) (th : Addr → Value → Option Addr → TS) (W : WX) (tb : WX → TS) : TS := fun D σ H => tb (wAs K c i th W D) D σ H
section
variable {X : Cx} {x n : Str} {c : Value} {i : Nat} {body suite : List Stmt} {b₀ : Stmt} {np pos pos' : Pos} {tb : WX → TS} {ts : Addr → Value → Option Addr → TS} {Wout : WX}
theorem pm_tryO (hs : X.stack = X.env :: X.outer) (hf : X.env.frame = some X.env.locals) (hc : Names X x c) (tk : Takes X Wout)
    (hb : ∀ (W : WX) (pn : List (Addr × Obj)) (xe : Value → Shared → Prop), Takes (X.tr pn xe) W → PassesOwn (model X.prog X.w) X.A X.env xe → PSs (X.tr pn xe) body (tb W))
    (su : ∀ (a : Addr) (oe : Obj) (cls : Value) (d : Option Addr) (pn : List (Addr × Obj)), Zc cls d oe → (∃ vs, oe.data = .fields vs) → PSs (X.suite a ((a, oe) :: pn)) (b₀ :: suite) (ts a cls d)) :
    PS X (.Try body [.ExceptHandler (some (.Name x np)) none (b₀ :: suite) pos'] [] [] pos) (tTryO X.K c ts Wout tb) := ps_try_only hs hf hc tk hb su
theorem pm_tryA (hs : X.stack = X.env :: X.outer) (hf : X.env.frame = some X.env.locals) (hN : X.N.Nodup) (hi : X.N[i]? = some n) (hln : X.env.kindOf n = some .local) (hc : Names X x c) (tk : Takes X Wout)
    (hb : ∀ (W : WX) (pn : List (Addr × Obj)) (xe : Value → Shared → Prop), Takes (X.tr pn xe) W → PassesOwn (model X.prog X.w) X.A X.env xe → PSs (X.tr pn xe) body (tb W))
    (su : ∀ (a : Addr) (oe : Obj) (cls : Value) (d : Option Addr) (pn : List (Addr × Obj)), Zc cls d oe → (∃ vs, oe.data = .fields vs) → PSs (X.suite a ((a, oe) :: pn)) (b₀ :: suite) (ts a cls d)) :
    PS X (.Try body [.ExceptHandler (some (.Name x np)) (some n) (b₀ :: suite) pos'] [] [] pos) (tTryA X.K c i ts Wout tb) := ps_try_as hs hf hN hi hln hc tk hb su
end
section
variable {J : Jc} {Γ Γ' Γx : List Mode} {G0 H0 Gs G H G' H' : Hp} {ρ : Ev} {σ : L2.St} {W : WX} {Fb Fh : Ev → Ot} {tb : WX → TS} {th : TS} {D : Ends}
theorem Wd.tr (w : Wd J G0 H0 Γ ρ σ G H) : Wd (J.tr W Γx) G0 H0 Γ ρ σ G H := ⟨w.x, w.lg, w.lr, w.env, w.pn⟩
theorem Wd.untr (w : Wd (J.tr W Γx) G0 H0 Γ ρ σ G H) : Wd J G0 H0 Γ ρ σ G H := ⟨w.x, w.lg, w.lr, w.env, w.pn⟩
theorem Wd.nxn (w : Wd J G0 H0 Γ ρ σ G H) : Wd (J.nx J.pin) G0 H0 Γ ρ σ G H := ⟨w.x, w.lg, w.lr, w.env, w.pn⟩
theorem Wd.unnx {p : List (Nat × V)} (hp : J.pin = p ∨ J.pin = []) (w : Wd (J.nx p) G0 H0 Γ ρ σ G H) : Wd J G0 H0 Γ ρ σ G H := ⟨w.x, w.lg, w.lr, w.env, fun i v h => by
  rcases hp with hp | hp
  · exact w.pn i v (by rw [← hp]; exact h)
  · rw [hp] at h; cases h⟩
theorem PostS.tr {o : Ot} (hn : ∀ c ρ', o ≠ .ex c ρ') (p : PostS J G0 H0 Gs Γ' D o) : PostS (J.tr W Γx) G0 H0 Gs Γ' D o := by
  cases p with
  | nx p => exact .nx fun a b c d e => p a b c d e.untr
  | rt p => exact .rt p
  | bk p => exact .bk fun a b c d e => p a b c d e.untr
  | ct p => exact .ct fun a b c d e => p a b c d e.untr
  | @ex c ρ' p => exact absurd rfl (hn c ρ')
theorem PostS.nxn {o : Ot} (p : PostS J G0 H0 Gs Γ' D (noX o)) : PostS (J.nx J.pin) G0 H0 Gs Γ' D o := by
  cases o with
  | nx r => cases p with | nx p => exact .nx fun a b c d e => p a b c d (e.unnx (.inl rfl))
  | rt r => cases p with | rt p => exact .rt p
  | bk r => cases p with | bk p => exact .bk fun a b c d e => p a b c d (e.unnx (.inl rfl))
  | ct r => cases p with | ct p => exact .ct fun a b c d e => p a b c d (e.unnx (.inl rfl))
  | ex c r => cases p
  | no => cases p
/-- what a class is to another -/
def Subs (K : PySem.W.Frag) (ca : Str → Addr) (X : Value) (subs : List (Str × Bool)) : Prop := ∀ c b, subs.lookup c = some b → PySem.W.exmOne K (.ref (ca c)) X = some b
theorem ss_try {X : Value} {subs : List (Str × Bool)} (hs : Subs J.K J.ca X subs) (hb : ∀ W, SemS (J.tr W Γx) Γ Γ' Fb (tb W)) (hh : SemS (J.nx J.pin) Γx Γ' Fh th) (hx : J.gx = none) :
    SemS J Γ Γ' (tryS subs Fb Fh) (tTryO J.K X (fun _ _ _ => th) J.W tb) := fun {G0 H0 G H ρ σ D} w p => by
  refine hb _ w.tr ?_
  unfold tryS at p
  cases q : Fb ρ with
  | ex c ρ' =>
    rw [q] at p
    refine .ex fun dx σ' H' s xr k => ?_
    obtain ⟨G', sg, w2⟩ := k Γx rfl
    have p : PostS J G0 H0 G Γ' D (match subs.lookup c.1 with
      | some true => noX (Fh ρ')
      | some false => .ex c ρ'
      | none => .no) := p
    cases z : subs.lookup c.1 with
    | none => rw [z] at p; cases p
    | some b =>
      refine ⟨b, hs _ _ z, fun hb a ha => ?_, fun hb => ?_⟩
      · subst hb
        rw [z] at p
        exact hh w2.untr.nxn ((PostS.nxn p).up sg)
      · subst hb
        rw [z] at p
        cases p with
        | ex p => exact p dx σ' H' s xr fun Γ1 e => by rw [hx] at e; cases e
  | nx r => rw [q] at p; exact p.tr (fun _ _ z => by cases z)
  | rt r => rw [q] at p; exact p.tr (fun _ _ z => by cases z)
  | bk r => rw [q] at p; exact p.tr (fun _ _ z => by cases z)
  | ct r => rw [q] at p; exact p.tr (fun _ _ z => by cases z)
  | no => rw [q] at p; cases p
end
/-! ### try .. except X as n -/
def clrO (i : Nat) : Ot → Ot
  | .nx ρ => .nx (ρ.set i none)
  | .bk ρ => .bk (ρ.set i none)
  | .ct ρ => .ct (ρ.set i none)
  | .rt d => .rt d
  | _ => .no
def tryA (i : Nat) (subs : List (Str × Bool)) (Fb : Ev → Ot) (Fh : Str → Ev → Ot) (ρ : Ev) : Ot := match Fb ρ with
  | .ex c ρ' => (match subs.lookup c.1 with
    | some true => (match c.2 with
      | none => clrO i (Fh c.1 (ρ'.set i none))
      | some _ => .no)
    | some false => .ex c ρ'
    | none => .no)
  | o => o
/-- the suite's reading, by the class that came -/
def tSuite (ca : Str → Addr) (subs : List (Str × Bool)) (th : Addr → Str → TS) (a : Addr) (cls : Value) (d : Option Addr) : TS := fun D σ H => ∃ c, subs.lookup c = some true ∧ cls = .ref (ca c) ∧ d = none ∧ th a c D σ H
section
variable {J : Jc} {Γ Γ' Γx : List Mode} {G0 H0 Gs G H G' H' : Hp} {ρ : Ev} {σ : L2.St} {W : WX} {Fb : Ev → Ot} {Fh : Str → Ev → Ot} {tb : WX → TS} {th : Addr → Str → TS} {D : Ends}
theorem Wd.clr {i : Nat} (w : Wd J G0 H0 Γ ρ σ G H) (x : Option V) (hi : J.free i) : Wd J G0 H0 Γ (ρ.set i none) (σ.set i x) G H := by
  obtain ⟨Pf, h1, h2, h3⟩ := w.env
  refine ⟨w.x, by rw [List.length_set]; exact w.lg, by rw [List.length_set, List.length_set]; exact w.lr, ⟨Pf, h1, h2, fun j c q => ?_⟩, fun k v hv => ?_⟩
  · by_cases hj : j = i
    · subst hj
      by_cases hl : j < ρ.length
      · rw [List.getElem?_set_self hl] at q; cases q
      · rw [List.getElem?_eq_none (by rw [List.length_set]; omega)] at q; cases q
    · rw [List.getElem?_set_ne (Ne.symm hj)] at q
      obtain ⟨v, m, s1, s2, s3⟩ := h3 j c q
      exact ⟨v, m, by rw [List.getElem?_set_ne (Ne.symm hj)]; exact s1, s2, s3⟩
  · have ne : k ≠ i := by
      exact pinB_ne hi hv
    rw [List.getElem?_set_ne (Ne.symm ne)]
    exact w.pn k v hv
theorem Wd.pinned {i : Nat} {a : Addr} (w : Wd J G0 H0 Γ ρ σ G H) (hi : i < ρ.length) (hp : J.pin = []) : Wd (J.nx [(i, .ref a)]) G0 H0 Γ (ρ.set i none) (σ.set i (some (.ref a))) G H := by
  have w2 := w.clr (some (.ref a)) (show pinB J.pin i = true by rw [hp]; rfl)
  refine ⟨w2.x, w2.lg, w2.lr, w2.env, fun k v h => ?_⟩
  have e : (k, v) = (i, V.ref a) := List.mem_singleton.mp h
  cases e
  exact List.getElem?_set_self (by rw [← w.lr]; exact hi)
theorem PostS.clr {i : Nat} {a : Addr} {o : Ot} (hp : J.pin = []) (p : PostS J G0 H0 Gs Γ' D (clrO i o)) : PostS (J.nx [(i, .ref a)]) G0 H0 Gs Γ' { nx := fun σ' H' => D.nx (σ'.set i none) H', rt := D.rt, bk := fun σ' H' => D.bk (σ'.set i none) H', ct := fun σ' H' => D.ct (σ'.set i none) H' } o := by
  have fr : J.free i := by show pinB J.pin i = true; rw [hp]; rfl
  cases o with
  | nx r => cases p with | nx p => exact .nx fun a b c d e => p _ b c d ((e.unnx (.inr hp)).clr none fr)
  | rt r => cases p with | rt p => exact .rt p
  | bk r => cases p with | bk p => exact .bk fun a b c d e => p _ b c d ((e.unnx (.inr hp)).clr none fr)
  | ct r => cases p with | ct p => exact .ct fun a b c d e => p _ b c d ((e.unnx (.inr hp)).clr none fr)
  | ex c r => cases p
  | no => cases p
theorem ss_tryA {X : Value} {i : Nat} {subs : List (Str × Bool)} (hs : Subs J.K J.ca X subs) (hb : ∀ W, SemS (J.tr W Γx) Γ Γ' Fb (tb W)) (hh : ∀ a c, subs.lookup c = some true → SemS (J.nx [(i, .ref a)]) Γx Γ' (Fh c) (th a c)) (hx : J.gx = none) (hp : J.pin = []) (hi : i < Γx.length) :
    SemS J Γ Γ' (tryA i subs Fb Fh) (tTryA J.K X i (tSuite J.ca subs th) J.W tb) := fun {G0 H0 G H ρ σ D} w p => by
  refine hb _ w.tr ?_
  unfold tryA at p
  cases q : Fb ρ with
  | ex c ρ' =>
    rw [q] at p
    refine .ex fun dx σ' H' s xr k => ?_
    obtain ⟨G', sg, w2⟩ := k Γx rfl
    have p : PostS J G0 H0 G Γ' D (match subs.lookup c.1 with
      | some true => (match c.2 with
        | none => clrO i (Fh c.1 (ρ'.set i none))
        | some _ => .no)
      | some false => .ex c ρ'
      | none => .no) := p
    cases z : subs.lookup c.1 with
    | none => rw [z] at p; cases p
    | some b =>
      refine ⟨b, hs _ _ z, fun hb a ha => ?_, fun hb => ?_⟩
      · subst hb
        rw [z] at p
        have p : PostS J G0 H0 G Γ' D (match c.2 with
          | none => clrO i (Fh c.1 (ρ'.set i none))
          | some _ => .no) := p
        cases z2 : c.2 with
        | some n => rw [z2] at p; cases p
        | none =>
          rw [z2] at p
          have dxn : dx = none := by
            unfold XR at xr
            rw [z2] at xr
            exact xr
          refine ⟨c.1, z, rfl, dxn, ?_⟩
          exact hh a c.1 z (w2.untr.pinned (by rw [← w2.lg]; exact hi) hp) ((PostS.clr hp p).up sg)
      · subst hb
        rw [z] at p
        cases p with
        | ex p => exact p dx σ' H' s xr fun Γ1 e => by rw [hx] at e; cases e
  | nx r => rw [q] at p; exact p.tr (fun _ _ z => by cases z)
  | rt r => rw [q] at p; exact p.tr (fun _ _ z => by cases z)
  | bk r => rw [q] at p; exact p.tr (fun _ _ z => by cases z)
  | ct r => rw [q] at p; exact p.tr (fun _ _ z => by cases z)
  | no => rw [q] at p; cases p
end
/-- the suite, whatever class came -/
theorem pss_suite {X : Cx} {b : List Stmt} {ca : Str → Addr} {subs : List (Str × Bool)} {th : Addr → Str → TS} {a : Addr} {cls : Value} {d : Option Addr} (h : ∀ c, subs.lookup c = some true → cls = .ref (ca c) → d = none → PSs X b (th a c)) : PSs X b (tSuite ca subs th a cls d) := by
  refine ⟨fun pins s σ H D I q => ?_⟩
  obtain ⟨c, h1, h2, h3, h4⟩ := q
  exact (h c h1 h2 h3).run pins s σ H D I h4
/-! ### isinstance of the caught exception -/
def isxE (tab : List (Str × Bool)) (c : Str) (_ : Ev) : Rs Dt := match tab.lookup c with
  | some b => .ok (.bl b)
  | none => .no
def Isx (K : PySem.W.Frag) (ca : Str → Addr) (cv : Value) (tab : List (Str × Bool)) : Prop := ∀ c b, tab.lookup c = some b → PySem.W.kitOne K (.ref (ca c)) cv = some b
theorem se_isx {J : Jc} {Γ : List Mode} {i : Nat} {a : Addr} {c : Str} {cv : Value} {v : V} {tab : List (Str × Bool)} (hp : (i, V.ref a) ∈ J.pin) (hv : ∀ u, RelV v u → u = cv) (ht : Isx J.K J.ca cv tab) : SemE J Γ (.o .F) (isxE tab c) (tCB (rIsE J.K (J.ca c) a) (tCons (tVar i) (tCons (tC v) tNil))) := fun {G0 H0 G H ρ σ Q} w p => by
  unfold isxE at p
  cases z : tab.lookup c with
  | none => rw [z] at p; cases p
  | some b =>
    rw [z] at p
    refine ⟨_, w.pn i _ hp, v, cv, b, rfl, hv, ht c b z, ?_⟩
    exact p.of_ok (.bl b) G H Pno (Ext.refl w.gh) Fr.no (.F (.bl b))
/-! the facts, as Bools -/
def excCB (K : PySem.W.Frag) (x : Str) : Bool :=
  He.eqO (PySem.W.findIn K (.ref (He.ga K x)) "__getattribute__") (some (some (.builtin "BaseException.__getattribute__"))) && (He.eqO (PySem.W.findIn K (.ref (He.ga K x)) "__getattr__") (some none) &&
  (decide (PySem.W.subIn K (.ref (He.ga K x)) (.type "BaseException") = some true) && (PySem.W.hasDictIn K (He.ga K x) && (He.eqO (PySem.W.findIn K (.ref (He.ga K x)) "__class__") (some (some (.builtin "object.__class__"))) &&
  (He.eqO (PySem.W.specialIn K (.builtin "object.__class__") "__get__") (some (some (.builtin "getset_descriptor.__get__"))) && (decide (PySem.W.takesIn K (.builtin "object.__class__") = some true) && decide (PySem.W.mroIn K (He.ga K x) (.type "object") = some true)))))))
theorem excCB_ok {K : PySem.W.Frag} {x : Str} (h : excCB K x = true) : ExcC K (He.ga K x) := by
  unfold excCB at h
  obtain ⟨h1, h⟩ := He.ba h
  obtain ⟨h2, h⟩ := He.ba h
  obtain ⟨h3, h⟩ := He.ba h
  obtain ⟨h4, h⟩ := He.ba h
  obtain ⟨h5, h⟩ := He.ba h
  obtain ⟨h6, h⟩ := He.ba h
  obtain ⟨h7, h8⟩ := He.ba h
  exact ⟨He.eqO_ok h1, He.eqO_ok h2, of_decide_eq_true h3, h4, He.eqO_ok h5, He.eqO_ok h6, of_decide_eq_true h7, of_decide_eq_true h8⟩
def subsB (K : PySem.W.Frag) (X : Value) (tab : List (Str × Bool)) : Bool := tab.all fun q => decide (PySem.W.exmOne K (.ref (He.ga K q.1)) X = some q.2)
def isxB (K : PySem.W.Frag) (X : Value) (tab : List (Str × Bool)) : Bool := tab.all fun q => decide (PySem.W.kitOne K (.ref (He.ga K q.1)) X = some q.2)
def excB (K : PySem.W.Frag) (tab : List (Str × Bool)) : Bool := tab.all fun q => !q.2 || excCB K q.1
theorem lookup_in {α : Type} {c : Str} {b : α} : ∀ {tab : List (Str × α)}, tab.lookup c = some b → (c, b) ∈ tab
  | [], h => by cases h
  | (x, y) :: r, h => by
    have h : (match c == x with | true => some y | false => r.lookup c) = some b := h
    cases q : (c == x) with
    | true =>
      rw [q] at h
      rw [beq_iff_eq.mp q, Option.some.inj h]
      exact List.mem_cons_self
    | false =>
      rw [q] at h
      exact List.mem_cons_of_mem _ (lookup_in h)
theorem subsB_ok {K : PySem.W.Frag} {X : Value} {tab : List (Str × Bool)} (h : subsB K X tab = true) : Subs K (He.ga K) X tab := fun c b e => of_decide_eq_true (List.all_eq_true.mp h _ (lookup_in e))
theorem isxB_ok {K : PySem.W.Frag} {X : Value} {tab : List (Str × Bool)} (h : isxB K X tab = true) : Isx K (He.ga K) X tab := fun c b e => of_decide_eq_true (List.all_eq_true.mp h _ (lookup_in e))
theorem excB_ok {K : PySem.W.Frag} {tab : List (Str × Bool)} (h : excB K tab = true) : ∀ c, tab.lookup c = some true → ExcC K (He.ga K c) := fun c e => by
  have := List.all_eq_true.mp h _ (lookup_in e)
  exact excCB_ok (by simpa using this)
end Pm
namespace Pm
open PySem PySem.Spec PyProof.Rows L2
open Classical
/-! ### more changes of a list -/
section
variable {J : Jc} {Γ Γ' Γ1 Γ2 : List Mode} {em : EM} {m : Mode} {ms : List Mode} {Fe Fa Fb Fi : Ev → Rs Dt} {Fs : List (Ev → Rs Dt)} {te ta tb ti : TE} {tr : TA} {G0 H0 Gs G H G' H' : Hp} {ρ : Ev} {σ : L2.St} {vs : List Nat}
  {F F1 F2 : Ev → Ot} {ts t1 t2 : TS} {D : Ends} {d : Dt} {v : V} {put : Dt → Ev} {Fp : Ev → Rs (Dt × (Dt → Ev))}
theorem Ows.split {K : PySem.W.Frag} {ca : Str → Addr} : ∀ {ds : List Dt} {us : List V} {P : Addr → Prop} (n : Nat), Ows K ca G H (List.replicate ds.length m) ds us P → ∃ P1 P2 : Addr → Prop, Ows K ca G H (List.replicate (ds.take n).length m) (ds.take n) (us.take n) P1 ∧ Ows K ca G H (List.replicate (ds.drop n).length m) (ds.drop n) (us.drop n) P2 ∧ (∀ b, P1 b → P b) ∧ (∀ b, P2 b → P b) ∧ ∀ b, P1 b → ¬ P2 b
  | [], us, P, n, h => by
    cases h
    simp
    exact ⟨Pno, .nil, Pno, .nil, fun _ z => z.elim, fun _ z => z.elim, fun _ z => z.elim⟩
  | d :: ds, us, P, 0, h => ⟨Pno, P, .nil, h, fun _ z => z.elim, fun _ z => z, fun _ z => z.elim⟩
  | d :: ds, us, P, n + 1, h => by
    rw [List.length_cons, List.replicate_succ] at h
    cases h with
    | @cons _ _ _ _ v us _ A B h1 h2 q1 q2 q3 =>
      obtain ⟨P1, P2, o1, o2, r1, r2, r3⟩ := Ows.split n h2
      refine ⟨fun b => A b ∨ P1 b, P2, ?_, o2, fun b hb => hb.elim (q1 b) fun z => q2 b (r1 b z), fun b hb => q2 b (r2 b hb), fun b hb z => ?_⟩
      · rw [List.take_succ_cons, List.length_cons, List.replicate_succ, List.take_succ_cons]
        exact .cons h1 o1 (fun _ => .inl) (fun _ => .inr) fun b ha hp => q3 b ha (r1 b hp)
      · rcases hb with hb | hb
        · exact q3 b hb (r2 b z)
        · exact r3 b hb z
theorem Ows.rev {K : PySem.W.Frag} {ca : Str → Addr} : ∀ {ds : List Dt} {us : List V} {P : Addr → Prop}, Ows K ca G H (List.replicate ds.length m) ds us P → Ows K ca G H (List.replicate ds.reverse.length m) ds.reverse us.reverse P
  | [], us, P, h => by cases h; exact .nil
  | d :: ds, us, P, h => by
    rw [List.length_cons, List.replicate_succ] at h
    cases h with
    | @cons _ _ _ _ v us _ A B h1 h2 q1 q2 q3 =>
      rw [List.reverse_cons, List.reverse_cons, List.length_append, List.length_singleton, List.replicate_succ']
      exact Ows.append (P1 := B) (P2 := A) (Ows.rev h2) (.cons (P1 := A) (P2 := Pno) h1 .nil (fun _ z => z) (fun _ z => z.elim) (fun _ _ z => z)) q2 q1 fun b hb z => q3 b z hb
/-- P.insert(i, e) -/
def insD (ds : List Dt) (as : List Dt) : Option (List Dt) := match as with
  | [.int i, y] => if (lenSz ds.length && (decide (0 ≤ i) && intSz i)) = true then some (ds.take i.toNat ++ [y] ++ ds.drop i.toNat) else none
  | _ => none
theorem insD_some {ds as es : List Dt} (h : insD ds as = some es) : ∃ i y, as = [.int i, y] ∧ (lenSz ds.length && (decide (0 ≤ i) && intSz i)) = true ∧ es = ds.take i.toNat ++ [y] ++ ds.drop i.toNat := by
  unfold insD at h
  split at h
  · split at h
    · cases h
      exact ⟨_, _, rfl, by assumption, rfl⟩
    · cases h
  · cases h
def chgS (f : List Dt → List Dt → Option (List Dt)) (Fp : Ev → Rs (Dt × (Dt → Ev))) (Fs : List (Ev → Rs Dt)) (ρ : Ev) : Ot := bindS (Fp ρ) ρ fun x => match x.1 with
  | .lst ds => bindS (argsE Fs ρ) ρ fun as => match f ds as with
    | some es => .nx (x.2 (.lst es))
    | none => .no
  | _ => .no
abbrev insS := chgS insD
abbrev rIns : V → List V → Hp → VK → Prop := fun x vs H Q => ∃ (l : Addr) (xs : List V) (i : Int) (y : V), x = .ref l ∧ vs = [.int i, y] ∧ H l = some (.lst xs) ∧ xs.length < sizeLine ∧ 0 ≤ i ∧ i < 2 ^ 63 ∧ Q .non (upd H l (.lst (xs.take i.toNat ++ [y] ++ xs.drop i.toNat)))
theorem ss_ins (h : SemP J Γ Fp (.L m) te) (k : SemZ J Γ [.F, m] Fs tr) (hx : Gx J Γ) : SemS J Γ Γ (insS Fp Fs) (tDrop (tBM J.K "list" (fun x vs H Q => ∃ (l : Addr) (xs : List V) (i : Int) (y : V), x = .ref l ∧ vs = [.int i, y] ∧ H l = some (.lst xs) ∧ xs.length < sizeLine ∧ 0 ≤ i ∧ i < 2 ^ 63 ∧ Q .non (upd H l (.lst (xs.take i.toNat ++ [y] ++ xs.drop i.toNat)))) te tr)) := fun {G0 H0 G H ρ σ D} w p => by
  refine h w ((PostS.bind w hx p).imp (fun x _ q v G1 H1 e1 f1 => ?_) fun _ q => q)
  obtain ⟨xd, xp⟩ := x
  have w1 := w.ext e1
  cases xd with
  | lst ds =>
    have q : PostS J G0 H0 G1 Γ D (bindS (argsE Fs ρ) ρ fun as => match insD ds as with
      | some es => .nx (xp (.lst es))
      | none => .no) := q.up e1.g
    obtain ⟨a, us, Pin, rfl, hu, _⟩ := f1.chg w1 (Ext.refl w1.gh)
    refine ⟨.inl ⟨rfl, us, .of hu⟩, ?_⟩
    refine k w1 ((PostS.bind w1 hx q).imp (fun as _ q ys G2 H2 P2 e2 f2 o2 => ?_) fun _ q => q)
    obtain ⟨a', us', Pin', ea, hu', own, pr, fin⟩ := f1.chg w1 e2
    cases ea
    have q : PostS J G0 H0 G1 Γ D (match insD ds as with
      | some es => .nx (xp (.lst es))
      | none => .no) := q
    cases z : insD ds as with
    | none => rw [z] at q; cases q
    | some es =>
      rw [z] at q
      obtain ⟨i, y, rfl, c, rfl⟩ := insD_some z
      cases o2 with
      | @cons _ _ _ _ vi vs2 _ A B oi o3 q1 q2 q3 =>
        cases o3 with
        | @cons _ _ _ _ vy vs3 _ A2 B2 oy o4 r1 r2 r3 =>
          cases o4
          cases oi with
          | F oi =>
            cases oi
            rw [Bool.and_eq_true, Bool.and_eq_true] at c
            have i0 := of_decide_eq_true c.2.1
            have i1 := (intSz_ok c.2.2).2
            have hlen := own.len.1
            refine ⟨a, us', i, vy, rfl, rfl, hu', by rw [← hlen]; exact lenSz_lt c.1, i0, by omega, ?_⟩
            obtain ⟨P1, P3, s1, s2, t1, t2, t3⟩ := own.split i.toNat
            have A2P : ∀ b, A2 b → P2 b := fun b hb => q2 b (r1 b hb)
            refine q.of_nx σ G2 _ e2.g (fin (ds.take i.toNat ++ [y] ++ ds.drop i.toNat) (us'.take i.toNat ++ [vy] ++ us'.drop i.toNat) (fun b => Pin' b ∨ A2 b) ?_ fun b hb => ?_)
            · rw [show List.replicate (ds.take i.toNat ++ [y] ++ ds.drop i.toNat).length m = (List.replicate (ds.take i.toNat).length m ++ [m]) ++ List.replicate (ds.drop i.toNat).length m by
                rw [List.length_append, List.length_append, ← List.replicate_append_replicate, ← List.replicate_append_replicate]
                rfl]
              refine Ows.append (P1 := fun b => P1 b ∨ A2 b) (P2 := P3) (Ows.append (P1 := P1) (P2 := A2) s1 (.cons (P1 := A2) (P2 := Pno) oy .nil (fun _ z => z) (fun _ z => z.elim) (fun _ _ z => z)) (fun _ => .inl) (fun _ => .inr) fun b hb z => ?_) s2 (fun b hb => hb.imp (t1 b) id) (fun b hb => .inl (t2 b hb)) fun b hb z => ?_
              · exact (pr b (t1 b hb)).1 (f2 b (A2P b z)).2.1
              · rcases hb with hb | hb
                · exact t3 b hb z
                · exact (pr b (t2 b z)).1 (f2 b (A2P b hb)).2.1
            · rcases hb with hb | hb
              · exact ⟨(pr b hb).2.1, .inl hb⟩
              · have f := f2 b (A2P b hb)
                refine ⟨fun z => ?_, .inr ⟨f.2.1, f.1, f.2.2⟩⟩
                rw [z, hu] at f
                cases f.2.1
  | _ => cases q
/-- P.extend(e), e's parts frozen -/
def extD (ds : List Dt) (e : Dt) : Option (List Dt) := match e with
  | .lst es => if lenSz (ds.length + es.length) = true then some (ds ++ es) else none
  | _ => none
def chg1S (f : List Dt → Dt → Option (List Dt)) (Fp : Ev → Rs (Dt × (Dt → Ev))) (Fe : Ev → Rs Dt) (ρ : Ev) : Ot := bindS (Fp ρ) ρ fun x => match x.1 with
  | .lst ds => bindS (Fe ρ) ρ fun e => match f ds e with
    | some es => .nx (x.2 (.lst es))
    | none => .no
  | _ => .no
abbrev extS := chg1S extD
theorem ss_ext (h : SemP J Γ Fp (.L .F) te) (k : SemE J Γ .S Fe ta) (hx : Gx J Γ) : SemS J Γ Γ (extS Fp Fe) (tDrop (tBM J.K "list" rExtend te (tCons ta tNil))) := fun {G0 H0 G H ρ σ D} w p => by
  refine h w ((PostS.bind w hx p).imp (fun x _ q v G1 H1 e1 f1 => ?_) fun _ q => q)
  obtain ⟨xd, xp⟩ := x
  have w1 := w.ext e1
  cases xd with
  | lst ds =>
    have q : PostS J G0 H0 G1 Γ D (bindS (Fe ρ) ρ fun e => match extD ds e with
      | some es => .nx (xp (.lst es))
      | none => .no) := q.up e1.g
    obtain ⟨a, us, Pin, rfl, hu, _⟩ := f1.chg w1 (Ext.refl w1.gh)
    refine ⟨.inl ⟨rfl, us, .of hu⟩, ?_⟩
    refine k w1 ((PostS.bind w1 hx q).imp (fun y _ q vy G2 H2 P2 e2 f2 o2 => ?_) fun _ q => q)
    obtain ⟨a', us', Pin', ea, hu', own, pr, fin⟩ := f1.chg w1 e2
    cases ea
    have q : PostS J G0 H0 G1 Γ D (match extD ds y with
      | some es => .nx (xp (.lst es))
      | none => .no) := q
    cases y with
    | lst es =>
      obtain ⟨b, zs, rfl, hz, rz⟩ := S_lst o2
      have q : PostS J G0 H0 G1 Γ D (match (if lenSz (ds.length + es.length) = true then some (ds ++ es) else none) with
        | some es => .nx (xp (.lst es))
        | none => .no) := q
      by_cases c : lenSz (ds.length + es.length) = true
      case neg => rw [if_neg c] at q; cases q
      rw [if_pos c] at q
      refine ⟨a, b, us', zs, rfl, rfl, hu', hz, by rw [← own.len.1, ← rz.length]; exact lenSz_ok c, ?_⟩
      exact q.of_nx σ G2 _ e2.g (fin (ds ++ es) (us' ++ zs) Pno (Rps.own ((own.frozen).append rz)) fun b z => z.elim)
    | _ => cases q
  | _ => cases q
/-- P.reverse(), P.clear() -/
def chg0S (f : List Dt → List Dt) (Fp : Ev → Rs (Dt × (Dt → Ev))) (ρ : Ev) : Ot := bindS (Fp ρ) ρ fun x => match x.1 with
  | .lst ds => .nx (x.2 (.lst (f ds)))
  | _ => .no
abbrev revS := chg0S List.reverse
abbrev clrS := chg0S fun _ => []
theorem ss_rev (h : SemP J Γ Fp (.L m) te) (hx : Gx J Γ) : SemS J Γ Γ (revS Fp) (tDrop (tBM0 J.K "list" rReverse te)) := fun {G0 H0 G H ρ σ D} w p => by
  refine h w ((PostS.bind w hx p).imp (fun x _ q v G1 H1 e1 f1 => ?_) fun _ q => q)
  obtain ⟨xd, xp⟩ := x
  have w1 := w.ext e1
  cases xd with
  | lst ds =>
    obtain ⟨a, us, Pin, rfl, hu, own, pr, fin⟩ := f1.chg w1 (Ext.refl w1.gh)
    refine ⟨.inl ⟨rfl, us, .of hu⟩, a, us, rfl, rfl, hu, ?_⟩
    exact PostS.of_nx q σ G1 _ e1.g (fin ds.reverse us.reverse Pin own.rev fun b hb => ⟨(pr b hb).2.1, .inl hb⟩)
  | _ => cases q
theorem ss_clr (h : SemP J Γ Fp (.L m) te) (hx : Gx J Γ) : SemS J Γ Γ (clrS Fp) (tDrop (tBM0 J.K "list" rClear te)) := fun {G0 H0 G H ρ σ D} w p => by
  refine h w ((PostS.bind w hx p).imp (fun x _ q v G1 H1 e1 f1 => ?_) fun _ q => q)
  obtain ⟨xd, xp⟩ := x
  have w1 := w.ext e1
  cases xd with
  | lst ds =>
    obtain ⟨a, us, Pin, rfl, hu, own, pr, fin⟩ := f1.chg w1 (Ext.refl w1.gh)
    refine ⟨.inl ⟨rfl, us, .of hu⟩, a, us, rfl, rfl, hu, ?_⟩
    exact PostS.of_nx q σ G1 _ e1.g (fin [] [] Pno .nil fun b hb => hb.elim)
  | _ => cases q
end
end Pm
namespace Pm
open PySem PySem.Spec PyProof.Rows L2
open Classical
/-! ### sorted -/
def sortI (ns : List Int) : List Int := ns.mergeSort fun a b => decide (a ≤ b)
theorem sortI_perm (ns : List Int) : (sortI ns).Perm ns := List.mergeSort_perm _ _
theorem sortI_le (ns : List Int) : (sortI ns).Pairwise (· ≤ ·) := by
  have := List.pairwise_mergeSort (le := fun a b : Int => decide (a ≤ b)) (fun a b c h1 h2 => by
    have := of_decide_eq_true h1
    have := of_decide_eq_true h2
    exact decide_eq_true (by omega)) (fun a b => by
    rw [Bool.or_eq_true]
    rcases Int.le_total a b with h | h
    · exact .inl (decide_eq_true h)
    · exact .inr (decide_eq_true h)) ns
  exact this.imp fun h => of_decide_eq_true h
theorem sortI_uniq {ns ms : List Int} (hp : ms.Perm ns) (hs : ms.Pairwise (· ≤ ·)) : ms = sortI ns :=
  List.Perm.eq_of_pairwise (fun a b _ _ h1 h2 => Int.le_antisymm h1 h2) hs (sortI_le ns) (hp.trans (sortI_perm ns).symm)
def leP (p q : Int × Int) : Bool := decide (p.1 < q.1 ∨ (p.1 = q.1 ∧ p.2 ≤ q.2))
theorem leP_iff {p q : Int × Int} : leP p q = true ↔ p.1 < q.1 ∨ (p.1 = q.1 ∧ p.2 ≤ q.2) := decide_eq_true_iff
def sortP (ps : List (Int × Int)) : List (Int × Int) := ps.mergeSort leP
theorem sortP_perm (ps : List (Int × Int)) : (sortP ps).Perm ps := List.mergeSort_perm _ _
theorem sortP_le (ps : List (Int × Int)) : (sortP ps).Pairwise fun p q => leP p q = true :=
  List.pairwise_mergeSort (fun a b c h1 h2 => by
    rw [leP_iff] at h1 h2 ⊢
    omega) (fun a b => by
    rw [Bool.or_eq_true, leP_iff, leP_iff]
    omega) ps
theorem leP_anti {p q : Int × Int} (h1 : leP p q = true) (h2 : leP q p = true) : p = q := by
  rw [leP_iff] at h1 h2
  exact Prod.ext (by omega) (by omega)
theorem sortP_uniq {ps qs : List (Int × Int)} (hp : qs.Perm ps) (hs : qs.Pairwise fun p q => leP p q = true) : qs = sortP ps :=
  List.Perm.eq_of_pairwise (fun a b _ _ h1 h2 => leP_anti h1 h2) hs (sortP_le ps) (hp.trans (sortP_perm ps).symm)
def prD (p : Int × Int) : Dt := .tup [.int p.1, .int p.2]
def prsOf : List Dt → Option (List (Int × Int))
  | [] => some []
  | .tup [.int i, .int j] :: ds => (prsOf ds).map ((i, j) :: ·)
  | _ => none
theorem prsOf_map (ps : List (Int × Int)) : prsOf (ps.map prD) = some ps := by
  induction ps with
  | nil => rfl
  | cons p ps ih => rw [List.map_cons, prD, prsOf, ih]; rfl
theorem prsOf_some : ∀ {ds : List Dt} {ps : List (Int × Int)}, prsOf ds = some ps → ds = ps.map prD
  | [], ps, h => by cases h; rfl
  | d :: ds, ps, h => by
    unfold prsOf at h
    split at h
    · rename_i e
      cases e
    · rename_i i j ds' e
      cases e
      cases q : prsOf ds with
      | none => rw [q] at h; cases h
      | some qs =>
        rw [q] at h
        cases h
        rw [prsOf_some q]
        rfl
    · cases h
def sortID (d : Dt) : Rs Dt := match lisD d with
  | some ds => (match intsOf ds with
    | some ns => .ok (.lst ((sortI ns).map .int))
    | none => .no)
  | none => .no
def sortIE := op1E sortID
def sortPD (d : Dt) : Rs Dt := match d with
  | .lst ds => (match prsOf ds with
    | some ps => .ok (.lst ((sortP ps).map prD))
    | none => .no)
  | _ => .no
def sortPE := op1E sortPD
section
variable {J : Jc} {Γ : List Mode} {F : Ev → Rs Dt} {te : TE} {G0 H0 G H G' H' : Hp} {ρ : Ev} {σ : L2.St}
theorem rps_intsV {K : PySem.W.Frag} {ca : Str → Addr} : ∀ ns : List Int, Rps K ca G (ns.map Dt.int) (ns.map V.int)
  | [] => .nil
  | n :: ns => .cons (.int n) (rps_intsV ns)
theorem se_sortI (h : SemE J Γ .S F te) : SemE J Γ (.o (.L .F)) (sortIE F) (tCB (rSortedI J.K) (tCons te tNil)) := fun {G0 H0 G H ρ σ Q} w p => by
  refine h w (p.bind.imp (fun d _ q v G1 H1 P1 e1 _ r1 => ?_) fun _ q => q)
  have go : ∀ ds, (d = .lst ds ∨ d = .scr ds) → lisD d = some ds → (rSortedI J.K) [v] H1 Q := fun ds hd hl => by
    unfold sortID at q
    rw [hl] at q
    have q : Rs.Post _ _ (match intsOf ds with
      | some ns => Rs.ok (Dt.lst ((sortI ns).map .int))
      | none => Rs.no) := q
    cases z : intsOf ds with
    | none => rw [z] at q; cases q
    | some ns =>
      rw [z] at q
      obtain ⟨a, vs, rfl, sq, r⟩ := r1.2 ds (hd.elim .inl fun x => .inr (.inl x))
      have ev := rps_ints z r
      subst ev
      have sl : SqL J.K H1 a (ns.map V.int) := by
        rcases sq with ⟨_, s⟩ | ⟨_, s⟩ | ⟨e, _⟩
        · exact .of s
        · exact s
        · rcases hd with hd | hd <;> rw [hd] at e <;> cases e
      refine ⟨a, ns, rfl, sl, fun ns' p hp hs hn => ?_⟩
      rw [sortI_uniq hp hs]
      obtain ⟨e2, f2, o2⟩ := new_lst e1.gh hn (rps_intsV (K := J.K) (ca := J.ca) (G := G1) (sortI ns))
      exact q.of_ok (.ref p) G1 _ _ (e1.trans e2) (fun b hb => ⟨(f2 b hb).1, e1.h.free (f2 b hb).2.1, (f2 b hb).2.2⟩) o2
  cases d with
  | lst ds => exact go ds (.inl rfl) rfl
  | scr ds => exact go ds (.inr rfl) rfl
  | _ => unfold sortID at q; cases q
noncomputable def keyV (H : Hp) (x : V) : Int × Int := if h : ∃ p : Int × Int, ∃ t, x = .ref t ∧ H t = some (.tup [.int p.1, .int p.2]) then h.choose else (0, 0)
theorem keyV_eq {H : Hp} {t : Addr} {p : Int × Int} (h : H t = some (.tup [.int p.1, .int p.2])) : keyV H (.ref t) = p := by
  have ex : ∃ p : Int × Int, ∃ t', V.ref t = .ref t' ∧ H t' = some (.tup [.int p.1, .int p.2]) := ⟨p, t, rfl, h⟩
  unfold keyV
  rw [dif_pos ex]
  obtain ⟨t', e, h'⟩ := ex.choose_spec
  cases e
  rw [h] at h'
  simp only [Option.some.injEq, HO.tup.injEq, List.cons.injEq, V.int.injEq, and_true] at h'
  exact Prod.ext h'.1.symm h'.2.symm
theorem rps_pairs {K : PySem.W.Frag} {ca : Str → Addr} : ∀ {ps : List (Int × Int)} {vs : List V}, Rps K ca G (ps.map prD) vs → (∀ x ∈ vs, ∃ t, x = V.ref t ∧ G t = some (.tup [.int (keyV G x).1, .int (keyV G x).2])) ∧ vs.map (keyV G) = ps
  | [], vs, h => by cases h; exact ⟨fun x hx => absurd hx (by simp), rfl⟩
  | p :: ps, vs, h => by
    cases h with
    | @cons _ _ v vs h1 h2 =>
      obtain ⟨i1, i2⟩ := rps_pairs h2
      cases h1 with
      | tup k1 k2 =>
        obtain ⟨a, b, rfl, ra, rb⟩ := k2.two
        cases ra
        cases rb
        have e := keyV_eq k1
        refine ⟨fun x hx => ?_, by rw [List.map_cons, e, i2]⟩
        rcases List.mem_cons.mp hx with rfl | hx
        · exact ⟨_, rfl, by rw [e]; exact k1⟩
        · exact i1 x hx
theorem rps_of {K : PySem.W.Frag} {ca : Str → Addr} : ∀ {ys : List V}, (∀ x ∈ ys, ∃ t, x = V.ref t ∧ G t = some (.tup [.int (keyV G x).1, .int (keyV G x).2])) → Rps K ca G ((ys.map (keyV G)).map prD) ys
  | [], _ => .nil
  | y :: ys, h => by
    obtain ⟨t, e, ht⟩ := h y List.mem_cons_self
    refine .cons ?_ (rps_of fun x hx => h x (List.mem_cons_of_mem _ hx))
    generalize hk : keyV G y = k at ht
    subst e
    exact .tup ht (.cons (.int _) (.cons (.int _) .nil))
theorem se_sortP (h : SemE J Γ .S F te) : SemE J Γ (.o (.L .F)) (sortPE F) (tCB (rSortedPO J.K) (tCons te tNil)) := fun {G0 H0 G H ρ σ Q} w p => by
  refine h w (p.bind.imp (fun d _ q v G1 H1 P1 e1 _ r1 => ?_) fun _ q => q)
  cases d with
  | lst ds =>
    have q : Rs.Post _ _ (match prsOf ds with
      | some ps => Rs.ok (Dt.lst ((sortP ps).map prD))
      | none => Rs.no) := q
    cases z : prsOf ds with
    | none => rw [z] at q; cases q
    | some ps =>
      rw [z] at q
      obtain ⟨a, vs, rfl, hs, r⟩ := S_lst r1
      rw [prsOf_some z] at r
      obtain ⟨c1, c2⟩ := rps_pairs r
      refine ⟨a, vs, keyV G1, rfl, .of hs, fun x hx => ?_, fun ys l hsrt hstb hl => ?_⟩
      · obtain ⟨t, e, ht⟩ := c1 x hx
        exact ⟨t, e, e1.gh _ _ ht⟩
      · have hmem : ∀ x ∈ ys, ∃ t, x = V.ref t ∧ G1 t = some (.tup [.int (keyV G1 x).1, .int (keyV G1 x).2]) := fun x hx => c1 x (hstb.perm.mem_iff.mp hx)
        have hps : ys.map (keyV G1) = sortP ps := by
          refine sortP_uniq ?_ ?_
          · rw [← c2]
            exact hstb.perm.map _
          · rw [List.pairwise_map]
            refine List.Pairwise.imp (fun {x y} hxy => ?_) hsrt
            have hxy := SrtO.lexB_no.mp hxy
            rw [leP_iff]
            omega
        obtain ⟨e2, f2, o2⟩ := new_lst e1.gh hl (rps_of (K := J.K) (ca := J.ca) hmem)
        rw [hps] at o2
        exact q.of_ok (.ref l) G1 _ _ (e1.trans e2) (fun b hb => ⟨(f2 b hb).1, e1.h.free (f2 b hb).2.1, (f2 b hb).2.2⟩) o2
  | _ => cases q
end
end Pm
namespace RT
open PySem PySem.Spec PyProof.Rows
open AutoSeq1 (wpAny_loadPart')
/-! ### list(reversed(a list)) -/
section
variable {prog : Program} {w : World} {A : Around} {E : Value → Shared → Prop} {s : Shared}
theorem pm_ext_rev {R : Result → Shared → Prop} {it l : Addr} {items : Array Value} (hh : A.handled = none)
    (hit : s.heap.IsRevIter it l ((items.size : Int) - 1)) (hl : s.heap.IsList l items) (hne : l ≠ it) (hn : items.size ≤ sizeLine)
    (S : Addr) (hSi : S ≠ it) (hSl : S ≠ l) (res : Value) (c0 : Nat) (hS : s.heap.get? S = some { cls := .type "list", data := .seq #[] c0 })
    (hR : ∀ h' tk acc c', (∀ b o, b ≠ S → b ≠ it → s.heap.get? b = some o → h'.get? b = some o) → h'.get? S = some { cls := .type "list", dict := none, data := .seq acc c', slots := #[] } →
      ItemsOf (fun i v => items[items.size - 1 - i]? = some v) acc items.size → R (.ok (.ret res)) { s with heap := h', toks := tk }) :
    wpAny (model prog w) A.in1 (Builtin.List.listExtendWith (.ref S) (.ref it) res)
      (fun fin s' => match fin with
        | .done f => R (.ok f) s'
        | .again c' => c'.quiet = true ∧ codeAny (model prog w) A c' R s') (fun e s' => R (.error e) s') s := by
  have walks := (Walks.listRev (prog := prog) (w := w) (A := A.in1) hh it l hne items).toS
  have out : S ∉ [it, l] := by
    simp only [List.mem_cons, List.not_mem_nil, or_false, not_or]
    exact ⟨hSi, hSl⟩
  have hT : s.TypeIs (.ref it) "list_reverseiterator" := hit.typeIs
  have diff : Builtin.List.listSameRef (.ref S) (.ref it) = false := by
    simp [Builtin.List.listSameRef, hSi]
  have start0 : ((items.size : Nat) : Int) - 1 - ((0 : Nat) : Int) = (items.size : Int) - 1 := by omega
  unfold Builtin.List.listExtendWith
  refine wpAny_bind (wpAny_typeOf hT ?_)
  rw [if_neg (by rw [diff]; decide)]
  refine wpAny_bind (wpAny_pyIter_revIter hit ?_)
  refine wpAny_bind (wpAny_holding ?_)
  unfold Builtin.List.listLengthHint
  refine wpAny_bind (wpAny_specialOf hT nolen_lri ?_)
  show wpAny _ A.in1 (specialOf (Value.ref it) (Str.ofString "__length_hint__") >>= _) _ _ _
  refine wpAny_bind (wpAny_specialOf hT hint_lri ?_)
  generalize hid : ("list_reverseiterator.__length_hint__" : String) = idn
  wp_delta
  rw [show splitId idn = some ("list_reverseiterator", "__length_hint__") by subst hid; decide +kernel]
  subst hid
  refine wpAny_bind (wpAny_isInstance (b := true) hT (by rw [isSubtype_type]; kernel_rfl) ?_)
  refine wpAny_pure ?_
  rw [if_neg (by decide)]
  refine wpAny_pure ⟨plainId_quiet F.plain_extend_loop _, codeAny_extend_loopS walks hn S out res items.size 0 _ #[] c0 rfl (Nat.zero_le _)
    ⟨Nat.zero_le _, by rw [start0]; exact hit, hl⟩ hS (ItemsOf.nil _) fun s' acc c' moved hS' hacc => ?_⟩
  rw [Moved.eq_with moved]
  refine hR s'.heap s'.toks acc c' (fun b o hb hb2 e => moved.heap b o (fun mem => ?_) e) hS' hacc
  rcases List.mem_cons.mp mem with e' | mem
  · exact hb e'
  · exact hb2 (List.mem_singleton.mp mem)
theorem pm_init_rev {R : Result → Shared → Prop} {it l : Addr} {items : Array Value} (hh : A.handled = none)
    (hit : s.heap.IsRevIter it l ((items.size : Int) - 1)) (hl : s.heap.IsList l items) (hne : l ≠ it) (hn : items.size ≤ sizeLine)
    (S : Addr) (hSi : S ≠ it) (hSl : S ≠ l) (hS : s.heap.get? S = some { cls := .type "list", data := .seq #[] })
    (hR : ∀ h' tk acc c', (∀ b o, b ≠ S → b ≠ it → s.heap.get? b = some o → h'.get? b = some o) → h'.get? S = some { cls := .type "list", dict := none, data := .seq acc c', slots := #[] } →
      ItemsOf (fun i v => items[items.size - 1 - i]? = some v) acc items.size → R (.ok (.ret .none)) { s with heap := h', toks := tk }) :
    wpAny (model prog w) A.in1 (Builtin.«list.__init__» ⟨[.ref S, .ref it], []⟩)
      (fun fin s' => match fin with
        | .done f => R (.ok f) s'
        | .again c' => c'.quiet = true ∧ codeAny (model prog w) A c' R s') (fun e s' => R (.error e) s') s := by
  show wpAny _ _ (do
    let old ← Builtin.List.listItems (.ref S)
    Builtin.List.listUpdate (.ref S) (fun _ => #[])
    letGo old.toList.reverse
    Builtin.List.listExtendWith (.ref S) (.ref it) .none) _ _ s
  refine wpAny_bind ?_
  unfold Builtin.List.listItems
  refine wpAny_bind (wpAny_seqItems hS rfl (wpAny_pure ?_))
  show wpAny _ _ (updateSeq S (fun _ => #[]) >>= fun _ =>
    letGo (#[] : Array Value).toList.reverse >>= fun _ => Builtin.List.listExtendWith (.ref S) (.ref it) .none) _ _ s
  refine wpAny_bind (wpAny_updateSeq hS rfl ?_)
  have hS2 := Heap.get?_update_self (Obj.mapSeq (fun _ => (#[] : Array Value))) hS rfl
  have oth : ∀ b, b ≠ S → (s.heap.update S (Obj.mapSeq (fun _ => (#[] : Array Value)))).get? b = s.heap.get? b :=
    fun b hb => Heap.get?_update_other _ _ (Ne.symm hb)
  refine wpAny_bind (wpAny_letGo ?_)
  refine pm_ext_rev hh (hit.at fun o e => (oth it (Ne.symm hSi)).trans e) ?_ hne hn S hSi hSl .none _ hS2 fun h' tk acc c' hk hS' hacc => ?_
  · obtain ⟨o, ho, rest⟩ := hl
    exact ⟨o, (oth l (Ne.symm hSl)).trans ho, rest⟩
  · exact hR h' tk acc c' (fun b o hb hb2 e => hk b o hb hb2 ((oth b hb).trans e)) hS' hacc
theorem pm_list_rev {Q : Value → Shared → Prop} {it l : Addr} {items : Array Value} (hh : A.handled = none)
    (hit : s.heap.IsRevIter it l ((items.size : Int) - 1)) (hl : s.heap.IsList l items) (hne : l ≠ it) (hn : items.size ≤ sizeLine)
    (hQ : ∀ h' tk acc c', (∀ b o, b ≠ it → s.heap.get? b = some o → h'.get? b = some o) →
      h'.get? s.heap.objs.size = some { cls := .type "list", dict := none, data := .seq acc c', slots := #[] } →
      ItemsOf (fun i v => items[items.size - 1 - i]? = some v) acc items.size → Q (.ref s.heap.objs.size) { s with heap := h', toks := tk }) :
    wpAny (model prog w) A (call (.type "list") [.ref it]) Q E s := by
  obtain ⟨oi, hoi, ri⟩ := id hit
  obtain ⟨ol, hol, rl⟩ := id hl
  refine callType_codes (Q₁ := fun obj s₁ => obj = .ref s.heap.objs.size ∧
    s₁ = { s with heap := s.heap.push { cls := .type "list", data := .seq #[] } }) F.called_list (F.typeCall_list_1 _)
    F.entry_list_init (code_list_new _ ⟨rfl, rfl⟩) fun obj s₁ h₁ => ?_
  obtain ⟨rfl, rfl⟩ := h₁
  have hS : (s.heap.push { cls := .type "list", data := .seq #[] }).get? s.heap.objs.size =
    some { cls := .type "list", data := .seq #[] } := Heap.get?_push_size _ rfl
  refine ⟨⟨_, hS, rfl⟩, F.args_list_init_2 _ _, pm_init_rev (A := A.in1) hh (hit.at fun o e => Heap.get?_push_of_some _ e) (hl.push _) hne hn _
    (Nat.ne_of_gt (Heap.lt_size hoi)) (Nat.ne_of_gt (Heap.lt_size hol)) hS fun h' tk acc c' hk hS' hacc => ?_⟩
  exact ⟨rfl, hQ h' tk acc c' (fun b o hb e => hk b o (Nat.ne_of_lt (Heap.lt_size e)) hb (Heap.get?_push_of_some _ e)) hS' hacc⟩
end
end RT
namespace Pm
open PySem PySem.Spec PyProof.Rows L2 RT
def tLstRev (K : PySem.W.Frag) (te : TE) : TE := fun σ H Q => te σ H fun v H1 => ∃ (a : Addr) (xs : List V), v = .ref a ∧ SqL K H1 a xs ∧ ∀ q, H1 q = none → Q (.ref q) (upd H1 q (.lst xs.reverse))
section
variable {X : Cx}
theorem pe_listRev {e : Expr} {te : TE} {p p2 pos pos2 : Pos} (hc : X.calm = true) (hg : Gl X "list") (hm : X.mg "list" = none) (hg2 : Gl X "reversed") (hm2 : X.mg "reversed" = none) (he : PE X e te)
    (one : starEach [e] X.env = (false, eval e X.env) :: starEach [] X.env := by rfl)
    (two : starEach [.Call (.Name "reversed" p2) [e] [] pos2] X.env = (false, eval (.Call (.Name "reversed" p2) [e] [] pos2) X.env) :: starEach [] X.env := by rfl) :
    PE X (.Call (.Name "list" p) [.Call (.Name "reversed" p2) [e] [] pos2] [] pos) (tLstRev X.K te) := by
  refine ⟨fun pins s σ H Q I h => ?_⟩
  refine Call_ (ld_blt I hg hm boot_list (PyProof.Rows.callWith_type1 (args_cons (Call_ (ld_blt I hg2 hm2 PyProof.Rows.boot_reversed
    (PyProof.Rows.callWith_type1 (args_cons (thn (he.run pins s σ H _ I h) fun u s1 ⟨v, H1, I1, r1, q1⟩ => args_nil ?_) one) one rfl))) two) two rfl))
  obtain ⟨a, xs, ev, hq, q⟩ := q1
  subst ev
  obtain rfl : u = Value.ref a := r1
  obtain ⟨its, rv, pl, hz⟩ := I1.list hq
  have isl := pl.isList
  refine call_reversed_list isl (args_nil ?_)
  have grows : ∀ b o, s1.heap.get? b = some o → (s1.heap.push (revObj a ((its.toArray.size : Int) - 1))).get? b = some o := fun b o e => Heap.get?_push_of_some _ e
  have I2 : Inv X pins σ H1 { s1 with heap := s1.heap.push (revObj a ((its.toArray.size : Int) - 1)) } := I1.kept (t' := s1.toks) grows
  obtain ⟨ol, hol, _⟩ := id isl
  have apart : a ≠ s1.heap.objs.size := Nat.ne_of_lt (Heap.lt_size hol)
  have fits : its.toArray.size ≤ sizeLine := by
    rw [List.size_toArray, ← rv.length]
    exact hz
  refine pm_list_rev (s := { s1 with heap := s1.heap.push (revObj a ((its.toArray.size : Int) - 1)) }) (I1.ok.hd hc)
    ⟨_, Heap.get?_push_size _ rfl, rfl, rfl⟩ (isl.push _) apart fits fun h' tk acc c' hk hS hi => ?_
  have vals := vals_rev rv hi
  have I3 : Inv X pins σ (upd H1 (s1.heap.push (revObj a ((its.toArray.size : Int) - 1))).objs.size (.lst xs.reverse)) { s1 with heap := h', toks := tk } :=
    I2.turnedNew (ch := [s1.heap.objs.size]) (t' := tk) (fun b o hb e => hk b o (fun z => hb (by rw [z]; exact List.mem_singleton.mpr rfl)) e)
      (fun b hb => by rw [List.mem_singleton.mp hb]; exact I1.fpOk (Nat.le_refl _) (I1.hok.fresh (Nat.le_refl _))) (Nat.le_refl _)
      (show ObjOk X.prog X.w _ _ _ (.lst xs.reverse) from ⟨by rw [List.length_reverse]; exact hz, acc.toList, c', vals, by rw [Array.toArray_toList]; exact hS⟩)
  exact ⟨.ref (s1.heap.push (revObj a ((its.toArray.size : Int) - 1))).objs.size, _, I3, rfl, q _ (I2.hok.fresh (Nat.le_refl _))⟩
end
/-! readings -/
section
variable {J : Jc} {Γ : List Mode} {em : EM} {m : Mode} {Fs : List (Ev → Rs Dt)} {F Fa Fb : Ev → Rs Dt} {te ta tb : TE} {tr : TA} {G0 H0 G H G' H' : Hp} {ρ : Ev} {σ : L2.St}
def lrevD (d : Dt) : Rs Dt := match lisD d with
  | some ds => .ok (.lst ds.reverse)
  | none => .no
def lrevE := op1E lrevD
theorem S_lis {K : PySem.W.Frag} {ca : Str → Addr} {d : Dt} {v : V} {P : Addr → Prop} {ds : List Dt} (h : Res K ca G H .S d v P) (q : lisD d = some ds) : ∃ a vs, v = .ref a ∧ SqL K H a vs ∧ Rps K ca G ds vs := by
  cases d with
  | lst es =>
    cases q
    obtain ⟨a, vs, e, s, r⟩ := S_lst h
    exact ⟨a, vs, e, .of s, r⟩
  | scr es =>
    cases q
    obtain ⟨a, vs, e, sq, r⟩ := h.2 _ (.inr (.inl rfl))
    rcases sq with ⟨z, _⟩ | ⟨_, s⟩ | ⟨z, _⟩ <;> try cases z
    exact ⟨a, vs, e, s, r⟩
  | _ => cases q
theorem se_lrev (h : SemE J Γ .S F te) : SemE J Γ (.o (.L .F)) (lrevE F) (tLstRev J.K te) := fun {G0 H0 G H ρ σ Q} w p => by
  refine h w (p.bind.imp (fun d _ q v G1 H1 P1 e1 _ r1 => ?_) fun _ q => q)
  unfold lrevD at q
  cases z : lisD d with
  | none => rw [z] at q; cases q
  | some ds =>
    rw [z] at q
    obtain ⟨a, vs, rfl, s, r⟩ := S_lis r1 z
    refine ⟨a, vs, rfl, s, fun l hl => ?_⟩
    obtain ⟨e2, f2, o2⟩ := new_lst e1.gh hl r.reverse
    exact q.of_ok (.ref l) G1 _ _ (e1.trans e2) (fun b hb => ⟨(f2 b hb).1, e1.h.free (f2 b hb).2.1, (f2 b hb).2.2⟩) o2
def trevD (d : Dt) : Rs Dt := match lisD d with
  | some ds => .ok (.tup ds.reverse)
  | none => .no
def tupRevE := op1E trevD
theorem se_tupRev (h : SemE J Γ .S F te) : SemE J Γ (.o .F) (tupRevE F) (tTupRev J.K te) := fun {G0 H0 G H ρ σ Q} w p => by
  refine h w (p.bind.imp (fun d _ q v G1 H1 P1 e1 _ r1 => ?_) fun _ q => q)
  unfold trevD at q
  cases z : lisD d with
  | none => rw [z] at q; cases q
  | some ds =>
    rw [z] at q
    obtain ⟨a, vs, rfl, s, r⟩ := S_lis r1 z
    refine ⟨a, vs, rfl, s, fun l hl => ?_⟩
    obtain ⟨e2, o2⟩ := new_tup e1.gh hl r.reverse
    exact q.of_ok _ _ _ Pno (e1.trans e2) Fr.no (.F o2)
/-- list(range(..)) -/
def lrng1E (F : Ev → Rs Dt) (ρ : Ev) : Rs Dt := F ρ >>= fun d => match d with
  | .int j => if intSz j = true then (if lenSz j.toNat = true then .ok (.lst (rangeL 0 j.toNat)) else .no) else .no
  | _ => .no
theorem rps_rg {K : PySem.W.Frag} {ca : Str → Addr} (a b : Int) : Rps K ca G (rangeL a (b - a).toNat) (rgV a b) := by
  unfold rangeL rgV
  generalize (b - a).toNat = n
  have : ∀ l : List Nat, Rps K ca G (l.map fun i => Dt.int (a + (i : Nat))) (l.map fun i => V.int (a + (i : Nat))) := fun l => by
    induction l with
    | nil => exact .nil
    | cons x l ih => exact .cons (.int _) ih
  exact this _
theorem se_lrng1 (h : SemE J Γ .B F te) : SemE J Γ (.o (.L .F)) (lrng1E F) (tLstRg (tRg1 te)) := fun {G0 H0 G H ρ σ Q} w p => by
  refine h w (p.bind.imp (fun d _ q v G1 H1 P1 e1 _ r1 => ?_) fun _ q => q)
  cases r1 with
  | int j =>
    have q : Rs.Post _ _ (if intSz j = true then (if lenSz j.toNat = true then Rs.ok (Dt.lst (rangeL 0 j.toNat)) else .no) else .no) := q
    by_cases c : intSz j = true
    case neg => rw [if_neg c] at q; cases q
    rw [if_pos c] at q
    by_cases c2 : lenSz j.toNat = true
    case neg => rw [if_neg c2] at q; cases q
    rw [if_pos c2] at q
    have b1 := intSz_ok c
    have b2 := lenSz_le c2
    refine ⟨j, rfl, ⟨by omega, by omega, by omega, by omega, by rw [Int.sub_zero]; omega⟩, fun l hl => ?_⟩
    have r := rps_rg (K := J.K) (ca := J.ca) (G := G1) 0 j
    rw [Int.sub_zero] at r
    obtain ⟨e2, f2, o2⟩ := new_lst e1.gh hl r
    exact q.of_ok (.ref l) G1 _ _ (e1.trans e2) (fun b hb => ⟨(f2 b hb).1, e1.h.free (f2 b hb).2.1, (f2 b hb).2.2⟩) o2
  | _ => cases q
/-- divmod -/
@[irreducible] def dvmOk (j : Int) : Bool := decide (0 < j) && decide (j < 1073741824)
def dvmD : Dt → Dt → Rs Dt
  | .int i, .int j => if dvmOk j = true then .ok (.tup [.int (i / j), .int (i % j)]) else .no
  | _, _ => .no
def divmodE := op2E dvmD
theorem se_divmod (ha : SemE J Γ .B Fa ta) (hb : SemE J Γ .B Fb tb) : SemE J Γ (.o .F) (divmodE Fa Fb) (tCB (fun xs H Q => ∃ i j, xs = [.int i, .int j] ∧ CDiv i j ∧ ∀ p, H p = none → Q (.ref p) (upd H p (.tup [.int (i / j), .int (i % j)]))) (tCons ta (tCons tb tNil))) := fun {G0 H0 G H ρ σ Q} w p => by
  refine ha w (p.bind.imp (fun a _ p1 x G1 H1 _ e1 _ ra => ?_) fun _ q => q)
  refine hb (w.ext e1) (p1.bind.imp (fun b _ q y G2 H2 _ e2 _ rb => ?_) fun _ q H' dx s => q H' dx (e1.h.trans s))
  cases ra with
  | int i =>
    cases rb with
    | int j =>
      have q : Rs.Post _ _ (if dvmOk j = true then Rs.ok (Dt.tup [.int (i / j), .int (i % j)]) else .no) := q
      by_cases c : dvmOk j = true
      case neg => rw [if_neg c] at q; cases q
      rw [if_pos c] at q
      unfold dvmOk at c
      rw [Bool.and_eq_true] at c
      refine ⟨i, j, rfl, ⟨of_decide_eq_true c.1, of_decide_eq_true c.2⟩, fun l hl => ?_⟩
      obtain ⟨e3, o3⟩ := new_tup (K := J.K) (ca := J.ca) e2.gh hl (.cons (.int (i / j)) (.cons (.int (i % j)) .nil))
      exact q.of_ok _ _ _ Pno ((e1.trans e2).trans e3) Fr.no (.F o3)
    | _ => cases q
  | _ => cases rb <;> cases q
end
end Pm
namespace Pm
open PySem PySem.Spec PyProof.Rows L2
open Classical
/-! ### dicts whose values are frozen -/
section
variable {κ : Type} [DecidableEq κ] {α β : Type}
def lookK (ks : List κ) (ds : List α) (k : κ) : Option α := ((ks.zip ds).find? fun q => decide (q.1 = k)).map (·.2)
def hasK (ks : List κ) (k : κ) : Bool := ks.any fun q => decide (q = k)
def putKs (ks : List κ) (k : κ) : List κ := if hasK ks k = true then ks else ks ++ [k]
def putDs (ks : List κ) (ds : List α) (k : κ) (d : α) : List α := if hasK ks k = true then (ks.zip ds).map (fun q => if q.1 = k then d else q.2) else ds ++ [d]
theorem hasK_zip : ∀ {ks : List κ} {ds : List α} {k : κ}, ks.length = ds.length → ((ks.zip ds).any fun q => decide (q.1 = k)) = hasK ks k
  | [], _, _, _ => rfl
  | _ :: _, [], _, h => by cases h
  | a :: ks, d :: ds, k, h => by
    show (decide (a = k) || (ks.zip ds).any fun q => decide (q.1 = k)) = (decide (a = k) || hasK ks k)
    rw [hasK_zip (by simpa using h)]
theorem map_zip_fst {ks : List κ} {ds : List α} {k : κ} {d : α} (h : ks.length = ds.length) : (ks.zip ds).map (fun q => if q.1 = k then (q.1, d) else q) = ks.zip ((ks.zip ds).map fun q => if q.1 = k then d else q.2) := by
  induction ks generalizing ds with
  | nil => rfl
  | cons a ks ih =>
    cases ds with
    | nil => cases h
    | cons b ds =>
      rw [List.zip_cons_cons, List.map_cons, List.map_cons, List.zip_cons_cons, ih (by simpa using h)]
      congr 1
      split <;> rfl
theorem putK_zip {ks : List κ} {vs : List V} {k : κ} {v : V} (h : ks.length = vs.length) : putK (ks.zip vs) k v = (putKs ks k).zip (putDs ks vs k v) := by
  unfold putK putKs putDs
  rw [hasK_zip h]
  cases hasK ks k with
  | true =>
    rw [if_pos rfl, if_pos rfl, if_pos rfl]
    exact map_zip_fst h
  | false =>
    rw [if_neg (by simp), if_neg (by simp), if_neg (by simp), List.zip_append h]
    rfl
theorem putL_length {ks : List κ} {ds : List α} {k : κ} {d : α} (h : ks.length = ds.length) : (putKs ks k).length = (putDs ks ds k d).length := by
  unfold putKs putDs
  split
  · rw [List.length_map, List.length_zip, h, Nat.min_self]
  · rw [List.length_append, List.length_append, h]; rfl
variable {K : PySem.W.Frag} {ca : Str → Addr} {H : Hp}
theorem lookK_rps : ∀ {ks : List κ} {ds : List Dt} {vs : List V} {k : κ}, Rps K ca H ds vs → ks.length = vs.length → (∃ d v, lookK ks ds k = some d ∧ valV (ks.zip vs) k = some v ∧ Rp K ca H d v) ∨ (lookK ks ds k = none ∧ valV (ks.zip vs) k = none)
  | [], _, _, _, _, _ => .inr ⟨rfl, rfl⟩
  | a :: ks, [], vs, k, h, hl => by cases h; cases hl
  | a :: ks, d :: ds, vs, k, h, hl => by
    cases h with
    | @cons _ _ v vs h1 h2 =>
      by_cases e : a = k
      · left
        refine ⟨d, v, ?_, ?_, h1⟩
        · unfold lookK
          rw [List.zip_cons_cons, List.find?_cons_of_pos (by simpa using e)]
          rfl
        · rw [List.zip_cons_cons]
          exact valV_pos e
      · have ih := lookK_rps (ks := ks) (k := k) h2 (by simpa using hl)
        have e1 : lookK (a :: ks) (d :: ds) k = lookK ks ds k := by
          unfold lookK
          rw [List.zip_cons_cons, List.find?_cons_of_neg (by simpa using e)]
        have e2 : valV ((a :: ks).zip (v :: vs)) k = valV (ks.zip vs) k := by
          rw [List.zip_cons_cons]
          exact valV_neg e
        rw [e1, e2]
        exact ih
theorem mapK_rps {k : κ} {d : Dt} {v : V} (r : Rp K ca H d v) : ∀ {ks : List κ} {ds : List Dt} {vs : List V}, Rps K ca H ds vs → Rps K ca H ((ks.zip ds).map fun q => if q.1 = k then d else q.2) ((ks.zip vs).map fun q => if q.1 = k then v else q.2)
  | [], _, _, _ => .nil
  | a :: ks, [], _, h => by cases h; exact .nil
  | a :: ks, d' :: ds, _, h => by
    cases h with
    | cons h1 h2 =>
      rw [List.zip_cons_cons, List.zip_cons_cons, List.map_cons, List.map_cons]
      refine .cons ?_ (mapK_rps r h2)
      show Rp K ca H (if a = k then d else d') (if a = k then v else _)
      split
      · exact r
      · exact h1
theorem putDs_rps {ks : List κ} {ds : List Dt} {vs : List V} {k : κ} {d : Dt} {v : V} (h : Rps K ca H ds vs) (hl : ks.length = vs.length) (r : Rp K ca H d v) : Rps K ca H (putDs ks ds k d) (putDs ks vs k v) := by
  unfold putDs
  split
  · exact mapK_rps r h
  · exact h.append (.cons r .nil)
end
def flatKs : List Dt → Option (List Key)
  | [] => some []
  | .int i :: ds => (flatKs ds).map (.inl i :: ·)
  | .str x :: ds => (flatKs ds).map (.inr x :: ·)
  | _ => none
def keyD : Dt → Option (Key ⊕ List Key)
  | .int i => some (.inl (.inl i))
  | .str x => some (.inl (.inr x))
  | .tup ds => (flatKs ds).map .inr
  | _ => none
section
variable {K : PySem.W.Frag} {ca : Str → Addr} {H : Hp}
theorem flatKs_rps : ∀ {ds : List Dt} {ks : List Key} {vs : List V}, flatKs ds = some ks → Rps K ca H ds vs → vs = ks.map kV
  | [], ks, vs, h, r => by cases h; cases r; rfl
  | d :: ds, ks, vs, h, r => by
    cases r with
    | cons r1 r2 =>
      cases d with
      | int i =>
        cases q : flatKs ds with
        | none => simp [flatKs, q] at h
        | some l =>
          have e : Sum.inl i :: l = ks := by simpa [flatKs, q] using h
          subst e
          cases r1
          rw [flatKs_rps q r2]
          rfl
      | str i =>
        cases q : flatKs ds with
        | none => simp [flatKs, q] at h
        | some l =>
          have e : Sum.inr i :: l = ks := by simpa [flatKs, q] using h
          subst e
          cases r1
          rw [flatKs_rps q r2]
          rfl
      | _ => simp [flatKs] at h
def dgetD (d k : Dt) : Rs (Option Dt) := match d, keyD k with
  | .dic ks ds, some (.inl x) => .ok (lookK ks ds x)
  | .dit ks ds, some (.inr x) => .ok (lookK ks ds x)
  | _, _ => .no
theorem keyL {k : Dt} {x : Key} {y : V} (h : keyD k = some (.inl x)) (r : Rp K ca H k y) : y = kV x := by
  cases r with
  | int i => cases h; rfl
  | str i => cases h; rfl
  | @tup _ _ ds _ _ => cases q : flatKs ds <;> simp [keyD, q] at h
  | _ => simp [keyD] at h
theorem keyR {k : Dt} {x : List Key} {y : V} (h : keyD k = some (.inr x)) (r : Rp K ca H k y) : ∃ b, y = .ref b ∧ H b = some (.tup (x.map kV)) := by
  cases r with
  | int i => simp [keyD] at h
  | str i => simp [keyD] at h
  | @tup a vs ds h1 h2 =>
    cases q : flatKs ds with
    | none => simp [keyD, q] at h
    | some l =>
      have e : l = x := by simpa [keyD, q] using h
      subst e
      rw [flatKs_rps q h2] at h1
      exact ⟨a, rfl, h1⟩
  | _ => simp [keyD] at h
theorem DGet.kR {H : Hp} {a : Addr} {kvs : List (Key × V)} {k : Key} (e : Rd H a (.dK kvs)) : DGet H a (kV k) (valV kvs k) := .inl ⟨kvs, k, e, rfl, rfl⟩
theorem Rp.dicR {ks : List Key} {ds : List Dt} {v : V} (h : Rp K ca H (.dic ks ds) v) : ∃ a vs, v = .ref a ∧ Rd H a (.dK (ks.zip vs)) ∧ ks.length = vs.length ∧ Rps K ca H ds vs := by
  cases h with
  | @dic a _ vs _ h1 h2 h3 => exact ⟨a, vs, rfl, .inl h1, h2, h3⟩
  | @dicZ a o _ vs _ h1 h2 h3 => exact ⟨a, vs, rfl, .inr ⟨o, h1⟩, h2, h3⟩
/-- what stands at a key -/
theorem dget_run {d k : Dt} {o : Option Dt} {x y : V} (q : dgetD d k = .ok o) (rd : Rp K ca H d x) (rk : Rp K ca H k y) : ∃ a, x = .ref a ∧ ((∃ e v, o = some e ∧ DGet H a y (some v) ∧ Rp K ca H e v) ∨ (o = none ∧ DGet H a y none)) := by
  cases d with
  | dic ks ds =>
    obtain ⟨a, vs, rfl, h1, h2, h3⟩ := rd.dicR
    cases z : keyD k with
    | none => simp [dgetD, z] at q
    | some s =>
      cases s with
      | inr l => simp [dgetD, z] at q
      | inl l =>
        have e : lookK ks ds l = o := by simpa [dgetD, z] using q
        subst e
        have ey := keyL z rk
        subst ey
        have dg := DGet.kR (k := l) h1
        refine ⟨a, rfl, ?_⟩
        rcases lookK_rps (k := l) h3 h2 with ⟨e, v, e1, e2, r⟩ | ⟨e1, e2⟩
        · rw [e2] at dg
          exact .inl ⟨e, v, e1, dg, r⟩
        · rw [e2] at dg
          exact .inr ⟨e1, dg⟩
  | dit ks ds =>
    cases rd with
    | @dit a _ vs _ h1 h2 h3 =>
    cases z : keyD k with
    | none => simp [dgetD, z] at q
    | some s =>
      cases s with
      | inl l => simp [dgetD, z] at q
      | inr l =>
        have e : lookK ks ds l = o := by simpa [dgetD, z] using q
        subst e
        obtain ⟨b, rfl, hb⟩ := keyR z rk
        have dg := DGet.t (k := l) h1 hb
        refine ⟨a, rfl, ?_⟩
        rcases lookK_rps (k := l) h3 h2 with ⟨e, v, e1, e2, r⟩ | ⟨e1, e2⟩
        · rw [e2] at dg
          exact .inl ⟨e, v, e1, dg, r⟩
        · rw [e2] at dg
          exact .inr ⟨e1, dg⟩
  | _ => simp [dgetD] at q
end
section
variable {J : Jc} {Γ Γ' Γ1 : List Mode} {em : EM} {m : Mode} {ms : List Mode} {F Fa Fb Fk Fd : Ev → Rs Dt} {te ta tb : TE} {G0 H0 Gs G H G' H' : Hp} {ρ : Ev} {σ : L2.St} {D : Ends} {v : V} {put : Dt → Ev} {Fp : Ev → Rs (Dt × (Dt → Ev))} {ts : TS} {Fs : Ev → Ot}
def dnewE (_ : Ev) : Rs Dt := .ok (.dic [] [])
def dnewTE (_ : Ev) : Rs Dt := .ok (.dit [] [])
theorem se_dnew : SemE J Γ (.o (.K m)) dnewE tDNewK := fun {G0 H0 G H ρ σ Q} w p a ha => by
  refine p.of_ok (.ref a) G _ (fun b => b = a) (Ext.heap w.gh (Same.new ha)) (fun b hb => ?_) (.K (ks := []) (vs := []) upd_same (w.gh.free ha) rfl rfl .nil)
  rw [hb, upd_same]
  exact ⟨w.gh.free ha, ha, fun z => by cases z⟩
theorem se_dnewT : SemE J Γ (.o (.K m)) dnewTE tDNewT := fun {G0 H0 G H ρ σ Q} w p a ha => by
  refine p.of_ok (.ref a) G _ (fun b => b = a) (Ext.heap w.gh (Same.new ha)) (fun b hb => ?_) (.KT (ks := []) (vs := []) upd_same (w.gh.free ha) rfl rfl .nil)
  rw [hb, upd_same]
  exact ⟨w.gh.free ha, ha, fun z => by cases z⟩
def dinE (neg : Bool) (Fk Fd : Ev → Rs Dt) (ρ : Ev) : Rs Dt := Fk ρ >>= fun k => Fd ρ >>= fun d => dgetD d k >>= fun o => .ok (.bl (if neg = true then !o.isSome else o.isSome))
theorem nx_dget {d k : Dt} {c : Xn} : dgetD d k ≠ .ex c := by
  unfold dgetD
  split <;> intro q <;> cases q
theorem se_din (hk : SemE J Γ .B Fk ta) (hd : SemE J Γ .B Fd tb) : SemE J Γ (.o .F) (dinE false Fk Fd) (tDIn ta tb) := fun {G0 H0 G H ρ σ Q} w p => by
  refine hk w (p.bind.imp (fun k _ p1 y G1 H1 _ e1 _ rk => ?_) fun _ q => q)
  refine hd (w.ext e1) (p1.bind.imp (fun d _ q x G2 H2 _ e2 _ rd => ?_) fun _ q H' dx s => q H' dx (e1.h.trans s))
  cases z : dgetD d k with
  | ex c => exact absurd z nx_dget
  | no => rw [z] at q; cases q
  | ok o =>
    rw [z] at q
    obtain ⟨a, rfl, hg⟩ := dget_run z rd (Rp.mono e2.h rk)
    rcases hg with ⟨e, v, rfl, g, _⟩ | ⟨rfl, g⟩
    · exact ⟨a, some v, rfl, g, q.of_ok _ G2 H2 Pno (e1.trans e2) Fr.no (.F (.bl _))⟩
    · exact ⟨a, none, rfl, g, q.of_ok _ G2 H2 Pno (e1.trans e2) Fr.no (.F (.bl _))⟩
theorem se_dnin (hk : SemE J Γ .B Fk ta) (hd : SemE J Γ .B Fd tb) : SemE J Γ (.o .F) (dinE true Fk Fd) (tDNotIn ta tb) := fun {G0 H0 G H ρ σ Q} w p => by
  refine hk w (p.bind.imp (fun k _ p1 y G1 H1 _ e1 _ rk => ?_) fun _ q => q)
  refine hd (w.ext e1) (p1.bind.imp (fun d _ q x G2 H2 _ e2 _ rd => ?_) fun _ q H' dx s => q H' dx (e1.h.trans s))
  cases z : dgetD d k with
  | ex c => exact absurd z nx_dget
  | no => rw [z] at q; cases q
  | ok o =>
    rw [z] at q
    obtain ⟨a, rfl, hg⟩ := dget_run z rd (Rp.mono e2.h rk)
    rcases hg with ⟨e, v, rfl, g, _⟩ | ⟨rfl, g⟩
    · exact ⟨a, some v, rfl, g, q.of_ok _ G2 H2 Pno (e1.trans e2) Fr.no (.F (.bl _))⟩
    · exact ⟨a, none, rfl, g, q.of_ok _ G2 H2 Pno (e1.trans e2) Fr.no (.F (.bl _))⟩
def dgetE (Fd Fk : Ev → Rs Dt) (ρ : Ev) : Rs Dt := Fd ρ >>= fun d => Fk ρ >>= fun k => dgetD d k >>= fun o => match o with
  | some e => .ok e
  | none => .no
theorem se_dgetB (hd : SemE J Γ .B Fd ta) (hk : SemE J Γ .B Fk tb) : SemE J Γ .B (dgetE Fd Fk) (tDGet ta tb) := fun {G0 H0 G H ρ σ Q} w p => by
  refine hd w (p.bind.imp (fun d _ p1 x G1 H1 _ e1 _ rd => ?_) fun _ q => q)
  refine hk (w.ext e1) (p1.bind.imp (fun k _ q y G2 H2 _ e2 _ rk => ?_) fun _ q H' dx s => q H' dx (e1.h.trans s))
  cases z : dgetD d k with
  | ex c => exact absurd z nx_dget
  | no => rw [z] at q; cases q
  | ok o =>
    rw [z] at q
    obtain ⟨a, rfl, hg⟩ := dget_run z (Rp.mono e2.h rd) rk
    rcases hg with ⟨e, v, rfl, g, r⟩ | ⟨rfl, g⟩
    · exact ⟨a, v, rfl, g, q.of_ok v G2 H2 Pno (e1.trans e2) Fr.no r⟩
    · cases q
/-- something looked at that has no parts -/
def scalE (F : Ev → Rs Dt) (ρ : Ev) : Rs Dt := F ρ >>= fun d => if scal d = true then .ok d else .no
theorem se_scal (h : SemE J Γ .B F te) : SemE J Γ (.o .F) (scalE F) te := fun {G0 H0 G H ρ σ Q} w p => by
  refine h w (p.bind.imp (fun d _ q v G1 H1 P1 e1 _ r1 => ?_) fun _ q => q)
  cases c : scal d with
  | false => rw [c] at q; cases q
  | true => rw [c] at q; exact q.of_ok v G1 H1 Pno e1 Fr.no (.F (scal_rp c r1))
def dlenD (d : Dt) : Rs Dt := match d with
  | .dic ks _ => .ok (.int ks.length)
  | _ => .no
def dlenTD (d : Dt) : Rs Dt := match d with
  | .dit ks _ => .ok (.int ks.length)
  | _ => .no
def dlenE := op1E dlenD
def dlenTE := op1E dlenTD
theorem zip_len {κ α : Type} {ks : List κ} {vs : List α} (h : ks.length = vs.length) : (ks.zip vs).length = ks.length := by rw [List.length_zip, h, Nat.min_self]
theorem se_dlenT (ha : SemE J Γ .B Fa ta) : SemE J Γ (.o .F) (dlenTE Fa) (tCB rLenT (tCons ta tNil)) := fun {G0 H0 G H ρ σ Q} w p => by
  refine ha w (p.bind.imp (fun a _ p1 x G1 H1 _ e1 _ ra => ?_) fun _ q => q)
  cases ra with
  | @dit a ks vs ds h1 h2 h3 =>
    refine ⟨a, _, rfl, h1, ?_⟩
    rw [zip_len h2]
    exact Rs.Post.of_ok p1 _ G1 H1 Pno e1 Fr.no (.F (.int _))
  | _ => cases p1
theorem call_lenDR {X : Cx} : CallR X (.builtin "len") (fun xs H Q => ∃ a kvs, xs = [V.ref a] ∧ Rd H a (.dK kvs) ∧ Q (.int kvs.length) H) := by
  intro pins s σ H xs us Q I r h
  obtain ⟨a, kvs, rfl, ha, q⟩ := h
  obtain ⟨u, rfl, ru⟩ := vals1 r
  cases ru
  exact d_len I ha fun t s' I' => ⟨.int kvs.length, H, I', ⟨t, rfl⟩, q⟩
theorem se_dlen (ha : SemE J Γ .B Fa ta) : SemE J Γ (.o .F) (dlenE Fa) (tCB (fun xs H Q => ∃ a kvs, xs = [V.ref a] ∧ Rd H a (.dK kvs) ∧ Q (.int kvs.length) H) (tCons ta tNil)) := fun {G0 H0 G H ρ σ Q} w p => by
  refine ha w (p.bind.imp (fun a _ p1 x G1 H1 _ e1 _ ra => ?_) fun _ q => q)
  cases a with
  | dic ks ds =>
    obtain ⟨a, vs, rfl, h1, h2, h3⟩ := ra.dicR
    refine ⟨a, _, rfl, h1, ?_⟩
    rw [zip_len h2]
    exact Rs.Post.of_ok p1 _ G1 H1 Pno e1 Fr.no (.F (.int _))
  | _ => cases p1
theorem room1 {k : Nat} {A : Around} (r : Room k A) : A.units + 1 < cLine := by
  have := r.units
  omega
/-! the place of a dict -/
theorem Foc.chgK {ks : List Key} {ds : List Dt} (f : Foc J H0 Γ σ G H (.K .F) (.dic ks ds) v put) (w : Wd J G0 H0 Γ ρ σ G H) (e : Ext G H G' H') : ∃ a vs, v = .ref a ∧ H' a = some (.dK (ks.zip vs)) ∧ ks.length = vs.length ∧ Rps J.K J.ca G' ds vs ∧
    ∀ ks' ds' vs', ks'.length = vs'.length → Rps J.K J.ca G' ds' vs' → Wd J G0 H0 Γ (put (.dic ks' ds')) σ G' (upd H' a (.dK (ks'.zip vs'))) := by
  obtain ⟨P, o, r, k⟩ := f.ex
  cases o with
  | @K _ a _ vs _ _ h1 h2 h3 h4 h5 =>
    have hna : H a ≠ none := by rw [h1]; exact fun z => by cases z
    have gpa : G' a = none := by rw [e.base a hna]; exact h2
    refine ⟨a, vs, rfl, e.h _ _ h1, h4, (h5.frozen).mono e.g, fun ks' ds' vs' hl rp => ?_⟩
    have en := k G' (upd H' a (.dK (ks'.zip vs'))) (.dic ks' ds') (fun b => b = a) e.g (fun b hb hn => ⟨by rw [upd_ne fun z => hn (by rw [z]; exact h3)]; exact e.h.at hb, e.base b hb⟩) (.K upd_same gpa rfl hl (Rps.own rp)) fun b hb => by
      rw [hb, upd_same]
      exact ⟨.inl h3, gpa, (r a h3).2.1, fun z => by cases z⟩
    exact ⟨(w.x.trans e).mut (r a h3).2.1 gpa, en.lg, en.lr, en.env, w.pn⟩
theorem Foc.chgT {ks : List (List Key)} {ds : List Dt} (f : Foc J H0 Γ σ G H (.K .F) (.dit ks ds) v put) (w : Wd J G0 H0 Γ ρ σ G H) (e : Ext G H G' H') : ∃ a vs, v = .ref a ∧ H' a = some (.dT (ks.zip vs)) ∧ ks.length = vs.length ∧ Rps J.K J.ca G' ds vs ∧
    ∀ ks' ds' vs', ks'.length = vs'.length → Rps J.K J.ca G' ds' vs' → Wd J G0 H0 Γ (put (.dit ks' ds')) σ G' (upd H' a (.dT (ks'.zip vs'))) := by
  obtain ⟨P, o, r, k⟩ := f.ex
  cases o with
  | @KT _ a _ vs _ _ h1 h2 h3 h4 h5 =>
    have hna : H a ≠ none := by rw [h1]; exact fun z => by cases z
    have gpa : G' a = none := by rw [e.base a hna]; exact h2
    refine ⟨a, vs, rfl, e.h _ _ h1, h4, (h5.frozen).mono e.g, fun ks' ds' vs' hl rp => ?_⟩
    have en := k G' (upd H' a (.dT (ks'.zip vs'))) (.dit ks' ds') (fun b => b = a) e.g (fun b hb hn => ⟨by rw [upd_ne fun z => hn (by rw [z]; exact h3)]; exact e.h.at hb, e.base b hb⟩) (.KT upd_same gpa rfl hl (Rps.own rp)) fun b hb => by
      rw [hb, upd_same]
      exact ⟨.inl h3, gpa, (r a h3).2.1, fun z => by cases z⟩
    exact ⟨(w.x.trans e).mut (r a h3).2.1 gpa, en.lg, en.lr, en.env, w.pn⟩
def dputD (d k y : Dt) : Option Dt := match d, keyD k with
  | .dic ks ds, some (.inl x) => if lenSz ks.length = true then some (.dic (putKs ks x) (putDs ks ds x y)) else none
  | .dit ks ds, some (.inr x) => if lenSz ks.length = true then some (.dit (putKs ks x) (putDs ks ds x y)) else none
  | _, _ => none
def dputS (Fv : Ev → Rs Dt) (Fp : Ev → Rs (Dt × (Dt → Ev))) (Fk : Ev → Rs Dt) (ρ : Ev) : Ot := bindS (Fv ρ) ρ fun y => bindS (Fp ρ) ρ fun x => bindS (Fk ρ) ρ fun k => match dputD x.1 k y with
  | some d => .nx (x.2 d)
  | none => .no
theorem ss_dput (h : SemE J Γ (.o .F) F te) (k : SemP J Γ Fp (.K .F) ta) (l : SemE J Γ .B Fk tb) (hx : Gx J Γ) : SemS J Γ Γ (dputS F Fp Fk) (sDPut ta tb te) := fun {G0 H0 G H ρ σ D} w p => by
  refine h w ((PostS.bind w hx p).imp (fun y _ q v G1 H1 _ e1 _ o1 => ?_) fun _ q => q)
  have w1 := w.ext e1
  refine k w1 ((PostS.bind w1 hx (PostS.up e1.g q)).imp (fun x _ q v2 G2 H2 e2 f2 => ?_) fun _ q => q)
  have w2 := w1.ext e2
  refine l w2 ((PostS.bind w2 hx (PostS.up e2.g q)).imp (fun i _ q v3 G3 H3 _ e3 _ o3 => ?_) fun _ q => q)
  obtain ⟨xd, xp⟩ := x
  cases o1 with
  | F o1 =>
  have q : PostS J G0 H0 G2 Γ D (match dputD xd i y with
    | some d => .nx (xp d)
    | none => .no) := q
  cases z : dputD xd i y with
  | none => rw [z] at q; cases q
  | some d =>
    rw [z] at q
    have oy := o1.mono (e2.g.trans e3.g)
    cases xd with
    | dic ks ds =>
      cases z2 : keyD i with
      | none => simp [dputD, z2] at z
      | some s =>
        cases s with
        | inr s => simp [dputD, z2] at z
        | inl s =>
          have z : (if lenSz ks.length = true then some (Dt.dic (putKs ks s) (putDs ks ds s y)) else none) = some d := by simpa [dputD, z2] using z
          split at z
          · rename_i c
            cases z
            have ey := keyL z2 o3
            subst ey
            obtain ⟨a, vs, rfl, hd, hl, rp, fin⟩ := f2.chgK w2 e3
            refine ⟨a, _, rfl, DPut.k hd (by rw [zip_len hl]; exact lenSz_lt c), ?_⟩
            rw [putK_zip hl]
            exact q.of_nx σ G3 _ e3.g (fin _ _ _ (putL_length hl) (putDs_rps rp hl oy))
          · cases z
    | dit ks ds =>
      cases z2 : keyD i with
      | none => simp [dputD, z2] at z
      | some s =>
        cases s with
        | inl s => simp [dputD, z2] at z
        | inr s =>
          have z : (if lenSz ks.length = true then some (Dt.dit (putKs ks s) (putDs ks ds s y)) else none) = some d := by simpa [dputD, z2] using z
          split at z
          · rename_i c
            cases z
            obtain ⟨b, rfl, hb⟩ := keyR z2 o3
            obtain ⟨a, vs, rfl, hd, hl, rp, fin⟩ := f2.chgT w2 e3
            refine ⟨a, _, rfl, DPut.t hd hb (by rw [zip_len hl]; exact lenSz_lt c), ?_⟩
            rw [putK_zip hl]
            exact q.of_nx σ G3 _ e3.g (fin _ _ _ (putL_length hl) (putDs_rps rp hl oy))
          · cases z
    | _ => simp [dputD] at z
end
end Pm
namespace Pm
open PySem PySem.Spec PyProof.Rows L2
open Classical
/-! ### the place of a field, of a tuple's item -/
section
variable {J : Jc} {Γ Γ' Γ1 : List Mode} {em : EM} {m : Mode} {ms : List Mode} {F Fa Fb Fi : Ev → Rs Dt} {te ta tb ti : TE} {G0 H0 Gs G H G' H' : Hp} {ρ : Ev} {σ : L2.St} {D : Ends} {v : V} {put : Dt → Ev} {Fp : Ev → Rs (Dt × (Dt → Ev))} {ts : TS} {Fs : Ev → Ot}
theorem Foc.fld {C : Str} {ns : List Str} {ds : List Dt} {j : Nat} {e : Dt} (f : Foc J H0 Γ σ G H (.I ms) (.ins C ns ds) v put) (hm : ms[j]? = some m) (hj : ds[j]? = some e) : ∃ a dx us u, v = .ref a ∧ H a = some (.ins (J.ca C) dx (ns.zip us)) ∧ us[j]? = some u ∧ ns.length = us.length ∧ Foc J H0 Γ σ G H m e u (fun y => put (.ins C ns (ds.set j y))) := by
  obtain ⟨P, o, r, k⟩ := f.ex
  cases o with
  | @I _ _ a dx _ us _ _ h1 h2 h3 h4 h5 =>
    obtain ⟨u, Pk, q1, q2, q3, q4⟩ := h5.focus (k := j) (m := m) hm hj
    refine ⟨a, dx, us, u, rfl, h1, q1, h4, Pk, q2, fun b hb => r b (q3 b hb).1, fun G2 H2 d2 P2 sg c o2 c2 => ?_⟩
    have ha : ¬ Pk a := fun z => (q3 a z).2 rfl
    have hna : H a ≠ none := by rw [h1]; exact fun z => by cases z
    have p2a : ∀ b, P2 b → b ≠ a := fun b hb z => by
      rcases (c2 b hb).1 with y | y
      · exact ha (z ▸ y)
      · exact hna (z ▸ y)
    have rest := q4 G2 H2 d2 P2 sg (fun b hb hn => ⟨(c b (r b hb.1).2.2 hn).1, by rw [(c b (r b hb.1).2.2 hn).2]; exact (r b hb.1).1⟩) o2 fun b hb => (c2 b hb).1.imp id fun z y => (r b y.1).2.2 z
    refine k G2 H2 (.ins C ns (ds.set j d2)) (fun b => (P b ∧ ¬ Pk b) ∨ P2 b) sg (fun b hb hn => c b hb fun z => hn (q3 b z).1) (.I (by rw [(c a hna ha).1]; exact h1) (by rw [(c a hna ha).2]; exact h2) (.inl ⟨h3, ha⟩) h4 ?_) fun b hb => ?_
    · refine rest.weaken fun b hb => ?_
      rcases hb with ⟨⟨z1, z2⟩, z3⟩ | z
      · exact ⟨.inl ⟨z1, z3⟩, z2⟩
      · exact ⟨.inr z, p2a b z⟩
    · rcases hb with ⟨z1, z2⟩ | z
      · obtain ⟨a1, a2, a3⟩ := r b z1
        obtain ⟨b1, b2⟩ := c b a3 z2
        exact ⟨.inl z1, by rw [b2]; exact a1, a2, by rw [b1]; exact a3⟩
      · exact ⟨(c2 b z).1.imp (fun y => (q3 b y).1) id, (c2 b z).2⟩
def fldP (C f : Str) (j : Nat) (Fp : Ev → Rs (Dt × (Dt → Ev))) (ρ : Ev) : Rs (Dt × (Dt → Ev)) := Fp ρ >>= fun x => match x.1 with
  | .ins C' ns ds => if C' = C ∧ fix f ns = some j then (match ds[j]? with
    | some e => .ok (e, fun y => x.2 (.ins C' ns (ds.set j y)))
    | none => .no) else .no
  | _ => .no
theorem sp_fld {C f : Str} {j : Nat} (cl : Cls J.K (J.ca C)) (na : NoAttr J.K (J.ca C) f) (h : SemP J Γ Fp (.I ms) te) (hm : ms[j]? = some m) : SemP J Γ (fldP C f j Fp) m (tFld J.K te f) := fun {G0 H0 G H ρ σ Q} w p => by
  refine h w (p.bind.imp (fun x _ q v G1 H1 e1 f1 => ?_) fun _ q => q)
  obtain ⟨xd, xp⟩ := x
  cases xd with
  | ins C' ns ds =>
    by_cases hc : C' = C ∧ fix f ns = some j
    case neg =>
      have e : (if C' = C ∧ fix f ns = some j then (match ds[j]? with
        | some e => (Rs.ok (e, fun y => xp (.ins C' ns (ds.set j y))) : Rs (Dt × (Dt → Ev)))
        | none => .no) else .no) = .no := if_neg hc
      have q2 := e ▸ (show Rs.Post _ _ (if C' = C ∧ fix f ns = some j then (match ds[j]? with
        | some e => (Rs.ok (e, fun y => xp (.ins C' ns (ds.set j y))) : Rs (Dt × (Dt → Ev)))
        | none => .no) else .no) from q)
      clear q
      cases q2
    case pos =>
      have e : (if C' = C ∧ fix f ns = some j then (match ds[j]? with
        | some e => (Rs.ok (e, fun y => xp (.ins C' ns (ds.set j y))) : Rs (Dt × (Dt → Ev)))
        | none => .no) else .no) = (match ds[j]? with
        | some e => (Rs.ok (e, fun y => xp (.ins C' ns (ds.set j y))) : Rs (Dt × (Dt → Ev)))
        | none => .no) := if_pos hc
      have q2 := e ▸ (show Rs.Post _ _ (if C' = C ∧ fix f ns = some j then (match ds[j]? with
        | some e => (Rs.ok (e, fun y => xp (.ins C' ns (ds.set j y))) : Rs (Dt × (Dt → Ev)))
        | none => .no) else .no) from q)
      clear q e
      obtain ⟨hC, hf⟩ := hc
      subst hC
      cases he : ds[j]? with
      | none => simp only [he] at q2; cases q2
      | some e =>
        simp only [he] at q2
        obtain ⟨a, dx, us, u, rfl, h1, h2, h3, h4⟩ := f1.fld hm he
        exact ⟨a, J.ca C', dx, _, u, rfl, h1, cl, na, fix_lookup hf h2, q2.of_ok u G1 H1 e1 h4⟩
  | _ => cases q
theorem Foc.tix {ds : List Dt} {j : Nat} {e : Dt} (f : Foc J H0 Γ σ G H (.T ms) (.tup ds) v put) (hm : ms[j]? = some m) (hj : ds[j]? = some e) : ∃ a us u, v = .ref a ∧ H a = some (.tup us) ∧ us[j]? = some u ∧ ds.length = us.length ∧ Foc J H0 Γ σ G H m e u (fun y => put (.tup (ds.set j y))) := by
  obtain ⟨P, o, r, k⟩ := f.ex
  cases o with
  | @T _ a us _ _ h1 h2 h3 h4 =>
    obtain ⟨u, Pk, q1, q2, q3, q4⟩ := h4.focus (k := j) (m := m) hm hj
    refine ⟨a, us, u, rfl, h1, q1, h4.len.1, Pk, q2, fun b hb => r b (q3 b hb).1, fun G2 H2 d2 P2 sg c o2 c2 => ?_⟩
    have ha : ¬ Pk a := fun z => (q3 a z).2 rfl
    have hna : H a ≠ none := by rw [h1]; exact fun z => by cases z
    have p2a : ∀ b, P2 b → b ≠ a := fun b hb z => by
      rcases (c2 b hb).1 with y | y
      · exact ha (z ▸ y)
      · exact hna (z ▸ y)
    have rest := q4 G2 H2 d2 P2 sg (fun b hb hn => ⟨(c b (r b hb.1).2.2 hn).1, by rw [(c b (r b hb.1).2.2 hn).2]; exact (r b hb.1).1⟩) o2 fun b hb => (c2 b hb).1.imp id fun z y => (r b y.1).2.2 z
    refine k G2 H2 (.tup (ds.set j d2)) (fun b => (P b ∧ ¬ Pk b) ∨ P2 b) sg (fun b hb hn => c b hb fun z => hn (q3 b z).1) (.T (by rw [(c a hna ha).1]; exact h1) (by rw [(c a hna ha).2]; exact h2) (.inl ⟨h3, ha⟩) ?_) fun b hb => ?_
    · refine rest.weaken fun b hb => ?_
      rcases hb with ⟨⟨z1, z2⟩, z3⟩ | z
      · exact ⟨.inl ⟨z1, z3⟩, z2⟩
      · exact ⟨.inr z, p2a b z⟩
    · rcases hb with ⟨z1, z2⟩ | z
      · obtain ⟨a1, a2, a3⟩ := r b z1
        obtain ⟨b1, b2⟩ := c b a3 z2
        exact ⟨.inl z1, by rw [b2]; exact a1, a2, by rw [b1]; exact a3⟩
      · exact ⟨(c2 b z).1.imp (fun y => (q3 b y).1) id, (c2 b z).2⟩
def tixP (j : Nat) (Fp : Ev → Rs (Dt × (Dt → Ev))) (ρ : Ev) : Rs (Dt × (Dt → Ev)) := Fp ρ >>= fun x => match x.1 with
  | .tup ds => (match ds[j]? with
    | some e => .ok (e, fun y => x.2 (.tup (ds.set j y)))
    | none => .no)
  | _ => .no
theorem sp_tix {j : Nat} (h : SemP J Γ Fp (.T ms) te) (hm : ms[j]? = some m) : SemP J Γ (tixP j Fp) m (tOp (rIx J.K) te (tC (.int (j : Nat)))) := fun {G0 H0 G H ρ σ Q} w p => by
  refine h w (p.bind.imp (fun x _ q v G1 H1 e1 f1 => ?_) fun _ q => q)
  obtain ⟨xd, xp⟩ := x
  cases xd with
  | tup ds =>
    have q : Rs.Post _ _ (match ds[j]? with
      | some e => Rs.ok (e, fun y => xp (.tup (ds.set j y)))
      | none => .no) := q
    cases he : ds[j]? with
    | none => simp only [he] at q; cases q
    | some e =>
      simp only [he] at q
      obtain ⟨a, us, u, rfl, h1, h2, h3, h4⟩ := f1.tix hm he
      refine .inr (.inl ⟨a, us, (j : Nat), u, rfl, rfl, .of h1, ?_, q.of_ok u G1 H1 e1 h4⟩)
      unfold atI ixN
      have hl := (List.getElem?_eq_some_iff.mp h2).1
      rw [if_pos (by omega), if_pos (by omega)]
      simpa using h2
  | _ => cases q
/-! ### a field is frozen -/
theorem Ows.frzAt {K : PySem.W.Frag} {ca : Str → Addr} : ∀ {ds : List Dt} {ms : List Mode} {us : List V} {P : Addr → Prop} (j : Nat), Ows K ca G H ms ds us P → ∃ Pk : Addr → Prop, (∀ b, Pk b → P b) ∧ ∀ G2, Same G G2 → (∀ b, Pk b → G2 b = H b) → (∀ b, P b → ¬ Pk b → G2 b = none) → Ows K ca G2 H (ms.set j .F) ds us (fun b => P b ∧ ¬ Pk b)
  | [], ms, us, P, j, h => by
    cases h
    exact ⟨Pno, fun _ z => z.elim, fun G2 _ _ _ => .nil⟩
  | d :: ds, _, _, P, 0, h => by
    cases h with
    | @cons _ ms _ _ v us _ A B h1 h2 q1 q2 q3 =>
      refine ⟨A, q1, fun G2 sg c1 c2 => ?_⟩
      rw [List.set_cons_zero]
      refine .cons (P1 := Pno) (P2 := B) (.F (h1.freeze sg c1)) (h2.carry sg fun b hb => ⟨rfl, c2 b (q2 b hb) fun z => q3 b z hb⟩) (fun _ z => z.elim) (fun b hb => ⟨q2 b hb, fun z => q3 b z hb⟩) (fun _ z => z.elim)
  | d :: ds, _, _, P, j + 1, h => by
    cases h with
    | @cons _ ms _ _ v us _ A B h1 h2 q1 q2 q3 =>
      obtain ⟨Pk, r1, r2⟩ := Ows.frzAt j h2
      refine ⟨Pk, fun b hb => q2 b (r1 b hb), fun G2 sg c1 c2 => ?_⟩
      rw [List.set_cons_succ]
      refine .cons (P1 := A) (P2 := fun b => B b ∧ ¬ Pk b) (h1.carry sg fun b hb => ⟨rfl, c2 b (q1 b hb) fun z => q3 b hb (r1 b z)⟩) (r2 G2 sg c1 fun b hb hn => c2 b (q2 b hb) hn) (fun b hb => ⟨q1 b hb, fun z => q3 b hb (r1 b z)⟩) (fun b hb => ⟨q2 b hb.1, hb.2⟩) fun b hb z => q3 b hb z.1
/-- from here on the field j of the owned slot i is frozen -/
theorem ss_frzI {i j : Nat} (hm : Γ[i]? = some (.I ms)) (h : SemS J (Γ.set i (.I (ms.set j .F))) Γ' Fs ts) : SemS J Γ Γ' Fs ts := fun {G0 H0 G H ρ σ D} w p => by
  obtain ⟨Pf, h1, h2, h3⟩ := w.env
  by_cases hd : ∃ d, ρ[i]? = some (some d)
  case neg =>
    refine h ⟨w.x, by rw [List.length_set]; exact w.lg, w.lr, ⟨Pf, h1, h2, fun k c q => ?_⟩, w.pn⟩ p
    obtain ⟨v, m', s1, s2, s3⟩ := h3 k c q
    refine ⟨v, m', s1, ?_, s3⟩
    rw [List.getElem?_set_ne fun z => hd ⟨c, by rw [z]; exact q⟩]
    exact s2
  obtain ⟨d, hd⟩ := hd
  obtain ⟨v, m', s1, s2, s3⟩ := h3 i d hd
  rw [hm] at s2
  cases s2
  cases s3 with
  | @I _ C a dx ns us ds _ k1 k2 k3 k4 k5 =>
    obtain ⟨Pk, r1, r2⟩ := k5.frzAt j
    have pk : ∀ b, Pk b → Pf i b := fun b hb => (r1 b hb).1
    have sg : Same G (fun b => if Pk b then H b else G b) := fun x u q => by
      show (if Pk x then H x else G x) = some u
      by_cases z : Pk x
      · rw [if_pos z]; exact w.gh x u q
      · rw [if_neg z]; exact q
    have old : ∀ b, ¬ Pk b → (if Pk b then H b else G b) = G b := fun b hb => if_neg hb
    refine h (G := fun b => if Pk b then H b else G b) ⟨⟨w.x.g.trans sg, w.x.h, fun x u q => ?_, fun x q => ?_⟩, by rw [List.length_set]; exact w.lg, w.lr, ⟨fun k b => Pf k b ∧ ¬ Pk b, fun k l b q r s => h1 k l b q r.1 s.1, fun k b q => ?_, fun k c q => ?_⟩, w.pn⟩ (p.up sg)
    · have q : (if Pk x then H x else G x) = some u := q
      by_cases z : Pk x
      · rw [if_pos z] at q; exact q
      · rw [if_neg z] at q; exact w.gh x u q
    · show (if Pk x then H x else G x) = G0 x
      rw [if_neg fun z => q (h2 i x (pk x z)).2.1]
      exact w.x.base x q
    · refine ⟨?_, (h2 k b q.1).2⟩
      show (if Pk b then H b else G b) = none
      rw [if_neg q.2]
      exact (h2 k b q.1).1
    · by_cases hk : k = i
      · subst hk
        rw [hd] at q
        cases q
        refine ⟨_, .I (ms.set j .F), s1, List.getElem?_set_self (by rw [w.lg]; exact (List.getElem?_eq_some_iff.mp hd).1), ?_⟩
        have ha : ¬ Pk a := fun z => (r1 a z).2 rfl
        refine .I k1 (by show (if Pk a then H a else G a) = none; rw [if_neg ha]; exact k2) ⟨k3, ha⟩ k4 ?_
        refine (r2 _ sg (fun b hb => if_pos hb) fun b hb hn => ?_).weaken fun b hb => ⟨⟨hb.1.1, hb.2⟩, hb.1.2⟩
        show (if Pk b then H b else G b) = none
        rw [if_neg hn]
        exact (h2 k b hb.1).1
      · obtain ⟨v2, m2, t1, t2, t3⟩ := h3 k c q
        refine ⟨v2, m2, t1, by rw [List.getElem?_set_ne (Ne.symm hk)]; exact t2, (t3.carry sg fun b hb => ⟨rfl, ?_⟩).weaken fun b hb => ⟨hb, fun z => h1 k i b hk hb (pk b z)⟩⟩
        show (if Pk b then H b else G b) = none
        rw [if_neg fun z => h1 k i b hk hb (pk b z)]
        exact (h2 k b hb).1
end
end Pm
namespace Pm
open PySem PySem.Spec PyProof.Rows L2
open Classical
/-! ### names that are read no more -/
section
variable {J : Jc} {Γ Γ' : List Mode} {G0 H0 G H : Hp} {ρ : Ev} {σ : L2.St} {F : Ev → Ot} {ts : TS} {vs : List Nat}
theorem Wd.fgt (w : Wd J G0 H0 Γ ρ σ G H) (vs : List Nat) : Wd J G0 H0 Γ (wipeE ρ vs) σ G H := by
  obtain ⟨Pf, h1, h2, h3⟩ := w.env
  exact ⟨w.x, by rw [wipeE_length]; exact w.lg, by rw [wipeE_length]; exact w.lr, ⟨Pf, h1, h2, fun i d q => h3 i d (wipeE_some q).1⟩, w.pn⟩
def fgtS (vs : List Nat) (F : Ev → Ot) (ρ : Ev) : Ot := F (wipeE ρ vs)
theorem ss_fgt (h : SemS J Γ Γ' F ts) : SemS J Γ Γ' (fgtS vs F) ts := fun {G0 H0 G H ρ σ D} w p => h (w.fgt vs) p
end
end Pm
namespace Pm
open PySem PySem.Spec PyProof.Rows L2 C8
open Classical
/-! ### int(x), isinstance of own classes, of tuples of classes -/
def intD : Dt → Rs Dt
  | .int i => .ok (.int i)
  | .bl b => .ok (.int (if b = true then 1 else 0))
  | _ => .no
def intE := op1E intD
def isCD (C : Str) : Dt → Rs Dt
  | .ins C' _ _ => if C' = C then .ok (.bl true) else .no
  | _ => .no
def isCE (C : Str) := op1E (isCD C)
section
variable {J : Jc} {Γ Γ' Γ1 Γ2 : List Mode} {em : EM} {m : Mode} {ms : List Mode} {Fe Fa Fb Fi : Ev → Rs Dt} {Fs : List (Ev → Rs Dt)} {te ta tb ti : TE} {tr : TA} {G0 H0 Gs G H G' H' : Hp} {ρ : Ev} {σ : L2.St} {vs : List Nat}
  {F F1 F2 : Ev → Ot} {ts t1 t2 : TS} {D : Ends} {d : Dt} {v : V} {put : Dt → Ev} {Fp : Ev → Rs (Dt × (Dt → Ev))}
abbrev rInt1 : List V → Hp → VK → Prop := fun xs H Q => (∃ i, xs = [.int i] ∧ Q (.int i) H) ∨ ∃ k, xs = [.bl k] ∧ Q (.int (if k then 1 else 0)) H
theorem se_int1 (ha : SemE J Γ .B Fa ta) : SemE J Γ (.o .F) (intE Fa) (tCB rInt1 (tCons ta tNil)) :=
  se_cb1 (fun H a d x Q ra q k => by
    cases ra with
    | int i => cases q; exact .inl ⟨i, rfl, k _ rfl fun _ => .int _⟩
    | bl b => cases q; exact .inr ⟨b, rfl, k _ rfl fun _ => .int _⟩
    | _ => cases q) (fun a c => by unfold intD; split <;> intro q <;> cases q) ha
theorem se_isC {C : Str} (ha : SemE J Γ .B Fa ta) : SemE J Γ (.o .F) (isCE C Fa) (tCB (fun xs H Q => ∃ a dx fs, xs = [.ref a, .ref (J.ca C)] ∧ H a = some (.ins (J.ca C) dx fs) ∧ Q (.bl true) H) (tCons ta (tCons (tC (.ref (J.ca C))) tNil))) := fun {G0 H0 G H ρ σ Q} w p => by
  refine ha w (p.bind.imp (fun a _ p1 x G1 H1 _ e1 _ ra => ?_) fun _ q => q)
  cases ra with
  | @ins C' a dx ns us ds h1 h2 h3 =>
    by_cases hc : C' = C
    case neg =>
      have e : isCD C (Dt.ins C' ns ds) = .no := if_neg hc
      rw [e] at p1
      cases p1
    subst hc
    have e : isCD C' (Dt.ins C' ns ds) = .ok (.bl true) := if_pos rfl
    rw [e] at p1
    exact ⟨_, dx, _, rfl, h1, Rs.Post.of_ok p1 (.bl true) G1 H1 Pno e1 Fr.no (.F (.bl _))⟩
  | _ => cases p1
/-! ### index, count -/
def ixOf (y : Dt) : List Dt → Option Nat
  | [] => none
  | d :: ds => if deq d y = true then some 0 else (ixOf y ds).map (· + 1)
def indexD (ds : List Dt) (b : Dt) : Rs Dt := if (scal b && ds.all scal) = true then (match ixOf b ds with
    | some j => .ok (.int (j : Nat))
    | none => .no) else .no
def countD (ds : List Dt) (b : Dt) : Rs Dt := if (scal b && ds.all scal) = true then .ok (.int ((ds.countP fun d => deq d b : Nat) : Int)) else .no
def bm1E (g : List Dt → Dt → Rs Dt) (Fa Fb : Ev → Rs Dt) (ρ : Ev) : Rs Dt := Fa ρ >>= fun a => lstOf a >>= fun ds => Fb ρ >>= fun b => g ds b
def indexE := bm1E indexD
def countE := bm1E countD
theorem all_flat {K : PySem.W.Frag} {ca : Str → Addr} : ∀ {ds : List Dt} {vs : List V}, ds.all scal = true → Rps K ca H ds vs → vs.all flatV = true
  | [], _, _, h => by cases h; rfl
  | d :: ds, _, c, h => by
    cases h with
    | cons h1 h2 =>
      rw [List.all_cons, Bool.and_eq_true] at c
      rw [List.all_cons, scal_flat c.1 h1, all_flat c.2 h2]
      rfl
theorem ixOf_run {K : PySem.W.Frag} {ca : Str → Addr} {b : Dt} {y : V} (sb : scal b = true) (rb : Rp K ca H b y) : ∀ {ds : List Dt} {vs : List V} {j : Nat}, ds.all scal = true → Rps K ca H ds vs → ixOf b ds = some j → ∃ z, vs[j]? = some z ∧ eqV z y = true ∧ ∀ (m : Nat) (z' : V), m < j → vs[m]? = some z' → eqV z' y = false
  | [], _, j, _, _, e => by cases e
  | d :: ds, _, j, c, h, e => by
    cases h with
    | @cons _ _ v vs h1 h2 =>
      rw [List.all_cons, Bool.and_eq_true] at c
      unfold ixOf at e
      by_cases q : deq d b = true
      · rw [if_pos q] at e
        cases e
        exact ⟨v, rfl, by rw [eqV_deq c.1 sb h1 rb]; exact q, fun m z' hm => absurd hm (Nat.not_lt_zero m)⟩
      · rw [if_neg q] at e
        cases z : ixOf b ds with
        | none => rw [z] at e; cases e
        | some i =>
          rw [z] at e
          cases e
          obtain ⟨w, h3, h4, h5⟩ := ixOf_run sb rb c.2 h2 z
          refine ⟨w, by simpa using h3, h4, fun m z' hm hz => ?_⟩
          cases m with
          | zero =>
            have : v = z' := by simpa using hz
            subst this
            rw [eqV_deq c.1 sb h1 rb]
            exact Bool.not_eq_true _ ▸ q
          | succ m => exact h5 m z' (Nat.lt_of_succ_lt_succ hm) (by simpa using hz)
theorem countP_run {K : PySem.W.Frag} {ca : Str → Addr} {b : Dt} {y : V} (sb : scal b = true) (rb : Rp K ca H b y) : ∀ {ds : List Dt} {vs : List V}, ds.all scal = true → Rps K ca H ds vs → (vs.countP fun z => eqV z y) = ds.countP fun d => deq d b
  | [], _, _, h => by cases h; rfl
  | d :: ds, _, c, h => by
    cases h with
    | cons h1 h2 =>
      rw [List.all_cons, Bool.and_eq_true] at c
      rw [List.countP_cons, List.countP_cons, countP_run sb rb c.2 h2, eqV_deq c.1 sb h1 rb]
theorem lstOf_ok {d : Dt} {ds : List Dt} (h : lstOf d = .ok ds) : d = .lst ds := by
  unfold lstOf at h
  split at h
  · cases h; rfl
  · cases h
theorem nx_lstOf {d : Dt} {c : Xn} : lstOf d ≠ .ex c := by
  unfold lstOf
  split <;> intro q <;> cases q
theorem se_bm1 {g : List Dt → Dt → Rs Dt} {r : V → List V → Hp → VK → Prop} (hr : ∀ (H : Hp) (a : Addr) (ds : List Dt) (us : List V) (b d : Dt) (y : V) (Q : VK), H a = some (.lst us) → Rps J.K J.ca H ds us → Rp J.K J.ca H b y → g ds b = .ok d → (∀ v, scal d = true → (∀ G, Rp J.K J.ca G d v) → Q v H) → r (.ref a) [y] H Q) (hn : ∀ a b c, g a b ≠ .ex c) (ha : SemE J Γ .B Fa ta) (hb : SemE J Γ .B Fb tb) :
    SemE J Γ (.o .F) (bm1E g Fa Fb) (tBM J.K "list" r ta (tCons tb tNil)) := fun {G0 H0 G H ρ σ Q} w p => by
  refine ha w (p.bind.imp (fun a _ p1 x G1 H1 _ e1 _ ra => ?_) fun _ q => q)
  cases z : lstOf a with
  | ex c => exact absurd z nx_lstOf
  | no => rw [z] at p1; cases p1
  | ok ds =>
    rw [z] at p1
    have ea := lstOf_ok z
    subst ea
    cases ra with
    | @lst a us _ h1 h2 =>
      refine ⟨.inl ⟨rfl, us, .of h1⟩, ?_⟩
      refine hb (w.ext e1) ((Rs.Post.bind (r := Fb ρ) p1).imp (fun b _ p2 y G2 H2 _ e2 _ rb => ?_) fun _ q H' dx s => q H' dx (e1.h.trans s))
      cases q : g ds b with
      | ok d =>
        rw [q] at p2
        exact hr H2 a ds us b d y Q (e2.h _ _ h1) (Rps.mono e2.h h2) rb q fun v _ hv => p2.of_ok v G2 H2 Pno (e1.trans e2) Fr.no (.F (hv _))
      | ex c => exact absurd q (hn ds b c)
      | no => rw [q] at p2; cases p2
theorem se_index (ha : SemE J Γ .B Fa ta) (hb : SemE J Γ .B Fb tb) : SemE J Γ (.o .F) (indexE Fa Fb) (tBM J.K "list" (rIndex J.K) ta (tCons tb tNil)) := se_bm1 (fun H a ds us b d y Q h1 h2 rb q k => by
  unfold indexD at q
  obtain ⟨c, q⟩ := ok_if q
  rw [Bool.and_eq_true] at c
  cases z : ixOf b ds with
  | none => rw [z] at q; cases q
  | some j =>
    rw [z] at q
    cases q
    obtain ⟨u, g1, g2, g3⟩ := ixOf_run c.1 rb c.2 h2 z
    exact ⟨a, us, y, j, u, rfl, rfl, .of h1, scal_flat c.1 rb, all_flat c.2 h2, g1, g2, g3, k _ rfl fun _ => .int _⟩) (fun ds b c => by
  unfold indexD
  refine nx_if ?_ (fun q => by cases q)
  cases ixOf b ds <;> intro q <;> cases q) ha hb
def rCnt (K : PySem.W.Frag) : V → List V → Hp → VK → Prop := fun x xs H Q => ∃ (a : Addr) (ys : List V) (y : V), x = V.ref a ∧ xs = [y] ∧ SqL K H a ys ∧ flatV y = true ∧ ys.all flatV = true ∧ Q (.int ((ys.countP fun z => eqV z y : Nat) : Int)) H
theorem cnt_vals {y : V} : ∀ {ys : List V} {us : List Value}, ys.all flatV = true → Vals ys us → us.countP (eqU y) = ys.countP fun z => eqV z y
  | [], _, _, h => by cases h; rfl
  | z :: ys, _, c, h => by
    cases h with
    | cons r rr =>
      rw [List.all_cons, Bool.and_eq_true] at c
      rw [List.countP_cons, List.countP_cons, cnt_vals c.2 rr, eqU_of r c.1]
theorem mt_count {X : Cx} : MtR X "list.count" (rCnt X.K) := by
  intro pins s σ H x xs v us Q I rx rxs h
  obtain ⟨a, ys, y, rfl, rfl, hs, fy, fys, q⟩ := h
  cases rx
  cases rxs with
  | cons ry rt =>
    rename_i uy ut
    cases rt
    obtain ⟨its, rv, ⟨⟨cls, dd, data, sl⟩, n, ho, hc, hdn, hd⟩, hlen⟩ := I.list hs
    simp only at hc hd
    subst hc hd
    refine call_meets PySem.F.slot_list_count ⟨_, ho, rfl⟩ PySem.F.entry_list_count (PySem.F.args_list_count_2 _ _)
      (SeqAt.list_countAt a its.toArray n dd sl uy (eqU y)) ⟨ho, fun u' hu' => mem_eqAt ry fy rv fys u' (by simpa using hu'), ?_⟩
    refine ⟨.int ((ys.countP fun z => eqV z y : Nat) : Int), H, I.tok _, ⟨s.toks, ?_⟩, q⟩
    show Value.int ((its.toArray.toList.countP (eqU y) : Nat) : Int) s.toks = _
    rw [show its.toArray.toList = its from rfl, cnt_vals fys rv]
theorem se_count (ha : SemE J Γ .B Fa ta) (hb : SemE J Γ .B Fb tb) : SemE J Γ (.o .F) (countE Fa Fb) (tBM J.K "list" (rCnt J.K) ta (tCons tb tNil)) := se_bm1 (fun H a ds us b d y Q h1 h2 rb q k => by
  unfold countD at q
  obtain ⟨c, q⟩ := ok_if q
  rw [Bool.and_eq_true] at c
  cases q
  refine ⟨a, us, y, rfl, rfl, .of h1, scal_flat c.1 rb, all_flat c.2 h2, ?_⟩
  rw [countP_run c.1 rb c.2 h2]
  exact k _ rfl fun _ => .int _) (fun ds b c => by
  unfold countD
  exact nx_if (fun q => by cases q) fun q => by cases q) ha hb
/-! ### pop of frozen items -/
theorem Ows.frozenE {K : PySem.W.Frag} {ca : Str → Addr} {ds : List Dt} {us : List V} {P : Addr → Prop} (h : Ows K ca G H (List.replicate ds.length .F) ds us P) : Rps K ca G ds us := h.frozen
theorem Rps.erase {K : PySem.W.Frag} {ca : Str → Addr} : ∀ {ds : List Dt} {us : List V} (j : Nat), Rps K ca H ds us → Rps K ca H (ds.eraseIdx j) (us.eraseIdx j)
  | [], _, j, h => by cases h; simp; exact .nil
  | d :: ds, _, 0, h => by
    cases h with
    | cons h1 h2 => simpa using h2
  | d :: ds, _, j + 1, h => by
    cases h with
    | cons h1 h2 => simpa using Rps.cons h1 (Rps.erase j h2)
/-- P.pop(e): what goes, what is left -/
def popD (ds : List Dt) (k : Dt) : Rs (Dt × List Dt) := match k with
  | .int i => (match ixN ds.length i with
    | some j => (match ds[j]? with
      | some y => if intSz i = true then .ok (y, ds.eraseIdx j) else .no
      | none => .no)
    | none => .no)
  | _ => .no
theorem popD_run {K : PySem.W.Frag} {ca : Str → Addr} {ds : List Dt} {us : List V} {k y : Dt} {es : List Dt} {v : V} (q : popD ds k = .ok (y, es)) (r : Rps K ca G ds us) (rk : Rp K ca H k v) : ∃ (i : Int) (j : Nat) (u : V), v = .int i ∧ -(2 ^ 63) ≤ i ∧ i < 2 ^ 63 ∧ seqIndex? i us.length = some j ∧ us[j]? = some u ∧ Rp K ca G y u ∧ es = ds.eraseIdx j := by
  cases rk with
  | int i =>
    have q : (match ixN ds.length i with
      | some j => (match ds[j]? with
        | some y => if intSz i = true then Rs.ok (y, ds.eraseIdx j) else .no
        | none => .no)
      | none => .no) = .ok (y, es) := q
    cases hj : ixN ds.length i with
    | none => rw [hj] at q; cases q
    | some j =>
      rw [hj] at q
      cases he : ds[j]? with
      | none => simp only [he] at q; cases q
      | some e =>
        simp only [he] at q
        obtain ⟨c, q⟩ := ok_if q
        cases q
        have c := intSz_ok c
        obtain ⟨u, hu, ru⟩ := r.get he
        refine ⟨i, j, u, rfl, by omega, by omega, ?_, hu, ru, rfl⟩
        rw [← r.length]
        exact (ixN_seq hj).1
  | _ => cases q
theorem nx_pop {ds : List Dt} {k : Dt} {c : Xn} : popD ds k ≠ .ex c := by
  unfold popD
  split
  · split
    · split
      · exact nx_if (fun q => by cases q) fun q => by cases q
      · intro q; cases q
    · intro q; cases q
  · intro q; cases q
/-- P.pop(e) as a statement -/
def popS (Fp : Ev → Rs (Dt × (Dt → Ev))) (Fe : Ev → Rs Dt) (ρ : Ev) : Ot := bindS (Fp ρ) ρ fun x => bindS (lstOf x.1) ρ fun ds => bindS (Fe ρ) ρ fun k => bindS (popD ds k) ρ fun y => .nx (x.2 (.lst y.2))
theorem PostS.bindx {α : Type} {r : Rs α} {k : α → Ot} (hn : ∀ c, r ≠ .ex c) (p : PostS J G0 H0 G Γ' D (bindS r ρ k)) : ∃ a, r = .ok a ∧ PostS J G0 H0 G Γ' D (k a) := by
  cases r with
  | ok a => exact ⟨a, rfl, p⟩
  | ex c => exact absurd rfl (hn c)
  | no => cases p
theorem ss_pop (h : SemP J Γ Fp (.L .F) te) (k : SemE J Γ .B Fe ta) (hx : Gx J Γ) : SemS J Γ Γ (popS Fp Fe) (tDrop (tBM J.K "list" rPopAt te (tCons ta tNil))) := fun {G0 H0 G H ρ σ D} w p => by
  refine h w ((PostS.bind w hx p).imp (fun x _ q v G1 H1 e1 f1 => ?_) fun _ q => q)
  obtain ⟨xd, xp⟩ := x
  have w1 := w.ext e1
  obtain ⟨ds, hz, q⟩ := q.bindx (fun _ => nx_lstOf)
  have ed := lstOf_ok hz
  have ed : xd = .lst ds := ed
  subst ed
  obtain ⟨a, us, Pin, rfl, hu, _⟩ := f1.chg w1 (Ext.refl w1.gh)
  refine ⟨.inl ⟨rfl, us, .of hu⟩, ?_⟩
  refine k w1 ((PostS.bind w1 hx (q.up e1.g)).imp (fun y _ q y' G2 H2 P2 e2 f2 o2 => ?_) fun _ q => q)
  obtain ⟨a', us', Pin', ea, hu', own, pr, fin⟩ := f1.chg w1 e2
  cases ea
  obtain ⟨⟨z, es⟩, hz2, q⟩ := q.bindx (fun _ => nx_pop)
  obtain ⟨i, j, u, rfl, i1, i2, i3, i4, i5, rfl⟩ := popD_run hz2 own.frozen o2
  refine ⟨a, us', i, j, u, rfl, rfl, hu', i1, i2, i3, i4, ?_⟩
  exact q.of_nx σ G2 _ e2.g (fin (ds.eraseIdx j) (us'.eraseIdx j) Pno (Rps.own ((own.frozen).erase j)) fun b z => z.elim)
/-- n = P.pop(e) -/
def asgPopS (i : Nat) (Fp : Ev → Rs (Dt × (Dt → Ev))) (Fe : Ev → Rs Dt) (ρ : Ev) : Ot := bindS (Fp ρ) ρ fun x => bindS (lstOf x.1) ρ fun ds => bindS (Fe ρ) ρ fun k => bindS (popD ds k) ρ fun y => .nx ((x.2 (.lst y.2)).set i (some y.1))
theorem ss_asgPop {i : Nat} (h : SemP J Γ Fp (.L .F) te) (k : SemE J Γ .B Fe ta) (hx : Gx J Γ) (hm : Γ[i]? = some .F := by rfl) (hp : J.free i := by rfl) : SemS J Γ Γ (asgPopS i Fp Fe) (tAsg (tBM J.K "list" rPopAt te (tCons ta tNil)) (gName i)) := fun {G0 H0 G H ρ σ D} w p => by
  refine h w ((PostS.bind w hx p).imp (fun x _ q v G1 H1 e1 f1 => ?_) fun _ q => q)
  obtain ⟨xd, xp⟩ := x
  have w1 := w.ext e1
  obtain ⟨ds, hz, q⟩ := q.bindx (fun _ => nx_lstOf)
  have ed := lstOf_ok hz
  have ed : xd = .lst ds := ed
  subst ed
  obtain ⟨a, us, Pin, rfl, hu, _⟩ := f1.chg w1 (Ext.refl w1.gh)
  refine ⟨.inl ⟨rfl, us, .of hu⟩, ?_⟩
  refine k w1 ((PostS.bind w1 hx (q.up e1.g)).imp (fun y _ q y' G2 H2 P2 e2 f2 o2 => ?_) fun _ q => q)
  obtain ⟨a', us', Pin', ea, hu', own, pr, fin⟩ := f1.chg w1 e2
  cases ea
  obtain ⟨⟨z, es⟩, hz2, q⟩ := q.bindx (fun _ => nx_pop)
  obtain ⟨i', j, u, rfl, i1, i2, i3, i4, i5, rfl⟩ := popD_run hz2 own.frozen o2
  refine ⟨a, us', i', j, u, rfl, rfl, hu', i1, i2, i3, i4, ?_⟩
  have w2 := fin (ds.eraseIdx j) (us'.eraseIdx j) Pno (Rps.own ((own.frozen).erase j)) fun b z => z.elim
  have w3 := w2.set (Ext.refl w2.gh) (.F (P := Pno) i5) (Fr.no (G := G2)) i hp
  rw [set_same hm] at w3
  exact q.of_nx _ G2 _ e2.g w3
/-- P.append(n.pop(e)), n a name -/
def appPopS (Fp : Ev → Rs (Dt × (Dt → Ev))) (j : Nat) (Fe : Ev → Rs Dt) (ρ : Ev) : Ot := bindS (Fp ρ) ρ fun x => bindS (lstOf x.1) ρ fun ds => bindS (varE j ρ) ρ fun q => bindS (lstOf q) ρ fun xs => bindS (Fe ρ) ρ fun k => bindS (popD xs k) ρ fun y =>
  bindS (varE j (x.2 (.lst (ds ++ [y.1])))) ρ fun q2 => bindS (lstOf q2) ρ fun xs2 => bindS (popD xs2 k) ρ fun y2 => if (lenSz ds.length && decide (xs2.length = xs.length)) = true then .nx ((x.2 (.lst (ds ++ [y.1]))).set j (some (.lst y2.2))) else .no
theorem upd_comm {H : Hp} {a l : Addr} {x y : HO} (h : a ≠ l) : upd (upd H a x) l y = upd (upd H l y) a x := by
  funext b
  by_cases h1 : b = a
  · subst h1
    rw [upd_ne h, upd_same, upd_same]
  · by_cases h2 : b = l
    · subst h2
      rw [upd_same, upd_ne h1, upd_same]
    · rw [upd_ne h2, upd_ne h1, upd_ne h1, upd_ne h2]
theorem nx_varE {i : Nat} {c : Xn} : varE i ρ ≠ .ex c := by
  unfold varE
  split <;> intro q <;> cases q
theorem ss_appPop {j : Nat} (h : SemP J Γ Fp (.L .F) te) (hj : Γ[j]? = some (.L .F)) (k : SemE J Γ .B Fe ta) (hx : Gx J Γ) :
    SemS J Γ Γ (appPopS Fp j Fe) (tDrop (tBM J.K "list" rAppend te (tCons (tBM J.K "list" rPopAt (tVar j) (tCons ta tNil)) tNil))) := fun {G0 H0 G H ρ σ D} w p => by
  refine h w ((PostS.bind w hx p).imp (fun x _ q v G1 H1 e1 f1 => ?_) fun _ q => q)
  obtain ⟨xd, xp⟩ := x
  have w1 := w.ext e1
  obtain ⟨ds, hz, p1⟩ := q.bindx (fun _ => nx_lstOf)
  clear q
  have ed : xd = .lst ds := lstOf_ok hz
  subst ed
  obtain ⟨a, us, Pin, rfl, hu, _⟩ := f1.chg w1 (Ext.refl w1.gh)
  refine ⟨.inl ⟨rfl, us, .of hu⟩, ?_⟩
  obtain ⟨qd, hq, p2⟩ := p1.bindx (fun _ => nx_varE)
  clear p1
  obtain ⟨xs, hz2, p3⟩ := p2.bindx (fun _ => nx_lstOf)
  clear p2
  have eq : qd = .lst xs := lstOf_ok hz2
  subst eq
  obtain ⟨vl, ml, Pl, s1, s2, s3, s4⟩ := w1.get (varE_ok hq)
  rw [hj] at s2
  cases s2
  cases s3 with
  | @L _ l xus _ _ k1 k2 k3 k4 =>
  refine ⟨_, s1, .inl ⟨rfl, xus, .of k1⟩, ?_⟩
  refine k w1 ((PostS.bind w1 hx (p3.up e1.g)).imp (fun y _ q y' G2 H2 P2 e2 f2 o2 => ?_) fun _ q => q)
  obtain ⟨⟨z, es⟩, hz3, p4⟩ := PostS.bindx (fun _ => nx_pop) q
  clear q
  have r1 : Rps J.K J.ca G2 xs xus := (k4.frozen).mono e2.g
  have hl2 : H2 l = some (.lst xus) := e2.h _ _ k1
  obtain ⟨i, n, u, rfl, i1, i2, i3, i4, i5, i6⟩ := popD_run hz3 r1 o2
  obtain ⟨a', us', Pin', ea, hu', own, pr, fin⟩ := f1.chg w1 e2
  cases ea
  obtain ⟨q2, hq2, p5⟩ := PostS.bindx (fun _ => nx_varE) p4
  clear p4
  obtain ⟨xs2, hz4, p6⟩ := PostS.bindx (fun _ => nx_lstOf) p5
  clear p5
  have eq2 : q2 = .lst xs2 := lstOf_ok hz4
  subst eq2
  obtain ⟨⟨z2, es2⟩, hz5, p7⟩ := PostS.bindx (fun _ => nx_pop) p6
  clear p6
  have p8 : PostS J G0 H0 G1 Γ D (if (lenSz ds.length && decide (xs2.length = xs.length)) = true then .nx ((xp (.lst (ds ++ [z]))).set j (some (.lst es2))) else .no) := p7
  clear p7
  by_cases c : (lenSz ds.length && decide (xs2.length = xs.length)) = true
  case neg =>
    rw [if_neg c] at p8
    cases p8
  rw [if_pos c] at p8
  rw [Bool.and_eq_true] at c
  have hlen := of_decide_eq_true c.2
  -- the world with the item put first
  have wa : Wd J G0 H0 Γ (xp (.lst (ds ++ [z]))) σ G2 (upd H2 a (.lst (us' ++ [u]))) := fin (ds ++ [z]) (us' ++ [u]) Pno (Rps.own ((own.frozen).append (.cons i5 .nil))) fun b z => z.elim
  obtain ⟨vl2, ml2, Pl2, t1, t2, t3, t4⟩ := wa.get (varE_ok hq2)
  rw [hj] at t2
  cases t2
  rw [s1] at t1
  cases t1
  cases t3 with
  | @L _ _ xus2 _ _ m1 m2 m3 m4 =>
  have ne : a ≠ l := fun e => by
    subst e
    rw [upd_same] at m1
    cases m1
    have z1 := m4.frozen.length
    have z2 := r1.length
    rw [hl2] at hu'
    cases hu'
    rw [List.length_append, List.length_singleton] at z1
    omega
  rw [upd_ne (Ne.symm ne), hl2] at m1
  cases m1
  refine ⟨l, xus, i, n, u, rfl, rfl, hl2, i1, i2, i3, i4, ?_⟩
  refine ⟨a, us', u, rfl, rfl, by rw [upd_ne ne]; exact hu', by rw [← own.len.1]; exact lenSz_lt c.1, ?_⟩
  rw [← upd_comm ne]
  -- and then the other list shortened
  obtain ⟨i', n', u', e1', _, _, e2', _, _, e3'⟩ := popD_run hz5 m4.frozen o2
  cases e1'
  rw [e2'] at i3
  cases i3
  subst e3'
  have hv : varP j (xp (.lst (ds ++ [z]))) = .ok (.lst xs2, fun x => (xp (.lst (ds ++ [z]))).set j (some x)) := by
    unfold varP
    rw [varE_ok hq2]
  have fo : SemP J Γ (varP j) (.L .F) (tVar j) := sp_var hj
  obtain ⟨v3, g1, G3, g2, g3⟩ := fo (Q := fun v H' => ∃ G3, Ext G2 (upd H2 a (.lst (us' ++ [u]))) G3 H' ∧ Foc J H0 Γ σ G3 H' (.L .F) (.lst xs2) v fun x => (xp (.lst (ds ++ [z]))).set j (some x)) wa (by
    rw [hv]
    exact .ok fun v G3 H3 e3 f3 => ⟨G3, e3, f3⟩)
  rw [s1] at g1
  cases g1
  have w3 := wa.ext g2
  obtain ⟨l', us3, Pin3, el, hu3, own3, pr3, fin3⟩ := g3.chg w3 (Ext.refl w3.gh)
  cases el
  rw [upd_ne (Ne.symm ne), hl2] at hu3
  cases hu3
  exact p8.of_nx σ G3 _ (e2.g.trans g2.g) (fin3 (xs2.eraseIdx n) (xus.eraseIdx n) Pno (Rps.own ((own3.frozen).erase n)) fun b z => z.elim)
/-! ### results owned, arguments looked at -/
mutual
def leafOk : Mode → Dt → Bool
  | .F, d => scal d
  | .L _, .non => true
  | .T _, .non => true
  | .L m, .lst ds => leafAll m ds
  | .T ms, .tup ds => leafsOk ms ds
  | .T ms, .lst ds => leafsOk ms ds
  | .K m, .dic _ ds => leafAll m ds
  | .K m, .dit _ ds => leafAll m ds
  | .I ms, .ins _ _ ds => leafsOk ms ds
  | _, _ => false
def leafAll (m : Mode) : List Dt → Bool
  | [] => true
  | d :: ds => leafOk m d && leafAll m ds
def leafsOk : List Mode → List Dt → Bool
  | [], [] => true
  | m :: ms, d :: ds => leafOk m d && leafsOk ms ds
  | _, _ => false
end
mutual
theorem Ow.leaf {K : PySem.W.Frag} {ca : Str → Addr} {G2 G1 H2 : Hp} : ∀ {d : Dt} {m : Mode} {v : V} {P : Addr → Prop}, leafOk m d = true → (∀ b, P b → G1 b = none) → Ow K ca G2 H2 m d v P → Ow K ca G1 H2 m d v P
  | d, m, v, P, c, hp, h => by
    cases h with
    | F h =>
      have c : scal d = true := by simpa only [leafOk] using c
      exact .F (scal_rp c h)
    | NL => exact .NL
    | NT => exact .NT
    | @L m a vs ds _ h1 h2 h3 h4 => exact .L h1 (hp _ h3) h3 (Ows.leafA (by simpa only [leafOk] using c) (fun b hb => hp b hb.1) h4)
    | @T ms a vs ds _ h1 h2 h3 h4 => exact .T h1 (hp _ h3) h3 (Ows.leafs (by simpa only [leafOk] using c) (fun b hb => hp b hb.1) h4)
    | @TL ms a vs ds _ h1 h2 h3 h4 => exact .TL h1 (hp _ h3) h3 (Ows.leafs (by simpa only [leafOk] using c) (fun b hb => hp b hb.1) h4)
    | @I ms C a dx ns vs ds _ h1 h2 h3 h4 h5 => exact .I h1 (hp _ h3) h3 h4 (Ows.leafs (by simpa only [leafOk] using c) (fun b hb => hp b hb.1) h5)
    | @K m a ks vs ds _ h1 h2 h3 h4 h5 => exact .K h1 (hp _ h3) h3 h4 (Ows.leafA (by simpa only [leafOk] using c) (fun b hb => hp b hb.1) h5)
    | @KT m a ks vs ds _ h1 h2 h3 h4 h5 => exact .KT h1 (hp _ h3) h3 h4 (Ows.leafA (by simpa only [leafOk] using c) (fun b hb => hp b hb.1) h5)
  termination_by d => sizeOf d
theorem Ows.leafA {K : PySem.W.Frag} {ca : Str → Addr} {G2 G1 H2 : Hp} {m : Mode} : ∀ {ds : List Dt} {vs : List V} {P : Addr → Prop}, leafAll m ds = true → (∀ b, P b → G1 b = none) → Ows K ca G2 H2 (List.replicate ds.length m) ds vs P → Ows K ca G1 H2 (List.replicate ds.length m) ds vs P
  | [], vs, P, c, hp, h => by
    cases h
    exact .nil
  | d :: ds, vs, P, c, hp, h => by
    have c : leafOk m d = true ∧ leafAll m ds = true := by simpa only [leafAll, Bool.and_eq_true] using c
    rw [List.length_cons, List.replicate_succ] at h ⊢
    cases h with
    | cons h1 h2 q1 q2 q3 => exact .cons (Ow.leaf c.1 (fun b hb => hp b (q1 b hb)) h1) (Ows.leafA c.2 (fun b hb => hp b (q2 b hb)) h2) q1 q2 q3
  termination_by ds => sizeOf ds
theorem Ows.leafs {K : PySem.W.Frag} {ca : Str → Addr} {G2 G1 H2 : Hp} : ∀ {ds : List Dt} {ms : List Mode} {vs : List V} {P : Addr → Prop}, leafsOk ms ds = true → (∀ b, P b → G1 b = none) → Ows K ca G2 H2 ms ds vs P → Ows K ca G1 H2 ms ds vs P
  | [], ms, vs, P, c, hp, h => by
    cases h
    exact .nil
  | d :: ds, ms, vs, P, c, hp, h => by
    cases h with
    | @cons m ms _ _ _ _ _ _ _ h1 h2 q1 q2 q3 =>
      have c : leafOk m d = true ∧ leafsOk ms ds = true := by simpa only [leafsOk, Bool.and_eq_true] using c
      exact .cons (Ow.leaf c.1 (fun b hb => hp b (q1 b hb)) h1) (Ows.leafs c.2 (fun b hb => hp b (q2 b hb)) h2) q1 q2 q3
  termination_by ds => sizeOf ds
end
def leafR (m : Mode) (r : Rs Dt) : Rs Dt := r >>= fun d => if leafOk m d = true then .ok d else .no
def callLE (m : Mode) (Fn : List Dt → Rs Dt) (Fs : List (Ev → Rs Dt)) (ρ : Ev) : Rs Dt := argsE Fs ρ >>= fun ds => leafR m (Fn ds)
variable {Fn : List Dt → Rs Dt} {np : Nat}
theorem leaf_res {K : PySem.W.Frag} {ca : Str → Addr} {G1 G2 H2 H1 : Hp} {P2 : Addr → Prop} {d : Dt} {v : V} (c : leafOk m d = true) (s : Same G1 H1) (e2 : Ext H1 H1 G2 H2) (f2 : Fr G2 H1 H2 P2) (o2 : Ow K ca G2 H2 m d v P2) : Ext G1 H1 G1 H2 ∧ Fr G1 H1 H2 P2 ∧ Ow K ca G1 H2 m d v P2 :=
  ⟨Ext.heap s e2.h, fun b hb => ⟨s.free (f2 b hb).2.1, (f2 b hb).2⟩, o2.leaf c fun b hb => s.free (f2 b hb).2.1⟩
theorem se_callL (h : SemBs J Γ Fs tr) (hl : Fs.length = np := by rfl) : SemE J Γ (.o m) (callLE m Fn Fs) (tCallS (spM J.K J.ca np m Fn) (WE J.W) tr) := fun {G0 H0 G H ρ σ Q} w p => by
  refine h w (p.bind.imp (fun ds hd q us G1 H1 e1 r => ?_) fun _ q => q)
  refine ⟨by rw [← r.length, argsE_len hd]; exact hl, H1, ds, Same.refl _, r, (Rs.Post.bind q).imp (fun d _ q v G2 H2 P2 e2 f2 o2 => ?_) fun c q dx H2 s => q H2 dx (e1.h.trans s)⟩
  by_cases c : leafOk m d = true
  case neg =>
    rw [if_neg c] at q
    cases q
  rw [if_pos c] at q
  obtain ⟨x1, x2, x3⟩ := leaf_res c e1.gh e2 f2 o2
  exact q.of_ok v G1 H2 P2 (e1.trans x1) (fun b hb => ⟨(x2 b hb).1, e1.h.free (x2 b hb).2.1, (x2 b hb).2.2⟩) x3
def methLE (m : Mode) (C mm : Str) (Fn : List Dt → Rs Dt) (Fo : Ev → Rs Dt) (Fs : List (Ev → Rs Dt)) (ρ : Ev) : Rs Dt := Fo ρ >>= fun s => noMeth C mm s >>= fun _ => argsE Fs ρ >>= fun ds => leafR m (Fn (s :: ds))
theorem se_methL {C mm : Str} (ho : SemE J Γ .B Fa ta) (h : SemBs J Γ Fs tr) (hl : Fs.length + 1 = np := by rfl) : SemE J Γ (.o m) (methLE m C mm Fn Fa Fs) (tMethS (J.ca C) mm (spM J.K J.ca np m Fn) (WE J.W) ta tr) := fun {G0 H0 G H ρ σ Q} w p => by
  refine ho w (p.bind.imp (fun s _ q v G1 H1 _ e1 _ o1 => ?_) fun _ q => q)
  cases z : noMeth C mm s with
  | ex c => exact absurd z nx_noMeth
  | no => rw [z] at q; cases q
  | ok s' =>
    rw [z] at q
    obtain ⟨a, dx, fs, rfl, h1, h2⟩ := noMeth_run o1 z
    refine ⟨a, dx, fs, rfl, h1, h2, h (w.ext e1) ((Rs.Post.bind (r := argsE Fs ρ) q).imp (fun ds hd q us G2 H2 e2 r => ?_) fun _ q H' dx s => q H' dx (e1.h.trans s))⟩
    have e := e1.trans e2
    refine ⟨by rw [List.length_cons, ← r.length, argsE_len hd]; exact hl, H2, s :: ds, Same.refl _, .cons (Rp.mono e2.h o1) r, (Rs.Post.bind q).imp (fun d _ q v G3 H3 P3 e3 f3 o3 => ?_) fun c q dx H2 s => q H2 dx (e.h.trans s)⟩
    by_cases c : leafOk m d = true
    case neg =>
      rw [if_neg c] at q
      cases q
    rw [if_pos c] at q
    obtain ⟨x1, x2, x3⟩ := leaf_res c e.gh e3 f3 o3
    exact q.of_ok v G2 H3 P3 (e.trans x1) (fun b hb => ⟨(x2 b hb).1, e.h.free (x2 b hb).2.1, (x2 b hb).2.2⟩) x3
/-! ### isinstance(e, (A, B, ..)) of the caught exception -/
def clsA : List V → TA
  | [] => tNil
  | v :: vs => tCons (tC v) (clsA vs)
theorem clsA_run : ∀ {vs : List V} {Q : List V → Hp → Prop}, Q vs H → clsA vs σ H Q
  | [], _, h => h
  | v :: vs, Q, h => clsA_run (vs := vs) (Q := fun xs H2 => Q (v :: xs) H2) h
def rIsET (K : PySem.W.Frag) (D a : Addr) : List V → Hp → VK → Prop := fun xs H Q => ∃ (tp : Addr) (cs : List V) (us : List Value) (b : Bool), xs = [.ref a, .ref tp] ∧ H tp = some (.tup cs) ∧ Paired ClsV cs us ∧ PySem.W.kitAny K (.ref D) us = some b ∧ Q (.bl b) H
theorem call_isET {X : Cx} {a D : Addr} {oe : Obj} {pn : List (Addr × Obj)} (C : ExcC X.K D) (hz : Zc (.ref D) none oe) (hf : ∃ vs, oe.data = .fields vs) : CallR (X.suite a ((a, oe) :: pn)) (.builtin "isinstance") (rIsET X.K D a) := by
  intro pins s σ H xs us Q I r h
  obtain ⟨tp, cs, ws, b, rfl, hT, k, e, q⟩ := h
  cases r with
  | cons rx rr =>
    cases rr with
    | cons rt rr =>
      cases rr
      cases rx
      rename_i u2
      cases (show u2 = Value.ref tp from rt)
      obtain ⟨hget, _⟩ := I.pin (a, oe) (List.mem_append.mpr (.inl List.mem_cons_self))
      obtain ⟨vs, hv⟩ := hf
      have J : PySem.W.InstAt s.heap a oe D none := by
        obtain ⟨oc, od, oda, osl⟩ := oe
        obtain ⟨h1, h2⟩ := hz
        dsimp only at h1 h2 hv
        subst h1 h2 hv
        exact ⟨hget, rfl, rfl, trivial⟩
      obtain ⟨_, its, rv, o, h1, h2, n, h3⟩ := (show ObjOk X.prog X.w H s.heap tp (.tup cs) from I.hok tp _ hT)
      have e3 := ClsV.all k rv
      subst e3
      obtain ⟨oc, od, dt, sl⟩ := o
      simp only at h2 h3
      subst h2 h3
      exact PySem.W.kia_tup (PySem.W.handS_kitx_exc C.hg C.hk C.hs C.hd C.ha C.hn C.ht C.hm) I.kIn J h1 e (fun z => nomatch z) fun tk => ⟨.bl b, H, I.kept (t' := tk) fun _ _ z => z, rfl, q⟩
def isxTE (tabs : List (List (Str × Bool))) (c : Str) (_ : Ev) : Rs Dt := match tabs.mapM fun t => t.lookup c with
  | some bs => .ok (.bl (bs.any id))
  | none => .no
/-- classes, their values, what they are to whom -/
inductive IsxT (K : PySem.W.Frag) (ca : Str → Addr) : List V → List Value → List (List (Str × Bool)) → Prop
  | nil : IsxT K ca [] [] []
  | cons {v : V} {cv : Value} {tab : List (Str × Bool)} {vs : List V} {us : List Value} {ts : List (List (Str × Bool))} : ClsV v cv → Isx K ca cv tab → IsxT K ca vs us ts → IsxT K ca (v :: vs) (cv :: us) (tab :: ts)
theorem IsxT.paired {K : PySem.W.Frag} {ca : Str → Addr} : ∀ {vs : List V} {us : List Value} {ts : List (List (Str × Bool))}, IsxT K ca vs us ts → Paired ClsV vs us
  | _, _, _, .nil => .nil
  | _, _, _, .cons h _ t => .cons h t.paired
theorem IsxT.any {K : PySem.W.Frag} {ca : Str → Addr} {c : Str} : ∀ {vs : List V} {us : List Value} {ts : List (List (Str × Bool))} {bs : List Bool}, IsxT K ca vs us ts → (ts.mapM fun t => t.lookup c) = some bs → PySem.W.kitAny K (.ref (ca c)) us = some (bs.any id)
  | _, _, _, bs, .nil, e => by
    have e : some ([] : List Bool) = some bs := e
    cases e
    rfl
  | _, _, _, bs, .cons (tab := tab) (ts := ts) h k t, e => by
    rw [List.mapM_cons] at e
    cases z : tab.lookup c with
    | none => rw [z] at e; cases e
    | some b =>
      rw [z] at e
      cases z2 : (ts.mapM fun t => t.lookup c) with
      | none => rw [z2] at e; cases e
      | some cs =>
        rw [z2] at e
        have e : some (b :: cs) = some bs := e
        cases e
        refine kitAny_cons (k c b z) (fun hb => ?_) fun hb => ?_
        · rw [IsxT.any t z2, hb]; rfl
        · rw [hb]; rfl
theorem se_isxT {i : Nat} {a : Addr} {c : Str} {vs : List V} {us : List Value} {tabs : List (List (Str × Bool))} (hp : (i, V.ref a) ∈ J.pin) (ht : IsxT J.K J.ca vs us tabs) (hl : vs.length ≤ 1000000 := by exact Nat.le_of_ble_eq_true rfl) : SemE J Γ (.o .F) (isxTE tabs c) (tCB (rIsET J.K (J.ca c) a) (tCons (tVar i) (tCons (tTup (clsA vs)) tNil))) := fun {G0 H0 G H ρ σ Q} w p => by
  unfold isxTE at p
  cases z : (tabs.mapM fun t => t.lookup c) with
  | none => rw [z] at p; cases p
  | some bs =>
    rw [z] at p
    refine ⟨_, w.pn i _ hp, ?_⟩
    refine clsA_run ⟨sz1000000 hl, fun tp htp => ?_⟩
    refine ⟨tp, vs, us, _, rfl, upd_same, ht.paired, ht.any z, ?_⟩
    exact p.of_ok (.bl (bs.any id)) G _ Pno (Ext.heap w.gh (Same.new htp)) Fr.no (.F (.bl _))
/-! ### x is True, False -/
def isBD (c : Bool) : Dt → Rs Dt
  | .bl b => .ok (.bl (decide (b = c)))
  | _ => .no
def isBE (c : Bool) := op1E (isBD c)
theorem se_isB {c : Bool} (ha : SemE J Γ .B Fa ta) : SemE J Γ (.o .F) (isBE c Fa) (tOp rIsB ta (tC (.bl c))) := fun {G0 H0 G H ρ σ Q} w p => by
  refine ha w (p.bind.imp (fun a _ p1 x G1 H1 _ e1 _ ra => ?_) fun _ q => q)
  cases ra with
  | bl b => exact ⟨b, c, rfl, rfl, Rs.Post.of_ok p1 (.bl (decide (b = c))) G1 H1 Pno e1 Fr.no (.F (.bl _))⟩
  | _ => cases p1
end
/-! the facts of a class whose instances are asked -/
def insCB (K : PySem.W.Frag) (x : Str) : Bool :=
  He.eqO (PySem.W.findIn K (.ref (He.ga K x)) "__class__") (some (some (.builtin "object.__class__"))) && (He.eqO (PySem.W.specialIn K (.builtin "object.__class__") "__get__") (some (some (.builtin "getset_descriptor.__get__"))) &&
  (decide (PySem.W.takesIn K (.builtin "object.__class__") = some true) && (decide (PySem.W.mroIn K (He.ga K x) (.type "object") = some true) && decide (PySem.W.kitOne K (.ref (He.ga K x)) (.ref (He.ga K x)) = some true))))
theorem insCB_ok {K : PySem.W.Frag} {x : Str} (c : Cls K (He.ga K x)) (h : insCB K x = true) : InsC K (He.ga K x) := by
  unfold insCB at h
  obtain ⟨h1, h⟩ := He.ba h
  obtain ⟨h2, h⟩ := He.ba h
  obtain ⟨h3, h⟩ := He.ba h
  obtain ⟨h4, h5⟩ := He.ba h
  exact ⟨c, He.eqO_ok h1, He.eqO_ok h2, of_decide_eq_true h3, of_decide_eq_true h4, of_decide_eq_true h5⟩
end Pm
/-! ### sorted of pairs of tuples of ints -/
namespace SrtO
open PySem PyProof.Rows Srt L2
theorem lexLt_irr : ∀ xs : List Int, HT.lexLt xs xs = false
  | [] => rfl
  | x :: xs => by rw [HT.lexLt_cons, if_pos rfl]; exact lexLt_irr xs
theorem lexLt_asym : ∀ xs ys : List Int, HT.lexLt xs ys = true → HT.lexLt ys xs = false
  | [], [], _ => rfl
  | [], _ :: _, _ => rfl
  | _ :: _, [], h => by cases h
  | x :: xs, y :: ys, h => by
    rw [HT.lexLt_cons] at h ⊢
    by_cases e : x = y
    · rw [if_pos e] at h
      rw [if_pos e.symm]
      exact lexLt_asym xs ys h
    · rw [if_neg e] at h
      rw [if_neg fun z => e z.symm]
      have := of_decide_eq_true h
      exact decide_eq_false (by omega)
theorem lexLt_tri : ∀ xs ys : List Int, HT.lexLt xs ys = false → HT.lexLt ys xs = false → xs = ys
  | [], [], _, _ => rfl
  | [], _ :: _, h, _ => by cases h
  | _ :: _, [], _, h => by cases h
  | x :: xs, y :: ys, h, k => by
    rw [HT.lexLt_cons] at h k
    by_cases e : x = y
    · rw [if_pos e] at h
      rw [if_pos e.symm] at k
      rw [e, lexLt_tri xs ys h k]
    · rw [if_neg e] at h
      rw [if_neg fun z => e z.symm] at k
      have := of_decide_eq_false h
      have := of_decide_eq_false k
      omega
theorem lexLt_trans : ∀ xs ys zs : List Int, HT.lexLt xs ys = true → HT.lexLt ys zs = true → HT.lexLt xs zs = true
  | [], [], _, h, _ => by cases h
  | [], _ :: _, [], _, h => by cases h
  | [], _ :: _, _ :: _, _, _ => rfl
  | _ :: _, [], _, h, _ => by cases h
  | _ :: _, _ :: _, [], _, h => by cases h
  | x :: xs, y :: ys, z :: zs, h, k => by
    rw [HT.lexLt_cons] at h k ⊢
    by_cases e : x = y
    · rw [if_pos e] at h
      subst e
      by_cases e2 : x = z
      · rw [if_pos e2] at k ⊢
        exact lexLt_trans xs ys zs h k
      · rw [if_neg e2] at k ⊢
        exact k
    · rw [if_neg e] at h
      have h := of_decide_eq_true h
      by_cases e2 : y = z
      · subst e2
        rw [if_neg e]
        exact decide_eq_true h
      · rw [if_neg e2] at k
        have k := of_decide_eq_true k
        rw [if_neg (by omega)]
        exact decide_eq_true (by omega)
/-- x before y: by the first tuples, then by the second ones -/
def lexN (p q : List Int × List Int) : Bool := if p.1 = q.1 then HT.lexLt p.2 q.2 else HT.lexLt p.1 q.1
theorem lexN_asym (p q : List Int × List Int) (h : lexN p q = true) : lexN q p = false := by
  unfold lexN at h ⊢
  by_cases e : p.1 = q.1
  · rw [if_pos e] at h
    rw [if_pos e.symm]
    exact lexLt_asym _ _ h
  · rw [if_neg e] at h
    rw [if_neg fun z => e z.symm]
    exact lexLt_asym _ _ h
theorem lexN_tri (p q : List Int × List Int) (h : lexN p q = false) (k : lexN q p = false) : p = q := by
  unfold lexN at h k
  by_cases e : p.1 = q.1
  · rw [if_pos e] at h
    rw [if_pos e.symm] at k
    exact Prod.ext e (lexLt_tri _ _ h k)
  · rw [if_neg e] at h
    rw [if_neg fun z => e z.symm] at k
    exact absurd (lexLt_tri _ _ h k) e
theorem lexN_trans (p q r : List Int × List Int) (h : lexN p q = true) (k : lexN q r = true) : lexN p r = true := by
  unfold lexN at h k ⊢
  by_cases e : p.1 = q.1
  · rw [if_pos e] at h
    by_cases e2 : q.1 = r.1
    · rw [if_pos e2] at k
      rw [if_pos (e.trans e2)]
      exact lexLt_trans _ _ _ h k
    · rw [if_neg e2] at k
      rw [if_neg fun z => e2 (e.symm.trans z), e]
      exact k
  · rw [if_neg e] at h
    by_cases e2 : q.1 = r.1
    · rw [if_neg fun z => e (z.trans e2.symm), ← e2]
      exact h
    · rw [if_neg e2] at k
      have t := lexLt_trans _ _ _ h k
      rw [if_neg fun z => by rw [z, lexLt_irr] at t; cases t]
      exact t
theorem swo_nest {α : Type} (k : α → List Int × List Int) : Swo fun v u => lexN (k v) (k u) := by
  refine ⟨fun x y h => lexN_asym _ _ h, fun x y z h1 h2 => ?_⟩
  rcases bcase (lexN (k z) (k x)) with q | q
  · exfalso
    rcases bcase (lexN (k x) (k y)) with p | p
    · have := lexN_trans _ _ _ q p
      rw [h2] at this
      cases this
    · have e := lexN_tri _ _ h1 p
      rw [← e] at q
      rw [q] at h2
      cases h2
  · exact q
def IsNest (h : Heap) (v : Value) (k : List Int × List Int) : Prop := ∃ a o fa wa n fi wi, v = Value.ref a ∧ h.get? a = some o ∧ o.cls = .type "tuple" ∧ o.data = .seq #[.ref fa, .ref wa] n ∧ IsTup h fa fi ∧ IntsAre fi.toList k.1 ∧ IsTup h wa wi ∧ IntsAre wi.toList k.2
theorem IsNest.keeps {h h' : Heap} {v : Value} {k : List Int × List Int} (p : IsNest h v k) (kp : ∀ b o, h.get? b = some o → o.cls = .type "tuple" → h'.get? b = some o) : IsNest h' v k := by
  obtain ⟨a, o, fa, wa, n, fi, wi, e, ho, hc, hd, ⟨o1, h1, c1, d1⟩, i1, ⟨o2, h2, c2, d2⟩, i2⟩ := p
  exact ⟨a, o, fa, wa, n, fi, wi, e, kp _ _ ho hc, hc, hd, ⟨o1, kp _ _ h1 c1, c1, d1⟩, i1, ⟨o2, kp _ _ h2 c2, c2, d2⟩, i2⟩
theorem reads_ints {h : Heap} : ∀ {vs : List Value} {ns : List Int}, IntsAre vs ns → ReadsAll h vs (ns.map PyData.int) []
  | _, _, .nil => .nil
  | _, _, .cons n t r => .cons (as := []) (bs := []) (.int n t) (reads_ints r)
theorem eqvAll_ints : ∀ ns ms : List Int, PyData.eqvAll (ns.map PyData.int) (ms.map PyData.int) = decide (ns = ms)
  | [], [] => rfl
  | [], _ :: _ => by simp [PyData.eqvAll]
  | _ :: _, [] => by simp [PyData.eqvAll]
  | n :: ns, m :: ms => by
    rw [List.map_cons, List.map_cons, PyData.eqvAll, eqvAll_ints ns ms]
    show ((n == m) && decide (ns = ms)) = _
    by_cases e : n = m
    · subst e; simp
    · simp [e]
theorem lay_ints : ∀ ns : List Int, PyData.canLayAll0 (ns.map PyData.int) = true ∧ PyData.depthAll (ns.map PyData.int) = 0
  | [] => ⟨rfl, rfl⟩
  | n :: ns => by
    obtain ⟨a, b⟩ := lay_ints ns
    refine ⟨?_, ?_⟩
    · rw [List.map_cons, PyData.canLayAll0, a]; rfl
    · rw [List.map_cons, PyData.depthAll, b]; rfl
section
variable {prog : Program} {w : World} {A : Around} {E : Value → Shared → Prop} {s : Shared}
theorem eqAt_tups {l b : Addr} {fi gi : Array Value} {ns ms : List Int} (hl : IsTup s.heap l fi) (hb : IsTup s.heap b gi) (h1 : IntsAre fi.toList ns) (h2 : IntsAre gi.toList ms) (hu : A.units + 1 < cLine) : SeqAt.EqAt A s (.ref l) (.ref b) (decide (ns = ms)) := by
  obtain ⟨o, ho, hc, n, hd⟩ := hl
  obtain ⟨o2, ho2, hc2, n2, hd2⟩ := hb
  have := SeqAt.eqAt_reads (.tuple (ns.map PyData.int)) (.tuple (ms.map PyData.int)) A s (.ref l) (.ref b) [] [] (.tuple ho hc hd (reads_ints h1)) (.tuple ho2 hc2 hd2 (reads_ints h2)) (lay_ints ns).1 (lay_ints ms).1 (by
    show A.units + min (PyData.depthAll _ + 1) (PyData.depthAll _ + 1) < cLine
    rw [(lay_ints ns).2, (lay_ints ms).2]
    exact hu)
  rw [show PyData.eqv (.tuple (ns.map PyData.int)) (.tuple (ms.map PyData.int)) = decide (ns = ms) from eqvAll_ints ns ms] at this
  exact this
theorem nest_cmp {vs : List Value} {k : Value → List Int × List Int} (hu : A.units + 1 < cLine) (hp : ∀ v ∈ vs, IsNest s.heap v (k v)) : Cmp prog w A s (tuples' false) (fun p => p.1 ∈ vs) (lt2 fun v u => lexN (k v) (k u)) := by
  intro p q hm hm'
  have h1 := hp _ hm
  have h2 := hp _ hm'
  show wpAny (model prog w) A (keyLt' (tuples' false) p.1 q.1) (fun r s' => s' = s ∧ r = lexN (k p.1) (k q.1)) (fun _ _ => False) s
  generalize k p.1 = x at h1 ⊢
  generalize k q.1 = y at h2 ⊢
  obtain ⟨a, o, fa, wa, n, fi, wi, e, ho, hc, hd, t1, i1, t2, i2⟩ := h1
  obtain ⟨a', o', fa', wa', n', fi', wi', e', ho', hc', hd', t1', i1', t2', i2'⟩ := h2
  rw [e, e']
  refine PySem.W.kat_lt ho hd ho' hd' ?_
  show PySem.W.KatLex prog w A false (decide (2 < 2)) _ [(.ref fa, .ref fa'), (.ref wa, .ref wa')] 0 s
  refine PySem.W.kat_cons (eqAt_tups t1 t1' i1 i1' hu prog w _ _ ?_)
  refine PySem.W.kat_go (fun e1 => ?_) (fun e1 => ?_)
  · have ex : x.1 = y.1 := by simpa using e1
    refine PySem.W.kat_yes (PySem.W.kat_cons (eqAt_tups t2 t2' i2 i2' hu prog w _ _ ?_))
    refine PySem.W.kat_go (fun e2 => ?_) (fun e2 => ?_)
    · have ey : x.2 = y.2 := by simpa using e2
      have e3 : lexN x y = false := by
        unfold lexN
        rw [if_pos ex, ey]
        exact lexLt_irr _
      exact PySem.W.kat_yes (PySem.W.kat_nil ⟨rfl, e3.symm⟩)
    · have e3 : lexN x y = HT.lexLt x.2 y.2 := by unfold lexN; rw [if_pos ex]
      refine PySem.W.kat_no (PySem.W.kat_one _ _ (HT.lt_tupInts t2 t2' i2 i2' (by omega) ?_))
      exact (show s = s ∧ HT.lexLt x.2 y.2 = lexN x y from ⟨rfl, e3.symm⟩)
  · have ex : ¬ x.1 = y.1 := by simpa using e1
    have e3 : lexN x y = HT.lexLt x.1 y.1 := by unfold lexN; rw [if_neg ex]
    refine PySem.W.kat_no (PySem.W.kat_one _ _ (HT.lt_tupInts t1 t1' i1 i1' (by omega) ?_))
    exact (show s = s ∧ HT.lexLt x.1 y.1 = lexN x y from ⟨rfl, e3.symm⟩)
theorem firstsN {h : Heap} {k : Value → List Int × List Int} : ∀ {vs : List Value}, (∀ v ∈ vs, IsNest h v (k v)) → ∃ fs : List Value, PySem.W.KatTups h vs fs ∧ fs.length = vs.length ∧ ∀ f ∈ fs, ∃ a fi, f = .ref a ∧ IsTup h a fi
  | [], _ => ⟨[], .nil, rfl, fun f hf => by cases hf⟩
  | v :: vs, hp => by
    obtain ⟨fs, h1, h2, h3⟩ := firstsN (vs := vs) fun u hu => hp u (List.mem_cons_of_mem _ hu)
    obtain ⟨a, o, fa, wa, n, fi, wi, e, ho, hc, hd, t1, _⟩ := hp v List.mem_cons_self
    subst e
    refine ⟨.ref fa :: fs, .cons ho hc hd (by rfl) h1, by rw [List.length_cons, List.length_cons, h2], fun f hf => ?_⟩
    rcases List.mem_cons.mp hf with rfl | hf
    · exact ⟨fa, fi, rfl, t1⟩
    · exact h3 f hf
theorem nests_sortableO {a : Addr} {vs : List Value} {k : Value → List Int × List Int} (hu : A.units + 1 < cLine) (h0 : 0 < vs.length) (hp : ∀ v ∈ vs, IsNest s.heap v (k v)) (ha : ∀ o, s.heap.get? a = some o → o.cls ≠ .type "tuple") : SortableO prog w A s a vs fun v u => lexN (k v) (k u) := by
  intro h' keep
  have hp' : ∀ v ∈ vs, IsNest h' v (k v) := fun v hm => (hp v hm).keeps fun b o e c => keep b o (fun z => by subst z; exact ha o e c) e
  obtain ⟨fs, h1, h2, h3⟩ := firstsN hp'
  refine ⟨tuples' false, fun Q E hq => ?_, nest_cmp hu hp'⟩
  refine PySem.W.kat_kind (T := .type "tuple") h1 (by omega) (fun f hm => ?_) (by rfl) ?_
  · obtain ⟨x, fi, rfl, o, ho, hc, _⟩ := h3 f hm
    intro A2 Q2 E2 s2 kk q
    exact wpAny_typeOf (T := "tuple") ⟨o, kk _ _ ho, hc⟩ q
  · have e : (Value.type "tuple" != Value.type "tuple") = false := by first | decide +kernel | rfl | decide
    rw [e]
    exact hq
theorem sorted_nestO {l : Addr} {vs : List Value} {k : Value → List Int × List Int} {Q : Value → Shared → Prop} (hu : A.units + 3 < cLine) (hl : s.heap.IsList l vs.toArray) (hz : vs.length ≤ sizeLine) (hp : ∀ v ∈ vs, IsNest s.heap v (k v))
    (h : ∀ (h' : Heap) (d : Addr) (out : List Value), Srtd (fun v u => lexN (k v) (k u)) out → Stb (fun v u => lexN (k v) (k u)) out vs → (∀ b o, s.heap.get? b = some o → h'.get? b = some o) → s.heap.objs.size ≤ d → (∃ n, h'.get? d = some (seqObj "list" out.toArray n)) → Q (.ref d) { s with heap := h' }) :
    wpAny (model prog w) A (call (.builtin "sorted") [.ref l]) Q E s := by
  refine sorted_ord (swo_nest k) hl hz (fun h2 h₁ a ha kk => ?_) fun out hs hb => ?_
  · refine nests_sortableO (s := { s with heap := h₁ }) (by show A.units + 1 + 1 + 1 < cLine; omega) (by omega) (fun v hm => (hp v hm).keeps fun b o e _ => (kk b o e).2) fun o e => ?_
    have e' : some o = some (seqObj "list" vs.toArray 0) := e.symm.trans ha
    cases e'
    intro c
    exact absurd (Value.type.inj c) (by decide)
  · exact h _ _ out hs hb (fun b o e => sortedAll_old e) (Nat.le_succ _) (sortedAll_at s.heap vs out.toArray)
end
end SrtO
namespace L2
open PySem PySem.Spec PyProof.Rows
abbrev ltN (k : V → List Int × List Int) (x y : V) : Bool := SrtO.lexN (k x) (k y)
/-- sorted(xs), xs a list of pairs of tuples of ints -/
def rSortedN (K : PySem.W.Frag) : List V → Hp → VK → Prop := fun vs H Q => ∃ (a : Addr) (xs : List V) (k : V → List Int × List Int), vs = [V.ref a] ∧ SqL K H a xs ∧ (∀ x ∈ xs, ∃ t f u, x = V.ref t ∧ H t = some (.tup [.ref f, .ref u]) ∧ H f = some (.tup ((k x).1.map V.int)) ∧ H u = some (.tup ((k x).2.map V.int))) ∧
  ∀ ys p, SrtO.Srtd (ltN k) ys → SrtO.Stb (ltN k) ys xs → H p = none → Q (.ref p) (upd H p (.lst ys))
section
variable {X : Cx}
theorem tupI_of {pins : List (Addr × Obj)} {σ : St} {H : Hp} {s : Shared} (I : Inv X pins σ H s) {f : Addr} {ns : List Int} (h : H f = some (.tup (ns.map V.int))) : ∃ fi, IsTup s.heap f fi ∧ IntsAre fi.toList ns := by
  obtain ⟨its, r1, p1, _⟩ := I.tuple (.of h)
  exact ⟨its.toArray, p1, intsAre_of r1⟩
theorem cr_sortedN (hu : X.A.units + 3 < cLine) : CallR X (.builtin "sorted") (rSortedN X.K) := by
  intro pins s σ H vs us Q I r h
  obtain ⟨a, xs, k, rfl, hs, hx, q⟩ := h
  obtain ⟨its, rv, hl, hz⟩ := I.list hs
  obtain ⟨u, rfl, ru⟩ := vals1 r
  obtain rfl : u = Value.ref a := ru
  obtain ⟨e1, e2⟩ := refs_back rv fun x m => by
    obtain ⟨t, _, _, e, _⟩ := hx x m
    exact ⟨t, e⟩
  refine SrtO.sorted_nestO (k := fun u => k (backV u)) hu hl.isList (by rw [← rv.length]; exact hz) (fun v hv => ?_) fun h' d out h1 h2 kp hd hn => ?_
  · obtain ⟨t, rfl⟩ := e2 v hv
    have hm : V.ref t ∈ xs := by rw [e1]; exact List.mem_map.mpr ⟨_, hv, rfl⟩
    obtain ⟨t', f, w, e, ht, hf, hw⟩ := hx _ hm
    cases e
    obtain ⟨_, its2, r2, o, ho, hc, n, hd⟩ := I.hok _ _ ht
    obtain ⟨u1, u2, rfl, ri, rj⟩ := vals2 r2
    cases ri
    cases rj
    obtain ⟨fi, t1, i1⟩ := tupI_of I hf
    obtain ⟨wi, t2, i2⟩ := tupI_of I hw
    exact ⟨t, o, f, w, n, fi, wi, rfl, ho, hc, hd, t1, i1, t2, i2⟩
  · have h3 : ∀ u ∈ out, ∃ a, u = Value.ref a := fun u hu => e2 u (h2.perm.mem_iff.mp hu)
    obtain ⟨n, hn⟩ := hn
    have hb : SrtO.Stb (ltN k) (out.map backV) xs := by
      rw [e1]
      exact SrtO.Stb.map (SrtO.swo_nest k) backV h2
    refine ⟨.ref d, upd H d (.lst (out.map backV)), I.laid (t' := s.toks) kp hd ⟨?_, out, n, vals_back h3, hn⟩, rfl, q _ d (SrtO.srtd_map h1) hb (I.hok.fresh hd)⟩
    rw [hb.len]
    exact hz
theorem lexAt_gt (ns ms : List Int) : ∀ (k i : Nat), k = min ns.length ms.length - i → i ≤ min ns.length ms.length → Ob.lexAt (fun j => decide (ns.getD j 0 = ms.getD j 0)) (fun j => decide (ms.getD j 0 < ns.getD j 0)) (decide (ns.length > ms.length)) i k = HT.lexLt (ms.drop i) (ns.drop i)
  | 0, i, hk, hi => by
    rw [Ob.lexAt_zero]
    rcases Nat.lt_or_ge i ns.length with h1 | h1
    · rw [List.drop_of_length_le (l := ms) (by omega), List.drop_eq_getElem_cons h1, HT.lexLt_nil_cons]
      exact decide_eq_true (by omega)
    · rw [List.drop_of_length_le (l := ns) h1]
      rcases Nat.lt_or_ge i ms.length with h2 | h2
      · rw [List.drop_eq_getElem_cons h2, HT.lexLt_cons_nil]
        exact decide_eq_false (by omega)
      · rw [List.drop_of_length_le (l := ms) h2, HT.lexLt_nil_nil]
        exact decide_eq_false (by omega)
  | k + 1, i, hk, hi => by
    have h1 : i < ns.length := by omega
    have h2 : i < ms.length := by omega
    rw [Ob.lexAt_succ, List.drop_eq_getElem_cons h1, List.drop_eq_getElem_cons h2, HT.lexLt_cons, lexAt_gt ns ms k (i + 1) (by omega) (by omega)]
    have e1 : ns.getD i 0 = ns[i] := by rw [List.getD, List.getElem?_eq_getElem h1]; rfl
    have e2 : ms.getD i 0 = ms[i] := by rw [List.getD, List.getElem?_eq_getElem h2]; rfl
    rw [e1, e2]
    by_cases q : ns[i] = ms[i]
    · rw [if_pos (decide_eq_true q), if_pos q.symm]
    · rw [if_neg (by simpa using q), if_neg fun z => q z.symm]
def rGtT (K : PySem.W.Frag) : R2 := fun x y H Q => ∃ a b ns ms, y = .ref a ∧ x = .ref b ∧ SqT K H a (ns.map V.int) ∧ SqT K H b (ms.map V.int) ∧ Q (.bl (HT.lexLt ns ms)) H
theorem op_gtT (hu : X.A.units < cLine) : OpR X (compareOp .Gt) (rGtT X.K) := by
  intro pins s σ H x y v u Q I rx ry h
  obtain ⟨b, a, ms, ns, rfl, rfl, hb, ha, q⟩ := h
  cases rx
  cases ry
  obtain ⟨its, r1, p1, _⟩ := I.tuple ha
  obtain ⟨its2, r2, p2, _⟩ := I.tuple hb
  have i1 : IntsAre its ns := Vals.ints r1
  have i2 : IntsAre its2 ms := Vals.ints r2
  have e1 : its.toArray.size = ns.length := by rw [List.size_toArray]; exact i1.length
  have e2 : its2.toArray.size = ms.length := by rw [List.size_toArray]; exact i2.length
  have at1 : ∀ j (h1 : j < its.toArray.size), ∃ t, its.toArray[j] = .int (ns.getD j 0) t := fun j h1 => PyProof.Rows.IntsAre.int_at i1 _ _ (by simp at h1; simp [h1])
  have at2 : ∀ j (h1 : j < its2.toArray.size), ∃ t, its2.toArray[j] = .int (ms.getD j 0) t := fun j h1 => PyProof.Rows.IntsAre.int_at i2 _ _ (by simp at h1; simp [h1])
  have R := Ob.RcOp.tuples_gt (A := X.A) (s := s) (e := fun j => decide (ns.getD j 0 = ms.getD j 0)) (r := fun j => decide (ms.getD j 0 < ns.getD j 0)) p1 p2 hu (fun j h1 h2 => by
    obtain ⟨t, et⟩ := at1 j h1
    obtain ⟨t', et'⟩ := at2 j h2
    rw [et, et']
    have z : (ns.getD j 0 == ms.getD j 0) = decide (ns.getD j 0 = ms.getD j 0) := by
      by_cases q : ns.getD j 0 = ms.getD j 0
      · rw [decide_eq_true q]; exact beq_iff_eq.mpr q
      · rw [decide_eq_false q]; exact beq_eq_false_iff_ne.mpr q
    rw [← z]
    exact SeqAt.EqAt.int_int _ _ _ _) (fun j h1 h2 _ => by
    obtain ⟨t, et⟩ := at1 j h1
    obtain ⟨t', et'⟩ := at2 j h2
    rw [et, et']
    exact Ob.RcOp.gt_int _ _ _ _)
  rw [e1, e2, lexAt_gt ns ms (min ns.length ms.length) 0 (by omega) (Nat.zero_le _)] at R
  have z : wpAny (model X.prog X.w) X.A (compareOp .Gt (.ref a) (.ref b)) (EP X pins σ Q) X.xe s := R X.prog X.w X.xe (EP X pins σ Q) ⟨.bl _, H, I, rfl, q⟩
  exact z
end
end L2
namespace Pm
open PySem PySem.Spec PyProof.Rows L2
open Classical
abbrev Nst := List Int × List Int
def leN (p q : Nst) : Bool := !SrtO.lexN q p
def sortN (ps : List Nst) : List Nst := ps.mergeSort leN
theorem leN_trans (a b c : Nst) (h1 : leN a b = true) (h2 : leN b c = true) : leN a c = true := by
  unfold leN at *
  have O := SrtO.swo_nest (α := Nst) id
  have := O.tr a b c (by simpa using h1) (by simpa using h2)
  simpa using this
theorem leN_total (a b : Nst) : (leN a b || leN b a) = true := by
  unfold leN
  rcases SrtO.bcase (SrtO.lexN b a) with h | h
  · rw [h, SrtO.lexN_asym _ _ h]; rfl
  · rw [h]; rfl
theorem leN_anti {a b : Nst} (h1 : leN a b = true) (h2 : leN b a = true) : a = b := by
  unfold leN at *
  exact SrtO.lexN_tri a b (by simpa using h2) (by simpa using h1)
theorem sortN_perm (ps : List Nst) : (sortN ps).Perm ps := List.mergeSort_perm _ _
theorem sortN_le (ps : List Nst) : (sortN ps).Pairwise fun p q => leN p q = true := List.pairwise_mergeSort leN_trans leN_total ps
theorem sortN_uniq {ps qs : List Nst} (hp : qs.Perm ps) (hs : qs.Pairwise fun p q => leN p q = true) : qs = sortN ps :=
  List.Perm.eq_of_pairwise (fun a b _ _ h1 h2 => leN_anti h1 h2) hs (sortN_le ps) (hp.trans (sortN_perm ps).symm)
def nsD (p : Nst) : Dt := .tup [.tup (p.1.map .int), .tup (p.2.map .int)]
def nstsOf : List Dt → Option (List Nst)
  | [] => some []
  | .tup [.tup a, .tup b] :: ds => (match intsOf a, intsOf b with
    | some ns, some ms => (nstsOf ds).map ((ns, ms) :: ·)
    | _, _ => none)
  | _ => none
theorem nstsOf_map (ps : List Nst) : nstsOf (ps.map nsD) = some ps := by
  induction ps with
  | nil => rfl
  | cons p ps ih => rw [List.map_cons, nsD, nstsOf, intsOf_map, intsOf_map, ih]; rfl
theorem intsOf_some : ∀ {ds : List Dt} {ns : List Int}, intsOf ds = some ns → ds = ns.map Dt.int
  | [], ns, h => by
    have : some ([] : List Int) = some ns := h
    cases this
    rfl
  | d :: ds, ns, h => by
    cases d with
    | int i =>
      cases q : intsOf ds with
      | none => simp [intsOf, q] at h
      | some ms =>
        have e : i :: ms = ns := by simpa [intsOf, q] using h
        subst e
        rw [List.map_cons, intsOf_some q]
    | _ => simp [intsOf] at h
theorem nstsOf_some : ∀ {ds : List Dt} {ps : List Nst}, nstsOf ds = some ps → ds = ps.map nsD
  | [], ps, h => by cases h; rfl
  | d :: ds, ps, h => by
    unfold nstsOf at h
    split at h
    · rename_i e
      cases e
    · rename_i a b ds' e
      cases e
      cases qa : intsOf a with
      | none => rw [qa] at h; cases h
      | some ns =>
        cases qb : intsOf b with
        | none => rw [qa, qb] at h; cases h
        | some ms =>
          rw [qa, qb] at h
          cases q : nstsOf ds with
          | none => simp [q] at h
          | some qs =>
            have e : (ns, ms) :: qs = ps := by simpa [q] using h
            subst e
            rw [nstsOf_some q, intsOf_some qa, intsOf_some qb]
            rfl
    · cases h
def sortND (d : Dt) : Rs Dt := match d with
  | .lst ds => (match nstsOf ds with
    | some ps => .ok (.lst ((sortN ps).map nsD))
    | none => .no)
  | _ => .no
def sortNE := op1E sortND
section
variable {J : Jc} {Γ : List Mode} {F Fa Fb : Ev → Rs Dt} {te ta tb : TE} {G0 H0 G H G' H' : Hp} {ρ : Ev} {σ : L2.St}
theorem rps_ints_eq {K : PySem.W.Frag} {ca : Str → Addr} : ∀ {ns : List Int} {vs : List V}, Rps K ca H (ns.map Dt.int) vs → vs = ns.map V.int
  | [], _, h => by cases h; rfl
  | n :: ns, _, h => by
    cases h with
    | cons h1 h2 => cases h1; rw [rps_ints_eq h2]; rfl
/-- each item of the list knows what it encodes -/
theorem nest_items {K : PySem.W.Frag} {ca : Str → Addr} : ∀ {ps : List Nst} {vs : List V}, Rps K ca H (ps.map nsD) vs → ∀ x ∈ vs, ∃ p ∈ ps, Rp K ca H (nsD p) x
  | [], _, h => by cases h; intro x hx; cases hx
  | p :: ps, _, h => by
    cases h with
    | cons h1 h2 =>
      intro x hx
      rcases List.mem_cons.mp hx with rfl | hx
      · exact ⟨p, List.mem_cons_self, h1⟩
      · obtain ⟨q, a, b⟩ := nest_items h2 x hx
        exact ⟨q, List.mem_cons_of_mem _ a, b⟩
theorem map_V_int_inj : ∀ {ns ms : List Int}, ns.map V.int = ms.map V.int → ns = ms
  | [], [], _ => rfl
  | [], _ :: _, h => by cases h
  | _ :: _, [], h => by cases h
  | n :: ns, m :: ms, h => by
    rw [List.map_cons, List.map_cons] at h
    injection h with h1 h2
    injection h1 with h1
    rw [h1, map_V_int_inj h2]
theorem nest_uniq {K : PySem.W.Frag} {ca : Str → Addr} {p q : Nst} {x : V} (h : Rp K ca H (nsD p) x) (k : Rp K ca H (nsD q) x) : p = q := by
  unfold nsD at h k
  cases h with
  | tup h1 h2 =>
    obtain ⟨v, u, rfl, r1, r2⟩ := h2.two
    cases k with
    | tup k1 k2 =>
      rw [h1] at k1
      cases k1
      obtain ⟨v', u', e, s1, s2⟩ := k2.two
      cases e
      cases r1 with
      | tup a1 a2 =>
        cases s1 with
        | tup b1 b2 =>
          rw [a1] at b1
          cases b1
          cases r2 with
          | tup c1 c2 =>
            cases s2 with
            | tup d1 d2 =>
              rw [c1] at d1
              cases d1
              exact Prod.ext (map_V_int_inj ((rps_ints_eq a2).symm.trans (rps_ints_eq b2))) (map_V_int_inj ((rps_ints_eq c2).symm.trans (rps_ints_eq d2)))
theorem rps_rel {K : PySem.W.Frag} {ca : Str → Addr} (k : V → Nst) : ∀ {ps : List Nst} {vs : List V}, Rps K ca H (ps.map nsD) vs → (∀ x ∈ vs, ∀ p, Rp K ca H (nsD p) x → k x = p) → vs.map k = ps
  | [], _, h, _ => by cases h; rfl
  | p :: ps, _, h, c => by
    cases h with
    | cons h1 h2 => rw [List.map_cons, c _ List.mem_cons_self p h1, rps_rel k h2 fun x hx => c x (List.mem_cons_of_mem _ hx)]
theorem rps_of_map {K : PySem.W.Frag} {ca : Str → Addr} (k : V → Nst) : ∀ {vs : List V}, (∀ x ∈ vs, Rp K ca H (nsD (k x)) x) → Rps K ca H ((vs.map k).map nsD) vs
  | [], _ => .nil
  | v :: vs, h => .cons (h v List.mem_cons_self) (rps_of_map k fun x hx => h x (List.mem_cons_of_mem _ hx))
theorem se_sortN (h : SemE J Γ .S F te) : SemE J Γ (.o (.L .F)) (sortNE F) (tCB (rSortedN J.K) (tCons te tNil)) := fun {G0 H0 G H ρ σ Q} w p => by
  refine h w (p.bind.imp (fun d _ q v G1 H1 P1 e1 _ r1 => ?_) fun _ q => q)
  cases d with
  | lst ds =>
    have q2 : Rs.Post _ _ (match nstsOf ds with
      | some ps => Rs.ok (Dt.lst ((sortN ps).map nsD))
      | none => Rs.no) := q
    clear q
    cases z : nstsOf ds with
    | none => rw [z] at q2; cases q2
    | some ps =>
      rw [z] at q2
      have ed := nstsOf_some z
      subst ed
      obtain ⟨a, vs, rfl, s, r⟩ := S_lst r1
      let k : V → Nst := fun x => if hx : ∃ p, Rp J.K J.ca G1 (nsD p) x then hx.choose else ([], [])
      have hk : ∀ x ∈ vs, Rp J.K J.ca G1 (nsD (k x)) x := fun x hx => by
        obtain ⟨p, _, hp⟩ := nest_items r x hx
        have ex : ∃ p, Rp J.K J.ca G1 (nsD p) x := ⟨p, hp⟩
        show Rp J.K J.ca G1 (nsD (if hx : ∃ p, Rp J.K J.ca G1 (nsD p) x then hx.choose else ([], []))) x
        rw [dif_pos ex]
        exact ex.choose_spec
      have hm : vs.map k = ps := rps_rel k r fun x hx p hp => nest_uniq (hk x hx) hp
      refine ⟨a, vs, k, rfl, .of s, fun x hx => ?_, fun ys p hs hb hp => ?_⟩
      · have := (hk x hx).mono e1.gh
        unfold nsD at this
        cases this with
        | @tup t us _ h1 h2 =>
          obtain ⟨v1, v2, rfl, r2, r3⟩ := h2.two
          cases r2 with
          | @tup f fs _ f1 f2 =>
            cases r3 with
            | @tup u us _ u1 u2 =>
              exact ⟨t, f, u, rfl, h1, by rw [← rps_ints_eq f2]; exact f1, by rw [← rps_ints_eq u2]; exact u1⟩
      · have hys : ∀ x ∈ ys, x ∈ vs := fun x hx => hb.perm.mem_iff.mp hx
        have e2 : ys.map k = sortN ps := by
          refine sortN_uniq ?_ ?_
          · rw [← hm]; exact hb.perm.map k
          · rw [List.pairwise_map]
            refine List.Pairwise.imp (fun {x y} h => ?_) hs
            show leN (k x) (k y) = true
            unfold leN
            have h : SrtO.lexN (k y) (k x) = false := h
            rw [h]
            rfl
        have rr : Rps J.K J.ca G1 ((sortN ps).map nsD) ys := by
          rw [← e2]
          exact rps_of_map k fun x hx => hk x (hys x hx)
        obtain ⟨e3, f3, o3⟩ := new_lst e1.gh hp rr
        exact Rs.Post.of_ok q2 (.ref p) G1 _ _ (e1.trans e3) (fun b hb => ⟨(f3 b hb).1, e1.h.free (f3 b hb).2.1, (f3 b hb).2.2⟩) o3
  | _ => cases q
/-! ### a < b of tuples of ints -/
def tupLtD (a b : Dt) : Rs Dt := match a, b with
  | .tup xs, .tup ys => (match intsOf xs, intsOf ys with
    | some ns, some ms => .ok (.bl (HT.lexLt ns ms))
    | _, _ => .no)
  | _, _ => .no
def ltTE := op2E tupLtD
theorem rule_ltT {K : PySem.W.Frag} {ca : Str → Addr} : Rule2 K ca tupLtD (rLtT K) := by
  intro H a b d x y Q ra rb q k
  cases ra with
  | @tup p vs xs h1 h2 =>
    cases rb with
    | @tup p2 us ys k1 k2 =>
      have q : (match intsOf xs, intsOf ys with
        | some ns, some ms => Rs.ok (Dt.bl (HT.lexLt ns ms))
        | _, _ => Rs.no) = .ok d := q
      cases z1 : intsOf xs with
      | none => rw [z1] at q; cases q
      | some ns =>
        cases z2 : intsOf ys with
        | none => rw [z1, z2] at q; cases q
        | some ms =>
          rw [z1, z2] at q
          cases q
          have e1 := intsOf_some z1
          have e2 := intsOf_some z2
          subst e1 e2
          refine ⟨p, p2, ns, ms, rfl, rfl, ?_, ?_, k _ rfl fun _ => .bl _⟩
          · rw [← rps_ints_eq h2]; exact .of h1
          · rw [← rps_ints_eq k2]; exact .of k1
    | _ => cases q
  | _ => cases rb <;> cases q
theorem nx_ltT : NoEx2 tupLtD := by
  intro a b c
  unfold tupLtD
  split
  · split <;> intro q <;> cases q
  · intro q; cases q
theorem se_ltT (ha : SemE J Γ .B Fa ta) (hb : SemE J Γ .B Fb tb) : SemE J Γ (.o .F) (ltTE Fa Fb) (tOp (rLtT J.K) ta tb) := se_op2 rule_ltT nx_ltT ha hb
def tupGtD (a b : Dt) : Rs Dt := tupLtD b a
def gtTE := op2E tupGtD
theorem rule_gtT {K : PySem.W.Frag} {ca : Str → Addr} : Rule2 K ca tupGtD (rGtT K) := by
  intro H a b d x y Q ra rb q k
  refine rule_ltT (ca := ca) H b a d y x Q rb ra q fun v h1 h2 => k v h1 h2
theorem se_gtT (ha : SemE J Γ .B Fa ta) (hb : SemE J Γ .B Fb tb) : SemE J Γ (.o .F) (gtTE Fa Fb) (tOp (rGtT J.K) ta tb) := se_op2 rule_gtT (fun a b c => nx_ltT b a c) ha hb
end
/-! ### x in a list, by data -/
section
open PySem PySem.Spec PyProof.Rows
def rInDt (K : PySem.W.Frag) : L2.R2 := fun x y H Q => ∃ d xs, L2.Dp K H x d ∧ L2.Dp K H y (.list xs) ∧ SeqAt.shaped d = true ∧ SeqAt.shaped (.list xs) = true ∧ Q (.bl (xs.any fun e => PyData.eqv e d)) H
theorem op_inDt {X : L2.Cx} (hu : X.A.units + 65 < cLine) : L2.OpR X (compareOp .In) (rInDt X.K) := by
  intro pins s σ H x y v u Q I rx ry h
  obtain ⟨d, xs, hd, he, sd, se, q⟩ := h
  obtain ⟨as, r1⟩ := L2.Dp.reads I d x v hd rx
  obtain ⟨bs, r2⟩ := L2.Dp.reads I (.list xs) y u he ry
  exact SeqAt.in_list_reads r2 r1 (SeqAt.canLay_of_shaped se) (SeqAt.canLay_of_shaped sd) (room_in_shaped sd hu) ⟨.bl _, H, I, rfl, q⟩
end
section
variable {J : Jc} {Γ : List Mode} {Fa Fb : Ev → Rs Dt} {ta tb : TE}
theorem pyDs_any {a : Dt} : ∀ ds : List Dt, ((pyDs ds).any fun e => PyData.eqv e (pyD a)) = inD a ds
  | [] => rfl
  | d :: ds => by
    show (PyData.eqv (pyD d) (pyD a) || (pyDs ds).any fun e => PyData.eqv e (pyD a)) = (deq d a || inD a ds)
    rw [pyDs_any ds]
    rfl
def inDD (a b : Dt) : Rs Dt := match b with
  | .lst ds => if (eqOK a && eqOK (.lst ds)) = true then .ok (.bl (inD a ds)) else .no
  | _ => .no
def inDE := op2E inDD
theorem rule_inDt {K : PySem.W.Frag} {ca : Str → Addr} : Rule2 K ca inDD (rInDt K) := by
  intro H a b d x y Q ra rb q k
  unfold inDD at q
  cases b with
  | lst ds =>
    obtain ⟨c, q⟩ := ok_if q
    cases q
    rw [Bool.and_eq_true] at c
    refine ⟨_, pyDs ds, ra.dp (SeqAt.canLay_of_shaped c.1), rb.dp (SeqAt.canLay_of_shaped c.2), c.1, c.2, ?_⟩
    rw [pyDs_any]
    exact k _ rfl fun _ => .bl _
  | _ => cases q
theorem nx_inDt : NoEx2 inDD := by
  intro a b c
  unfold inDD
  split
  · exact nx_if (fun q => by cases q) fun q => by cases q
  · exact fun q => by cases q
theorem se_inD (ha : SemE J Γ .B Fa ta) (hb : SemE J Γ .B Fb tb) : SemE J Γ (.o .F) (inDE Fa Fb) (tOp (rInDt J.K) ta tb) := se_op2 rule_inDt nx_inDt ha hb
end
theorem room65 {k : Nat} {A : Around} (r : Room k A) : A.units + 65 < cLine := by
  have := r.un
  omega
theorem room3 {k : Nat} {A : Around} (r : Room k A) : A.units + 3 < cLine := by
  have := r.units
  omega
theorem room0 {k : Nat} {A : Around} (r : Room k A) : A.units < cLine := by
  have := r.units
  omega
end Pm
namespace Pm
open PySem PySem.Spec PyProof.Rows L2
open Classical
/-! ### more readings -/
section
variable {J : Jc} {Γ Γ' Γ1 Γ2 Γb : List Mode} {em : EM} {m M : Mode} {ms : List Mode} {F Fe Fa Fb Fd Fk Fi : Ev → Rs Dt} {Fs : List (Ev → Rs Dt)} {te ta tb ti : TE} {tr : TA} {G0 H0 Gs G H G' H' : Hp} {ρ : Ev} {σ : L2.St} {vs : List Nat}
  {ts t1 t2 : TS} {D : Ends} {d : Dt} {v : V} {put : Dt → Ev} {Fp : Ev → Rs (Dt × (Dt → Ev))}
/-! x is not True, False -/
def notBD (c : Bool) : Dt → Rs Dt
  | .bl b => .ok (.bl (!decide (b = c)))
  | _ => .no
def notBE (c : Bool) := op1E (notBD c)
theorem se_notB {c : Bool} (ha : SemE J Γ .B Fa ta) : SemE J Γ (.o .F) (notBE c Fa) (tOp rNotB ta (tC (.bl c))) := fun {G0 H0 G H ρ σ Q} w p => by
  refine ha w (p.bind.imp (fun a _ p1 x G1 H1 _ e1 _ ra => ?_) fun _ q => q)
  cases ra with
  | bl b => exact ⟨b, c, rfl, rfl, Rs.Post.of_ok p1 (.bl (!decide (b = c))) G1 H1 Pno e1 Fr.no (.F (.bl _))⟩
  | _ => cases p1
/-! an owned item of an owned list -/
theorem se_ixO (ha : SemE J Γ (.o (.L m)) Fa ta) (hb : SemE J Γ .B Fb tb) : SemE J Γ (.o m) (ixE Fa Fb) (tOp (rIx J.K) ta tb) := fun {G0 H0 G H ρ σ Q} w p => by
  refine ha w (p.bind.imp (fun a _ p1 x G1 H1 P1 e1 f1 ra => ?_) fun _ q => q)
  refine hb (w.ext e1) (p1.bind.imp (fun b _ p2 y G2 H2 _ e2 _ rb => ?_) fun _ q H' dx s => q H' dx (e1.h.trans s))
  have ra2 := ra.carry e2.g fun b hb => ⟨e2.h.at (f1 b hb).2.2, by rw [e2.base b (f1 b hb).2.2]; exact (f1 b hb).1⟩
  cases ra2 with
  | NL => cases rb <;> cases p2
  | @L _ c us ds _ h1 h2 h3 h4 =>
    cases rb with
    | int i =>
      have p2 : Rs.Post _ _ (match L2.atI ds i with | some d => (Rs.ok d : Rs Dt) | none => .no) := p2
      cases hd : L2.atI ds i with
      | none => rw [hd] at p2; cases p2
      | some d =>
        rw [hd] at p2
        unfold L2.atI at hd
        cases hj : ixN ds.length i with
        | none => rw [hj] at hd; cases hd
        | some j =>
          rw [hj] at hd
          have hd : ds[j]? = some d := hd
          obtain ⟨u, Pk, q1, q2, q3, _⟩ := h4.focus (k := j) (m := m) (by rw [List.getElem?_replicate, if_pos (List.getElem?_eq_some_iff.mp hd).1]) hd
          refine .inl ⟨c, us, i, u, rfl, rfl, .of h1, by unfold L2.atI; rw [← h4.len.1, hj]; exact q1, p2.of_ok u G2 H2 Pk (e1.trans e2) (fun b hb => ?_) q2⟩
          have z := f1 b (q3 b hb).1
          exact ⟨by rw [e2.base b z.2.2]; exact z.1, z.2.1, e2.h.nn z.2.2⟩
    | _ => cases p2
/-! what stands in a frozen dict -/
theorem dget_runF {GG HH : Hp} {K : PySem.W.Frag} {ca : Str → Addr} {d k : Dt} {o : Option Dt} {x y : V} (sg : Same GG HH) (q : dgetD d k = .ok o) (rd : Rp K ca GG d x) (rk : Rp K ca HH k y) : ∃ a, x = .ref a ∧ ((∃ e v, o = some e ∧ DGet HH a y (some v) ∧ Rp K ca GG e v) ∨ (o = none ∧ DGet HH a y none)) := by
  cases d with
  | dic ks ds =>
    obtain ⟨a, vs, rfl, h1, h2, h3⟩ := rd.dicR
    cases z : keyD k with
    | none => simp [dgetD, z] at q
    | some s =>
      cases s with
      | inr l => simp [dgetD, z] at q
      | inl l =>
        have e : lookK ks ds l = o := by simpa [dgetD, z] using q
        subst e
        have ey := keyL z rk
        subst ey
        have dg := DGet.kR (k := l) (L2.Same.rd sg h1)
        refine ⟨a, rfl, ?_⟩
        rcases lookK_rps (k := l) h3 h2 with ⟨e, v, e1, e2, r⟩ | ⟨e1, e2⟩
        · rw [e2] at dg
          exact .inl ⟨e, v, e1, dg, r⟩
        · rw [e2] at dg
          exact .inr ⟨e1, dg⟩
  | dit ks ds =>
    cases rd with
    | @dit a _ vs _ h1 h2 h3 =>
    cases z : keyD k with
    | none => simp [dgetD, z] at q
    | some s =>
      cases s with
      | inl l => simp [dgetD, z] at q
      | inr l =>
        have e : lookK ks ds l = o := by simpa [dgetD, z] using q
        subst e
        obtain ⟨b, rfl, hb⟩ := keyR z rk
        have dg := DGet.t (k := l) (sg _ _ h1) hb
        refine ⟨a, rfl, ?_⟩
        rcases lookK_rps (k := l) h3 h2 with ⟨e, v, e1, e2, r⟩ | ⟨e1, e2⟩
        · rw [e2] at dg
          exact .inl ⟨e, v, e1, dg, r⟩
        · rw [e2] at dg
          exact .inr ⟨e1, dg⟩
  | _ => simp [dgetD] at q
theorem se_dgetF (hd : SemE J Γ (.o .F) Fd ta) (hk : SemE J Γ .B Fk tb) : SemE J Γ (.o .F) (dgetE Fd Fk) (tDGet ta tb) := fun {G0 H0 G H ρ σ Q} w p => by
  refine hd w (p.bind.imp (fun d _ p1 x G1 H1 _ e1 _ rd => ?_) fun _ q => q)
  refine hk (w.ext e1) (p1.bind.imp (fun k _ q y G2 H2 _ e2 _ rk => ?_) fun _ q H' dx s => q H' dx (e1.h.trans s))
  cases rd with
  | F rd =>
  cases z : dgetD d k with
  | ex c => exact absurd z nx_dget
  | no => rw [z] at q; cases q
  | ok o =>
    rw [z] at q
    obtain ⟨a, rfl, hg⟩ := dget_runF e2.gh z (rd.mono e2.g) rk
    rcases hg with ⟨e, v, rfl, g, r⟩ | ⟨rfl, g⟩
    · exact ⟨a, v, rfl, g, q.of_ok v G2 H2 Pno (e1.trans e2) Fr.no (.F r)⟩
    · cases q
/-! ### d.setdefault(k, []).append(x) -/
def posK : List Key → Key → Option Nat
  | [], _ => none
  | q :: ks, z => if q = z then some 0 else (posK ks z).map (· + 1)
theorem posK_val : ∀ {ks : List Key} {vs : List V} {z : Key}, ks.length = vs.length → valV (ks.zip vs) z = (posK ks z).bind fun j => vs[j]?
  | [], _, _, _ => rfl
  | _ :: _, [], _, h => by cases h
  | q :: ks, v :: vs, z, h => by
    unfold posK
    by_cases e : q = z
    · rw [if_pos e, List.zip_cons_cons]
      exact valV_pos e
    · rw [if_neg e, List.zip_cons_cons, valV_neg e, posK_val (by simpa using h)]
      cases posK ks z <;> rfl
theorem posK_lt : ∀ {ks : List Key} {z : Key} {j : Nat}, posK ks z = some j → j < ks.length
  | [], _, _, h => by cases h
  | q :: ks, z, j, h => by
    unfold posK at h
    split at h
    · cases h; simp
    · cases e : posK ks z with
      | none => rw [e] at h; cases h
      | some i =>
        rw [e] at h
        cases h
        have := posK_lt e
        show i + 1 < _; rw [List.length_cons]; omega
theorem posK_none : ∀ {ks : List Key} {z : Key}, posK ks z = none → hasK ks z = false
  | [], _, _ => rfl
  | q :: ks, z, h => by
    unfold posK at h
    split at h
    · cases h
    · rename_i e
      cases e2 : posK ks z with
      | some i => rw [e2] at h; cases h
      | none =>
        show (decide (q = z) || hasK ks z) = false
        rw [posK_none e2, decide_eq_false e]
        rfl
theorem putK_new {ks : List Key} {vs : List V} {z : Key} {v : V} (hl : ks.length = vs.length) (h : posK ks z = none) : putK (ks.zip vs) z v = (ks ++ [z]).zip (vs ++ [v]) := by
  rw [putK_zip hl]
  unfold putKs putDs
  rw [posK_none h]
  rfl
def sdAppD (ks : List Key) (ds : List Dt) (z : Key) (y : Dt) : Option Dt := if lenSz ks.length = true then (match posK ks z with
    | some j => (match ds[j]? with
      | some (.lst es) => if lenSz es.length = true then some (.dic ks (ds.set j (.lst (es ++ [y])))) else none
      | _ => none)
    | none => some (.dic (ks ++ [z]) (ds ++ [.lst [y]]))) else none
def sdAppK (x : Dt × (Dt → Ev)) (ks : List Key) (ds : List Dt) (k y : Dt) : Ot := match keyD k with
  | some (.inl z) => (match sdAppD ks ds z y with
    | some d => .nx (x.2 d)
    | none => .no)
  | _ => .no
def sdAppS (Fp : Ev → Rs (Dt × (Dt → Ev))) (Fk : Ev → Rs Dt) (i : Nat) (ρ : Ev) : Ot := bindS (Fp ρ) ρ fun x => match x.1 with
  | .dic ks ds => bindS (Fk ρ) ρ fun k => bindS (varE i ρ) ρ fun y => sdAppK x ks ds k y
  | _ => .no
theorem ss_sdApp {i : Nat} (h : SemP J Γ Fp (.K (.L .F)) te) (k : SemE J Γ .B Fk ta) (hi : Γ[i]? = some .F) (hx : Gx J Γ) : SemS J Γ Γ (sdAppS Fp Fk i) (tDrop (tBM J.K "list" rAppend (tDSetd te ta (tLst tNil)) (tCons (tVar i) tNil))) := fun {G0 H0 G H ρ σ D} w p => by
  refine h w ((PostS.bind w hx p).imp (fun x _ q v G1 H1 e1 f1 => ?_) fun _ q => q)
  obtain ⟨xd, xp⟩ := x
  have w1 := w.ext e1
  cases xd with
  | dic ks ds =>
    have q : PostS J G0 H0 G1 Γ D (bindS (Fk ρ) ρ fun k => bindS (varE i ρ) ρ fun y => sdAppK (.dic ks ds, xp) ks ds k y) := q.up e1.g
    obtain ⟨P, o, r, fin⟩ := f1.ex
    cases o with
    | @K _ a _ vs _ _ h1 h2 h3 h4 h5 =>
      have hna : H1 a ≠ none := by rw [h1]; exact fun z => by cases z
      refine ⟨a, rfl, .inl ⟨_, Or.inl h1⟩, ?_⟩
      refine k w1 ((PostS.bind w1 hx q).imp (fun kd _ q yv G2 H2 _ e2 _ rk => ?_) fun _ q => q)
      have w2 := w1.ext e2
      have q : PostS J G0 H0 G2 Γ D (bindS (varE i ρ) ρ fun y => sdAppK (.dic ks ds, xp) ks ds kd y) := PostS.up e2.g q
      cases hy : ρ[i]? with
      | none => unfold varE at q; rw [hy] at q; cases q
      | some oy =>
      cases oy with
      | none => unfold varE at q; rw [hy] at q; cases q
      | some y =>
      have q : PostS J G0 H0 G2 Γ D (sdAppK (.dic ks ds, xp) ks ds kd y) := by
        unfold varE at q; rw [hy] at q; exact q
      obtain ⟨vy, my, Py, sy, gy, oy, _⟩ := w2.get hy
      rw [hi] at gy
      cases gy
      cases oy with
      | F ry =>
      unfold sdAppK at q
      cases hz : keyD kd with
      | none => rw [hz] at q; cases q
      | some s =>
      cases s with
      | inr s => rw [hz] at q; cases q
      | inl z =>
      rw [hz] at q
      dsimp only at q
      cases hd : sdAppD ks ds z y with
      | none => rw [hd] at q; cases q
      | some d =>
      rw [hd] at q
      unfold sdAppD at hd
      by_cases c : lenSz ks.length = true
      case neg => rw [if_neg c] at hd; cases hd
      rw [if_pos c] at hd
      have ey := keyL hz rk
      subst ey
      refine ⟨Nat.zero_le _, fun p hp => ?_⟩
      have hap : a ≠ p := fun e => by
        have := e2.h _ _ h1
        rw [e, hp] at this
        cases this
      have hd3 : upd H2 p (.lst []) a = some (.dK (ks.zip vs)) := by rw [upd_ne hap]; exact e2.h _ _ h1
      have gpa : G2 a = none := by rw [e2.base a hna]; exact h2
      have g2p : G2 p = none := e2.gh.free hp
      have e3 : Ext G2 H2 G2 (upd H2 p (.lst [])) := Ext.heap e2.gh (Same.new hp)
      have h0p : H0 p = none := w.x.h.free (e1.h.free (e2.h.free hp))
      have h1p : H1 p = none := e2.h.free hp
      refine ⟨ks.zip vs, z, hd3, rfl, by rw [zip_len h4]; exact lenSz_lt c, fun v' hv => ?_, fun hn => ?_⟩
      · rw [posK_val h4] at hv
        cases hj : posK ks z with
        | none => rw [hj] at hv; cases hv
        | some j =>
          rw [hj] at hv hd
          have hv : vs[j]? = some v' := hv
          dsimp only at hd
          cases he : ds[j]? with
          | none => rw [he] at hd; cases hd
          | some de =>
          rw [he] at hd
          cases de with
          | lst es =>
            dsimp only at hd
            by_cases c2 : lenSz es.length = true
            case neg => rw [if_neg c2] at hd; cases hd
            rw [if_pos c2] at hd
            cases hd
            obtain ⟨v2, Pk, q1, q2, q3, q4⟩ := h5.focus (k := j) (m := .L .F) (by rw [List.getElem?_replicate, if_pos (List.getElem?_eq_some_iff.mp he).1]) he
            rw [hv] at q1
            cases q1
            cases q2 with
            | @L _ b ws _ _ g1 g2 g3 g4 =>
              have hnb : H1 b ≠ none := by rw [g1]; exact fun z => by cases z
              have hbp : b ≠ p := fun e => hnb (by rw [e]; exact h1p)
              have hab : a ≠ b := fun e => (q3 b g3).2 e.symm
              have hb3 : upd H2 p (.lst []) b = some (.lst ws) := by rw [upd_ne hbp]; exact e2.h _ _ g1
              have gpb : G2 b = none := by rw [e2.base b hnb]; exact g2
              refine ⟨.inl ⟨rfl, ws, .of hb3⟩, vy, sy, b, ws, vy, rfl, rfl, hb3, by rw [← g4.len.1]; exact lenSz_lt c2, ?_⟩
              have other : ∀ x, H1 x ≠ none → x ≠ b → upd (upd H2 p (.lst [])) b (.lst (ws ++ [vy])) x = H1 x := fun x hx hxb => by
                rw [upd_ne hxb, upd_ne fun e => hx (by rw [e]; exact h1p)]
                exact e2.h.at hx
              have kk : ∀ x, Pk x → P x := fun x hx => (q3 x hx).1
              have own2 : Ow J.K J.ca G2 (upd (upd H2 p (.lst [])) b (.lst (ws ++ [vy]))) (.L .F) (.lst (es ++ [y])) (.ref b) Pk := by
                refine .L upd_same gpb g3 ?_
                refine Rps.own ((g4.frozen.mono e2.g).append (.cons ?_ .nil))
                exact ry
              have rest := q4 G2 (upd (upd H2 p (.lst [])) b (.lst (ws ++ [vy]))) (.lst (es ++ [y])) Pk e2.g (fun x hx hn => ⟨other x (r x hx.1).2.2 fun e => hn (by rw [e]; exact g3), by rw [e2.base x (r x hx.1).2.2]; exact (r x hx.1).1⟩) own2 fun x hx => .inl hx
              have en := fin G2 (upd (upd H2 p (.lst [])) b (.lst (ws ++ [vy]))) (.dic ks (ds.set j (.lst (es ++ [y])))) P e2.g (fun x hx hn => ⟨other x hx fun e => hn (by rw [e]; exact kk b g3), e2.base x hx⟩) (.K (by rw [other a hna hab]; exact h1) gpa h3 h4 (by
                rw [List.length_set]
                refine rest.weaken fun x hx => ?_
                rcases hx with hx | hx
                · exact hx.1
                · exact q3 x hx)) fun x hx => ⟨.inl hx, by rw [e2.base x (r x hx).2.2]; exact (r x hx).1, (r x hx).2.1, by
                by_cases e : x = b
                · rw [e, upd_same]; exact fun z => by cases z
                · rw [other x (r x hx).2.2 e]; exact (r x hx).2.2⟩
              exact q.of_nx σ G2 _ (Same.refl _) ⟨((w.x.trans (e1.trans e2)).trans e3).mut (r b (kk b g3)).2.1 gpb, en.lg, en.lr, en.env, w.pn⟩
          | _ => cases hd
      · rw [posK_val h4] at hn
        cases hj : posK ks z with
        | some j =>
          rw [hj] at hn
          have hn : vs[j]? = none := hn
          have := posK_lt hj
          rw [List.getElem?_eq_none_iff] at hn
          omega
        | none =>
          rw [hj] at hd
          cases hd
          rw [putK_new h4 hj]
          have hpb : upd (upd H2 p (.lst [])) a (.dK ((ks ++ [z]).zip (vs ++ [.ref p]))) p = some (.lst []) := by rw [upd_ne (Ne.symm hap)]; exact upd_same
          refine ⟨.inl ⟨rfl, [], .of hpb⟩, vy, sy, p, [], vy, rfl, rfl, hpb, by decide, ?_⟩
          have ha4 : upd (upd (upd H2 p (.lst [])) a (.dK ((ks ++ [z]).zip (vs ++ [.ref p])))) p (.lst ([] ++ [vy])) a = some (.dK ((ks ++ [z]).zip (vs ++ [.ref p]))) := by rw [upd_ne hap]; exact upd_same
          have other : ∀ x, H1 x ≠ none → x ≠ a → upd (upd (upd H2 p (.lst [])) a (.dK ((ks ++ [z]).zip (vs ++ [.ref p])))) p (.lst ([] ++ [vy])) x = H1 x := fun x hx hxa => by
            have hxp : x ≠ p := fun e => hx (by rw [e]; exact h1p)
            rw [upd_ne hxp, upd_ne hxa, upd_ne hxp]
            exact e2.h.at hx
          have own2 : Ow J.K J.ca G2 (upd (upd (upd H2 p (.lst [])) a (.dK ((ks ++ [z]).zip (vs ++ [.ref p])))) p (.lst ([] ++ [vy]))) (.L .F) (.lst [y]) (.ref p) (fun b => b = p) := .L upd_same g2p rfl (Rps.own (.cons ry .nil))
          have old : Ows J.K J.ca G2 (upd (upd (upd H2 p (.lst [])) a (.dK ((ks ++ [z]).zip (vs ++ [.ref p])))) p (.lst ([] ++ [vy]))) (List.replicate ds.length (.L .F)) ds vs (fun b => P b ∧ b ≠ a) := h5.carry e2.g fun x hx => ⟨other x (r x hx.1).2.2 hx.2, by rw [e2.base x (r x hx.1).2.2]; exact (r x hx.1).1⟩
          have pnp : ¬ P p := fun z => (r p z).2.2 h1p
          have en := fin G2 (upd (upd (upd H2 p (.lst [])) a (.dK ((ks ++ [z]).zip (vs ++ [.ref p])))) p (.lst ([] ++ [vy]))) (.dic (ks ++ [z]) (ds ++ [.lst [y]])) (fun b => P b ∨ b = p) e2.g (fun x hx hn => ⟨other x hx fun e => hn (by rw [e]; exact h3), e2.base x hx⟩) (.K ha4 gpa (.inl h3) (by rw [List.length_append, List.length_append, h4]; rfl) (by
            rw [List.length_append, List.length_singleton, List.replicate_succ']
            refine Ows.append (P1 := fun b => P b ∧ b ≠ a) (P2 := fun b => b = p) old (.cons (P1 := fun b => b = p) (P2 := Pno) own2 .nil (fun _ z => z) (fun _ z => z.elim) (fun _ _ z => z)) (fun b hb => ⟨.inl hb.1, hb.2⟩) (fun b hb => ⟨.inr hb, fun e => hap (by rw [← e]; exact hb)⟩) fun b hb hz => pnp (by rw [← hz]; exact hb.1))) fun x hx => by
            by_cases e : x = p
            · subst e
              exact ⟨.inr h1p, g2p, h0p, by rw [upd_same]; exact fun z => by cases z⟩
            · have hx : P x := hx.resolve_right e
              refine ⟨.inl hx, by rw [e2.base x (r x hx).2.2]; exact (r x hx).1, (r x hx).2.1, ?_⟩
              by_cases ea : x = a
              · rw [ea, ha4]; exact fun z => by cases z
              · rw [other x (r x hx).2.2 ea]; exact (r x hx).2.2
          exact q.of_nx σ G2 _ (Same.refl _) ⟨(((w.x.trans (e1.trans e2)).trans e3).mut (r a h3).2.1 gpa).mut h0p g2p, en.lg, en.lr, en.env, w.pn⟩
  | _ => cases q
/-! sorted(d), whole numbers as keys -/
def intKs : List Key → Option (List Int)
  | [] => some []
  | .inl i :: ks => (intKs ks).map fun l => i :: l
  | _ :: _ => none
theorem intKs_ok : ∀ {ks : List Key} {ns : List Int}, intKs ks = some ns → ks = ns.map Sum.inl
  | [], _, h => by cases h; rfl
  | .inl i :: ks, ns, h => by
    unfold intKs at h
    cases e : intKs ks with
    | none => rw [e] at h; cases h
    | some l =>
      rw [e] at h
      cases h
      rw [List.map_cons, intKs_ok e]
  | .inr x :: ks, ns, h => by cases h
def sortDI (d : Dt) : Rs Dt := match d with
  | .dic ks _ => (match intKs ks with
    | some ns => if decide (ns.length < 64) = true then .ok (.lst ((sortI ns).map .int)) else .no
    | none => .no)
  | _ => .no
def sortDIE := op1E sortDI
theorem se_sortDI (h : SemE J Γ .B F te) : SemE J Γ (.o (.L .F)) (sortDIE F) (tCB (fun xs H Q => ∃ (a : Addr) (kvs : List (Key × V)) (ks : List Int), xs = [.ref a] ∧ Rd H a (.dK kvs) ∧ kvs.map (·.1) = ks.map Sum.inl ∧ ks.length < 64 ∧ ∀ (ys : List Int) (p : Addr), ys.Perm ks → ys.Pairwise (· ≤ ·) → H p = none → Q (.ref p) (upd H p (.lst (ys.map V.int)))) (tCons te tNil)) := fun {G0 H0 G H ρ σ Q} w p => by
  refine h w (p.bind.imp (fun d _ q v G1 H1 P1 e1 _ r1 => ?_) fun _ q => q)
  cases d with
  | dic ks ds =>
    obtain ⟨a, vs, rfl, h1, h2, h3⟩ := Rp.dicR r1
    have q : Rs.Post _ _ (match intKs ks with
      | some ns => if decide (ns.length < 64) = true then Rs.ok (Dt.lst ((sortI ns).map .int)) else .no
      | none => .no) := q
    cases e : intKs ks with
    | none => rw [e] at q; cases q
    | some ns =>
      rw [e] at q
      dsimp only at q
      by_cases c : ns.length < 64
      case neg => rw [if_neg (by simpa using c)] at q; cases q
      rw [if_pos (by simpa using c)] at q
      have ek := intKs_ok e
      refine ⟨a, ks.zip vs, ns, rfl, h1, ?_, c, fun ys p hp hs hf => ?_⟩
      · rw [← ek]
        exact List.map_fst_zip (by rw [h2]; exact Nat.le_refl _)
      · have ey : sortI ns = ys := (sortI_uniq hp hs).symm
        rw [ey] at q
        have r : Rps J.K J.ca G1 (ys.map .int) (ys.map V.int) := by
          clear q hp hs ey
          induction ys with
          | nil => exact .nil
          | cons y ys ih => exact .cons (.int y) ih
        obtain ⟨f1, f2, f3⟩ := new_lst e1.gh hf r
        exact q.of_ok (.ref p) G1 _ _ (e1.trans f1) (fun b hb => ⟨(f2 b hb).1, e1.h.free (f2 b hb).2.1, (f2 b hb).2.2⟩) f3
  | _ => cases q
/-! displays of what is looked at -/
theorem se_lstB (h : SemBs J Γ Fs tr) (hl : Fs.length ≤ 1000000 := by exact Nat.le_of_ble_eq_true rfl) : SemE J Γ .B (lstE Fs) (tLst tr) := fun {G0 H0 G H ρ σ Q} w p => by
  refine h w (p.bind.imp (fun ds hd q vs G1 H1 e1 r1 => ⟨?_, fun a ha => ?_⟩) fun _ q => q)
  · rw [← r1.length, argsE_len hd]; exact sz1000000 hl
  · exact q.of_ok (.ref a) G1 _ Pno (e1.trans (Ext.heap e1.gh (Same.new ha))) Fr.no (.lst upd_same (r1.mono (Same.new ha)))
theorem se_tupB (h : SemBs J Γ Fs tr) (hl : Fs.length ≤ 1000000 := by exact Nat.le_of_ble_eq_true rfl) : SemE J Γ .B (tupE Fs) (tTup tr) := fun {G0 H0 G H ρ σ Q} w p => by
  refine h w (p.bind.imp (fun ds hd q vs G1 H1 e1 r1 => ⟨?_, fun a ha => ?_⟩) fun _ q => q)
  · rw [← r1.length, argsE_len hd]; exact sz1000000 hl
  · exact q.of_ok (.ref a) G1 _ Pno (e1.trans (Ext.heap e1.gh (Same.new ha))) Fr.no (.tup upd_same (r1.mono (Same.new ha)))
/-! ### for x in P, where x is changed in place: the item is lent to the name -/
def tgetD : Option Nat → Dt → Option Dt
  | none, d => some d
  | some k, .tup ds => ds[k]?
  | some k, .lst ds => ds[k]?
  | some _, _ => none
def tputD : Option Nat → Dt → Dt → Dt
  | none, _, y => y
  | some k, .tup ds, y => .tup (ds.set k y)
  | some k, .lst ds, y => .lst (ds.set k y)
  | some _, d, _ => d
def tmode : Option Nat → Mode → Option Mode
  | none, M => some M
  | some k, .T ms => ms[k]?
  | some _, _ => none
def stQ (H : Hp) (v : V) (a : Addr) (P : Addr → Prop) : Option Nat → Prop
  | none => v = .ref a
  | some k => ∃ b ws, v = .ref b ∧ (H b = some (.tup ws) ∨ H b = some (.lst ws)) ∧ ws[k]? = some (.ref a) ∧ P b
theorem Ow.lensL {K : PySem.W.Frag} {ca : Str → Addr} {G H : Hp} {m : Mode} {v : V} {P : Addr → Prop} {ds : List Dt} {i : Nat} {e : Dt} (o : Ow K ca G H (.L m) (.lst ds) v P) (hi : ds[i]? = some e) :
    ∃ a us u Pk, v = .ref a ∧ H a = some (.lst us) ∧ us[i]? = some u ∧ ds.length = us.length ∧ P a ∧ ¬ Pk a ∧ Ow K ca G H m e u Pk ∧ (∀ b, Pk b → P b) ∧ ∀ G2 H2 d2 P2, Same G G2 → (∀ b, P b → ¬ Pk b → H2 b = H b ∧ G2 b = none) → Ow K ca G2 H2 m d2 u P2 → (∀ b, P2 b → Pk b ∨ ¬ P b) → Ow K ca G2 H2 (.L m) (.lst (ds.set i d2)) v (fun b => (P b ∧ ¬ Pk b) ∨ P2 b) := by
  cases o with
  | @L _ a us _ _ h1 h2 h3 h4 =>
    obtain ⟨u, Pk, q1, q2, q3, q4⟩ := h4.focus (k := i) (m := m) (by rw [List.getElem?_replicate, if_pos (List.getElem?_eq_some_iff.mp hi).1]) hi
    have na : ¬ Pk a := fun z => (q3 a z).2 rfl
    refine ⟨a, us, u, Pk, rfl, h1, q1, h4.len.1, h3, na, q2, fun b hb => (q3 b hb).1, fun G2 H2 d2 P2 sg c o2 c2 => ?_⟩
    have ca2 := c a h3 na
    have p2a : ∀ b, P2 b → b ≠ a := fun b hb z => by
      rcases c2 b hb with y | y
      · exact na (z ▸ y)
      · exact y (z ▸ h3)
    refine .L (by rw [ca2.1]; exact h1) ca2.2 (.inl ⟨h3, na⟩) ?_
    rw [List.length_set]
    refine (q4 G2 H2 d2 P2 sg (fun b hb hn => c b hb.1 hn) o2 fun b hb => (c2 b hb).imp id fun z y => z y.1).weaken fun b hb => ?_
    rcases hb with ⟨⟨z1, z2⟩, z3⟩ | z
    · exact ⟨.inl ⟨z1, z3⟩, z2⟩
    · exact ⟨.inr z, p2a b z⟩
/-- down to the list, then to one of its items -/
theorem Ow.lens {K : PySem.W.Frag} {ca : Str → Addr} {G H : Hp} {m M : Mode} {pth : Option Nat} {d : Dt} {v : V} {P : Addr → Prop} {ds : List Dt} {i : Nat} {e : Dt} (o : Ow K ca G H M d v P) (hM : tmode pth M = some (.L m)) (hd : tgetD pth d = some (.lst ds)) (hi : ds[i]? = some e) :
    ∃ a us u Pk, H a = some (.lst us) ∧ us[i]? = some u ∧ ds.length = us.length ∧ P a ∧ ¬ Pk a ∧ stQ H v a (fun b => P b ∧ ¬ Pk b) pth ∧ Ow K ca G H m e u Pk ∧ (∀ b, Pk b → P b) ∧
      ∀ G2 H2 d2 P2, Same G G2 → (∀ b, P b → ¬ Pk b → H2 b = H b ∧ G2 b = none) → Ow K ca G2 H2 m d2 u P2 → (∀ b, P2 b → Pk b ∨ ¬ P b) → Ow K ca G2 H2 M (tputD pth d (.lst (ds.set i d2))) v (fun b => (P b ∧ ¬ Pk b) ∨ P2 b) := by
  cases pth with
  | none =>
    cases hM
    cases hd
    obtain ⟨a, us, u, Pk, e1, h1, q1, hl, pa, na, q2, q3, q4⟩ := o.lensL hi
    exact ⟨a, us, u, Pk, h1, q1, hl, pa, na, e1, q2, q3, q4⟩
  | some k =>
    cases o with
    | @T ms b ws ds0 _ h1 h2 h3 h4 =>
      have hM : ms[k]? = some (.L m) := hM
      have hd : ds0[k]? = some (.lst ds) := hd
      obtain ⟨w, Pw, r1, r2, r3, r4⟩ := h4.focus (k := k) hM hd
      obtain ⟨a, us, u, Pk, e1, g1, q1, hl, pa, na, q2, q3, q4⟩ := r2.lensL hi
      subst e1
      have nb : ¬ Pk b := fun z => (r3 b (q3 b z)).2 rfl
      refine ⟨a, us, u, Pk, g1, q1, hl, (r3 a pa).1, na, ⟨b, ws, rfl, .inl h1, r1, h3, nb⟩, q2, fun x hx => (r3 x (q3 x hx)).1, fun G2 H2 d2 P2 sg c o2 c2 => ?_⟩
      have cb2 := c b h3 nb
      have inner := q4 G2 H2 d2 P2 sg (fun x hx hn => c x (r3 x hx).1 hn) o2 fun x hx => (c2 x hx).imp id fun z y => z (r3 x y).1
      have p2b : ∀ x, P2 x → x ≠ b := fun x hx z => by
        rcases c2 x hx with y | y
        · exact nb (z ▸ y)
        · exact y (z ▸ h3)
      refine .T (by rw [cb2.1]; exact h1) cb2.2 (.inl ⟨h3, nb⟩) ?_
      refine (r4 G2 H2 (.lst (ds.set i d2)) (fun x => (Pw x ∧ ¬ Pk x) ∨ P2 x) sg (fun x hx hn => c x hx.1 fun z => hn (q3 x z)) inner fun x hx => ?_).weaken fun x hx => ?_
      · rcases hx with z | z
        · exact .inl z.1
        · rcases c2 x z with y | y
          · exact .inl (q3 x y)
          · exact .inr fun t => y t.1
      · rcases hx with ⟨⟨z1, z2⟩, z3⟩ | ⟨z1, z2⟩ | z
        · exact ⟨.inl ⟨z1, fun t => z3 (q3 x t)⟩, z2⟩
        · exact ⟨.inl ⟨(r3 x z1).1, z2⟩, (r3 x z1).2⟩
        · exact ⟨.inr z, p2b x z⟩
    | @TL ms b ws ds0 _ h1 h2 h3 h4 =>
      have hM : ms[k]? = some (.L m) := hM
      have hd : ds0[k]? = some (.lst ds) := hd
      obtain ⟨w, Pw, r1, r2, r3, r4⟩ := h4.focus (k := k) hM hd
      obtain ⟨a, us, u, Pk, e1, g1, q1, hl, pa, na, q2, q3, q4⟩ := r2.lensL hi
      subst e1
      have nb : ¬ Pk b := fun z => (r3 b (q3 b z)).2 rfl
      refine ⟨a, us, u, Pk, g1, q1, hl, (r3 a pa).1, na, ⟨b, ws, rfl, .inr h1, r1, h3, nb⟩, q2, fun x hx => (r3 x (q3 x hx)).1, fun G2 H2 d2 P2 sg c o2 c2 => ?_⟩
      have cb2 := c b h3 nb
      have inner := q4 G2 H2 d2 P2 sg (fun x hx hn => c x (r3 x hx).1 hn) o2 fun x hx => (c2 x hx).imp id fun z y => z (r3 x y).1
      have p2b : ∀ x, P2 x → x ≠ b := fun x hx z => by
        rcases c2 x hx with y | y
        · exact nb (z ▸ y)
        · exact y (z ▸ h3)
      refine .TL (by rw [cb2.1]; exact h1) cb2.2 (.inl ⟨h3, nb⟩) ?_
      refine (r4 G2 H2 (.lst (ds.set i d2)) (fun x => (Pw x ∧ ¬ Pk x) ∨ P2 x) sg (fun x hx hn => c x hx.1 fun z => hn (q3 x z)) inner fun x hx => ?_).weaken fun x hx => ?_
      · rcases hx with z | z
        · exact .inl z.1
        · rcases c2 x z with y | y
          · exact .inl (q3 x y)
          · exact .inr fun t => y t.1
      · rcases hx with ⟨⟨z1, z2⟩, z3⟩ | ⟨z1, z2⟩ | z
        · exact ⟨.inl ⟨z1, fun t => z3 (q3 x t)⟩, z2⟩
        · exact ⟨.inl ⟨(r3 x z1).1, z2⟩, (r3 x z1).2⟩
        · exact ⟨.inr z, p2b x z⟩
    | _ => first | (cases hd; done) | (simp [tmode] at hM; done) | (simp [tgetD] at hd)
/-- an owned list, empty or not, as it stands -/
theorem Ow.lst_at {K : PySem.W.Frag} {ca : Str → Addr} {G H : Hp} {m M : Mode} {pth : Option Nat} {d : Dt} {v : V} {P : Addr → Prop} {ds : List Dt} (o : Ow K ca G H M d v P) (hM : tmode pth M = some (.L m)) (hd : tgetD pth d = some (.lst ds)) :
    ∃ a us, H a = some (.lst us) ∧ ds.length = us.length ∧ stQ H v a (fun _ => True) pth := by
  cases pth with
  | none =>
    cases hM
    cases hd
    cases o with
    | @L _ a us _ _ h1 h2 h3 h4 => exact ⟨a, us, h1, h4.len.1, rfl⟩
  | some k =>
    cases o with
    | @T ms b ws ds0 _ h1 h2 h3 h4 =>
      have hM : ms[k]? = some (.L m) := hM
      have hd : ds0[k]? = some (.lst ds) := hd
      obtain ⟨w, Pw, r1, r2, r3, r4⟩ := h4.focus (k := k) hM hd
      cases r2 with
      | @L _ a us _ _ g1 g2 g3 g4 => exact ⟨a, us, g1, g4.len.1, b, ws, rfl, .inl h1, r1, True.intro⟩
    | @TL ms b ws ds0 _ h1 h2 h3 h4 =>
      have hM : ms[k]? = some (.L m) := hM
      have hd : ds0[k]? = some (.lst ds) := hd
      obtain ⟨w, Pw, r1, r2, r3, r4⟩ := h4.focus (k := k) hM hd
      cases r2 with
      | @L _ a us _ _ g1 g2 g3 g4 => exact ⟨a, us, g1, g4.len.1, b, ws, rfl, .inr h1, r1, True.intro⟩
    | _ => first | (cases hd; done) | (simp [tmode] at hM; done) | (simp [tgetD] at hd)
def tPth (K : PySem.W.Frag) (j : Nat) : Option Nat → TE
  | none => tVar j
  | some k => tOp (rIx K) (tVar j) (tC (.int (k : Nat)))
def forML (j : Nat) (pth : Option Nat) (x : Nat) (Fb : Ev → Ot) : Nat → Nat → Ev → Ot
  | 0, _, ρ => .nx ρ
  | n + 1, i, ρ => match ρ[j]? with
    | some (some d) => match tgetD pth d with
      | some (.lst ds) => match ds[i]? with
        | some e => match Fb ((ρ.set j none).set x (some e)) with
          | .nx ρ2 => (match ρ2[x]? with
            | some (some e') => forML j pth x Fb n (i + 1) ((ρ2.set x none).set j (some (tputD pth d (.lst (ds.set i e')))))
            | _ => .no)
          | .ct ρ2 => (match ρ2[x]? with
            | some (some e') => forML j pth x Fb n (i + 1) ((ρ2.set x none).set j (some (tputD pth d (.lst (ds.set i e')))))
            | _ => .no)
          | .bk ρ2 => (match ρ2[x]? with
            | some (some e') => .nx ((ρ2.set x none).set j (some (tputD pth d (.lst (ds.set i e')))))
            | _ => .no)
          | .rt d => .rt d
          | _ => .no
        | none => .no
      | _ => .no
    | _ => .no
def forM (j : Nat) (pth : Option Nat) (x : Nat) (Fb : Ev → Ot) (ρ : Ev) : Ot := match ρ[j]? with
  | some (some d) => match tgetD pth d with
    | some (.lst ds) => forML j pth x Fb ds.length 0 ρ
    | _ => .no
  | _ => .no
abbrev Jc.lpM (J : Jc) (Γ : List Mode) (p : List (Nat × V)) : Jc := { J with gb := Γ, pin := p }
theorem tput_len {pth : Option Nat} {d y : Dt} {ds : List Dt} (h : tgetD pth d = some (.lst ds)) : tgetD pth (tputD pth d y) = some y := by
  cases pth with
  | none => rfl
  | some k =>
    cases d with
    | tup es =>
      have h : es[k]? = some (.lst ds) := h
      show (es.set k y)[k]? = some y
      exact List.getElem?_set_self (List.getElem?_eq_some_iff.mp h).1
    | lst es =>
      have h : es[k]? = some (.lst ds) := h
      show (es.set k y)[k]? = some y
      exact List.getElem?_set_self (List.getElem?_eq_some_iff.mp h).1
    | _ => cases h
theorem ss_forM {j x : Nat} {pth : Option Nat} {F : Ev → Ot} (hj : Γ[j]? = some M) (hM : tmode pth M = some (.L m)) (hx : j ≠ x) (hxl : x < Γ.length) (hpx : J.pin = []) (hb : ∀ v u, SemS (J.lpM (Γ.set x m) [(j, v), (x, u)]) (Γ.set x m) (Γ.set x m) F ts) :
    SemS J Γ Γ (forM j pth x F) (tFor (iSeqA J.K (tPth J.K j pth)) (gName x) ts) := fun {G0 H0 G H ρ σ D} w p => by
  unfold forM at p
  cases hq : ρ[j]? with
  | none => rw [hq] at p; cases p
  | some o =>
  cases o with
  | none => rw [hq] at p; cases p
  | some d =>
  rw [hq] at p
  dsimp only at p
  cases hd : tgetD pth d with
  | none => rw [hd] at p; cases p
  | some dl =>
  rw [hd] at p
  cases dl with
  | lst ds =>
    have p : PostS J G0 H0 G Γ D (forML j pth x F ds.length 0 ρ) := p
    obtain ⟨v0, m0, P0, s1, s2, s3, s4⟩ := w.get hq
    rw [hj] at s2
    cases s2
    obtain ⟨a, us, ha, hl, hv⟩ := s3.lst_at hM hd
    have rd : ∀ Q : VK, Q (.ref a) H → tPth J.K j pth σ H Q := fun Q q => by
      cases pth with
      | none =>
        have hv : v0 = .ref a := hv
        exact ⟨v0, s1, by rw [hv]; exact q⟩
      | some k =>
        obtain ⟨b, ws, rfl, hb, hw, _⟩ := hv
        rcases hb with hb | hb
        · exact ⟨_, s1, .inr (.inl ⟨b, ws, _, _, rfl, rfl, .of hb, L2.atI_nat hw, q⟩)⟩
        · exact ⟨_, s1, .inl ⟨b, ws, _, _, rfl, rfl, .of hb, L2.atI_nat hw, q⟩⟩
    refine .inl (rd _ ⟨a, rfl, ⟨us, .of ha⟩, ?_⟩)
    refine ⟨fun i n σ' Hi => ∃ G' ρ' d' ds', n = ds'.length - i ∧ i ≤ ds'.length ∧ Wd J G0 H0 Γ ρ' σ' G' Hi ∧ Same G G' ∧ ρ'[j]? = some (some d') ∧ tgetD pth d' = some (.lst ds') ∧ σ'[j]? = some (some v0) ∧ (∃ us', Hi a = some (.lst us') ∧ us'.length = ds'.length) ∧ stQ Hi v0 a (fun _ => True) pth ∧ PostS J G0 H0 G' Γ D (forML j pth x F (ds'.length - i) i ρ'),
      ⟨ds.length, G, ρ, d, ds, by simp, Nat.zero_le _, w, Same.refl _, hq, hd, s1, ⟨us, ha, hl.symm⟩, hv, p⟩, ?_⟩
    rintro i n σ' Hi ⟨G', ρ', d', ds', rfl, hi', w', sg, hq', hd', sj, ⟨us', ha', hl'⟩, hv', q'⟩
    by_cases hlt : i < ds'.length
    case neg =>
      have ei : i = ds'.length := by omega
      subst ei
      rw [Nat.sub_self] at q'
      exact .inl ⟨⟨us', .of ha', by omega⟩, PostS.of_nx q' σ' G' Hi (Same.refl _) w'⟩
    have he : ds'[i]? = some ds'[i] := List.getElem?_eq_getElem hlt
    have hn : ds'.length - i = (ds'.length - (i + 1)) + 1 := by omega
    rw [hn] at q'
    unfold forML at q'
    rw [hq'] at q'
    dsimp only at q'
    rw [hd'] at q'
    dsimp only at q'
    rw [he] at q'
    dsimp only at q'
    obtain ⟨Pf, k1, k2, k3⟩ := w'.env
    obtain ⟨v1, m1, t1, t2, t3⟩ := k3 j d' hq'
    rw [hj] at t2
    cases t2
    rw [sj] at t1
    cases t1
    obtain ⟨a2, us2, u, Pk, g1, g2, g3, g4, g5, g6, g7, g8, g9⟩ := t3.lens hM hd' he
    have ea : a2 = a := by
      cases pth with
      | none =>
        have h1 : v0 = .ref a2 := g6
        have h2 : v0 = .ref a := hv'
        rw [h1] at h2
        exact V.ref.inj h2
      | some k =>
        obtain ⟨b, ws, h1, h2, h3, _⟩ := g6
        obtain ⟨b', ws', h1', h2', h3', _⟩ := hv'
        rw [h1] at h1'
        cases h1'
        have ew : ws = ws' := by
          rcases h2 with h2 | h2 <;> rcases h2' with h2' | h2' <;> (rw [h2] at h2'; first | (cases h2'; done) | (cases h2'; rfl))
        subst ew
        rw [h3] at h3'
        cases h3'
        rfl
    subst ea
    rw [ha'] at g1
    cases g1
    refine .inr ⟨⟨us', u, .of ha', g2⟩, fun σ2 H2 => ∃ m', m' < ds'.length - i ∧ ∃ G' ρ' d' ds', m' = ds'.length - (i + 1) ∧ i + 1 ≤ ds'.length ∧ Wd J G0 H0 Γ ρ' σ2 G' H2 ∧ Same G G' ∧ ρ'[j]? = some (some d') ∧ tgetD pth d' = some (.lst ds') ∧ σ2[j]? = some (some v0) ∧ (∃ us', H2 a2 = some (.lst us') ∧ us'.length = ds'.length) ∧ stQ H2 v0 a2 (fun _ => True) pth ∧ PostS J G0 H0 G' Γ D (forML j pth x F (ds'.length - (i + 1)) (i + 1) ρ'), fun σ2 H2 z => z, ?_⟩
    rintro u2 H3 ⟨rfl, y2⟩
    have eu := y2 us' (.of ha')
    rw [g2] at eu
    cases eu
    show ts _ (σ'.set x (some u)) H3
    -- the world of the body
    have lx : ρ'.length = σ'.length := w'.lr
    have lj : j < ρ'.length := (List.getElem?_eq_some_iff.mp hq').1
    have lxl : x < ρ'.length := by rw [← w'.lg]; exact hxl
    let HF : Hp := fun b => if H0 b ≠ none ∨ (Pf j b ∧ ¬ Pk b) then H3 b else none
    have hf0 : ∀ b, HF b = none → H0 b = none := fun b hb => by
      cases z : H0 b with
      | none => rfl
      | some o =>
        have e1 : HF b = H3 b := if_pos (.inl (by rw [z]; intro h; cases h))
        rw [e1, w'.x.h _ _ z] at hb
        cases hb
    have hfin : ∀ b, HF b ≠ none → H0 b ≠ none ∨ (Pf j b ∧ ¬ Pk b) := fun b hb => by
      by_cases z : H0 b ≠ none ∨ (Pf j b ∧ ¬ Pk b)
      · exact z
      · exact absurd (if_neg z) hb
    have hfE : ∀ b, Pf j b → ¬ Pk b → HF b = H3 b := fun b h1 h2 => if_pos (.inr ⟨h1, h2⟩)
    have sHF : Same HF H3 := fun b o hb => by
      by_cases z : H0 b ≠ none ∨ (Pf j b ∧ ¬ Pk b)
      · have e1 : HF b = H3 b := if_pos z
        rw [← e1]; exact hb
      · have e1 : HF b = none := if_neg z
        rw [e1] at hb; cases hb
    have wb : Wd (J.lpM (Γ.set x m) [(j, v0), (x, u)]) G' HF (Γ.set x m) ((ρ'.set j none).set x (some ds'[i])) (σ'.set x (some u)) G' H3 := by
      refine ⟨⟨Same.refl _, sHF, w'.gh, fun _ _ => rfl⟩, by simp only [List.length_set]; exact w'.lg, by simp only [List.length_set]; exact w'.lr, ⟨fun k => if k = x then Pk else if k = j then Pno else Pf k, fun k l b hkl r s => ?_, fun k b r => ?_, fun k c r => ?_⟩, fun k v h => ?_⟩
      · by_cases hk : k = x
        · simp only [hk, if_true] at r
          by_cases hl2 : l = x
          · exact hkl (hk.trans hl2.symm)
          · simp only [hl2, if_false] at s
            by_cases hlj : l = j
            · simp only [hlj, if_true] at s; exact s.elim
            · simp only [hlj, if_false] at s
              exact k1 l j b hlj s (g8 b r)
        · simp only [hk, if_false] at r
          by_cases hkj : k = j
          · simp only [hkj, if_true] at r; exact r.elim
          · simp only [hkj, if_false] at r
            by_cases hl2 : l = x
            · simp only [hl2, if_true] at s
              exact k1 k j b hkj r (g8 b s)
            · simp only [hl2, if_false] at s
              by_cases hlj : l = j
              · simp only [hlj, if_true] at s; exact s.elim
              · simp only [hlj, if_false] at s
                exact k1 k l b hkl r s
      · by_cases hk : k = x
        · simp only [hk, if_true] at r
          obtain ⟨a1, a2', a3⟩ := k2 j b (g8 b r)
          refine ⟨a1, ?_, a3⟩
          exact if_neg fun z => by
            rcases z with z | z
            · exact z a2'
            · exact z.2 r
        · simp only [hk, if_false] at r
          by_cases hkj : k = j
          · simp only [hkj, if_true] at r
            exact r.elim
          · simp only [hkj, if_false] at r
            obtain ⟨a1, a2', a3⟩ := k2 k b r
            refine ⟨a1, ?_, a3⟩
            exact if_neg fun z => by
              rcases z with z | z
              · exact z a2'
              · exact k1 k j b hkj r z.1
      · by_cases hk : k = x
        · subst hk
          have hl3 : k < ρ'.length := by
            have z := (List.getElem?_eq_some_iff.mp r).1
            simpa using z
          rw [List.getElem?_set_self (by rw [List.length_set]; exact hl3)] at r
          cases r
          refine ⟨u, m, List.getElem?_set_self (by rw [← lx]; exact hl3), List.getElem?_set_self (by rw [w'.lg]; exact hl3), ?_⟩
          simp only [if_true]
          exact g7
        · rw [List.getElem?_set_ne (Ne.symm hk)] at r
          by_cases hkj : k = j
          · subst hkj
            rw [List.getElem?_set_self lj] at r
            cases r
          · rw [List.getElem?_set_ne (Ne.symm hkj)] at r
            obtain ⟨v2, m2, x1, x2, x3⟩ := k3 k c r
            refine ⟨v2, m2, by rw [List.getElem?_set_ne (Ne.symm hk)]; exact x1, by rw [List.getElem?_set_ne (Ne.symm hk)]; exact x2, ?_⟩
            simp only [hk, hkj, if_false]
            exact x3
      · rcases List.mem_cons.mp h with h | h
        · cases h
          rw [List.getElem?_set_ne (Ne.symm hx)]
          exact sj
        · cases (List.mem_singleton.mp h)
          exact List.getElem?_set_self (by rw [← lx]; exact lxl)
    -- back
    have back : ∀ {ρ2 : Ev} {σ5 : L2.St} {G5 H5 : Hp} {e' : Dt}, ρ2[x]? = some (some e') → Same G' G5 → Wd (J.lpM (Γ.set x m) [(j, v0), (x, u)]) G' HF (Γ.set x m) ρ2 σ5 G5 H5 →
        Wd J G0 H0 Γ ((ρ2.set x none).set j (some (tputD pth d' (.lst (ds'.set i e'))))) σ5 G5 H5 ∧ σ5[j]? = some (some v0) ∧ (∀ b, Pf j b → ¬ Pk b → H5 b = H3 b) ∧ j < ρ2.length := fun {ρ2 σ5 G5 H5 e'} hx2 sg5 w5 => by
      obtain ⟨Qf, r1, r2, r3⟩ := w5.env
      have sj5 : σ5[j]? = some (some v0) := w5.pn j v0 List.mem_cons_self
      have sx5 : σ5[x]? = some (some u) := w5.pn x u (List.mem_cons_of_mem _ List.mem_cons_self)
      obtain ⟨v5, m5, x1, x2, x3⟩ := r3 x e' hx2
      rw [sx5] at x1
      cases x1
      rw [List.getElem?_set_self hxl] at x2
      cases x2
      have fr : ∀ b, Pf j b → ¬ Pk b → H5 b = H3 b ∧ G5 b = none := fun b h1 h2 => by
        have hne : HF b ≠ none := by rw [hfE b h1 h2]; exact (k2 j b h1).2.2
        constructor
        · have := w5.x.h.at hne
          rw [this]; exact hfE b h1 h2
        · rw [w5.x.base b hne]; exact (k2 j b h1).1
      have lj5 : j < ρ2.length := by
        rw [w5.lr]; exact (List.getElem?_eq_some_iff.mp sj5).1
      have q2 : ∀ b, Qf x b → Pk b ∨ ¬ Pf j b := fun b hb => by
        by_cases z : Pk b
        · exact .inl z
        · refine .inr fun y => ?_
          have := (r2 x b hb).2.1
          rw [hfE b y z] at this
          exact (k2 j b y).2.2 this
      have own := g9 G5 H5 e' (Qf x) sg5 fr x3 q2
      have wl : ρ2.length = Γ.length := by have := w5.lg; rw [List.length_set] at this; exact this.symm
      refine ⟨⟨⟨w'.x.g.trans sg5, fun b o hb => ?_, w5.x.gh, fun b hb => ?_⟩, by simp only [List.length_set]; exact wl.symm, by simp only [List.length_set]; exact w5.lr, ⟨fun k b => if k = j then (Pf j b ∧ ¬ Pk b) ∨ Qf x b else if k = x then False else Qf k b, fun k l b hkl r s => ?_, fun k b r => ?_, fun k c r => ?_⟩, fun k v h => by rw [hpx] at h; cases h⟩, sj5, fun b h1 h2 => (fr b h1 h2).1, lj5⟩
      · have e1 : HF b = H3 b := if_pos (.inl (by rw [hb]; intro h; cases h))
        exact w5.x.h b o (by rw [e1]; exact w'.x.h b o hb)
      · have e1 : HF b ≠ none := by
          have e1 : HF b = H3 b := if_pos (.inl hb)
          rw [e1]; exact w'.x.h.nn hb
        rw [w5.x.base b e1]
        exact w'.x.base b hb
      · have frame : ∀ k b, k ≠ j → k ≠ x → Qf k b → ¬ ((Pf j b ∧ ¬ Pk b) ∨ Qf x b) := fun k b h1 h2 h3 h4 => by
          rcases h4 with h4 | h4
          · have := (r2 k b h3).2.1
            rw [hfE b h4.1 h4.2] at this
            exact (k2 j b h4.1).2.2 this
          · exact r1 k x b h2 h3 h4
        by_cases hk : k = j
        · simp only [hk, if_true] at r
          by_cases hl2 : l = j
          · exact hkl (hk.trans hl2.symm)
          · simp only [hl2, if_false] at s
            by_cases hlx : l = x
            · simp only [hlx, if_true] at s
            · simp only [hlx, if_false] at s
              exact frame l b hl2 hlx s r
        · simp only [hk, if_false] at r
          by_cases hkx : k = x
          · simp only [hkx, if_true] at r
          · simp only [hkx, if_false] at r
            by_cases hl2 : l = j
            · simp only [hl2, if_true] at s
              exact frame k b hk hkx r s
            · simp only [hl2, if_false] at s
              by_cases hlx : l = x
              · simp only [hlx, if_true] at s
              · simp only [hlx, if_false] at s
                exact r1 k l b hkl r s
      · by_cases hk : k = j
        · simp only [hk, if_true] at r
          rcases r with r | r
          · obtain ⟨a1, a2', a3⟩ := k2 j b r.1
            exact ⟨(fr b r.1 r.2).2, a2', by rw [(fr b r.1 r.2).1]; exact a3⟩
          · obtain ⟨a1, a2', a3⟩ := r2 x b r
            exact ⟨a1, hf0 b a2', a3⟩
        · simp only [hk, if_false] at r
          by_cases hkx : k = x
          · simp only [hkx, if_true] at r
          · simp only [hkx, if_false] at r
            obtain ⟨a1, a2', a3⟩ := r2 k b r
            exact ⟨a1, hf0 b a2', a3⟩
      · by_cases hk : k = j
        · subst hk
          rw [List.getElem?_set_self (by rw [List.length_set]; exact lj5)] at r
          cases r
          refine ⟨v0, M, sj5, hj, ?_⟩
          simp only [if_true]
          exact own
        · rw [List.getElem?_set_ne (Ne.symm hk)] at r
          by_cases hkx : k = x
          · subst hkx
            rw [List.getElem?_set_self (by rw [wl]; exact hxl)] at r
            cases r
          · rw [List.getElem?_set_ne (Ne.symm hkx)] at r
            obtain ⟨v2, m2, y1, y2, y3⟩ := r3 k c r
            refine ⟨v2, m2, y1, by rw [List.getElem?_set_ne (Ne.symm hkx)] at y2; exact y2, ?_⟩
            simp only [hk, hkx, if_false]
            exact y3
    have hsj : ∀ (ρ2 : Ev) (e' : Dt), j < ρ2.length → ((ρ2.set x none).set j (some (tputD pth d' (.lst (ds'.set i e')))))[j]? = some (some (tputD pth d' (.lst (ds'.set i e')))) := fun ρ2 e' h => List.getElem?_set_self (by rw [List.length_set]; exact h)
    have nxt : ∀ (ρ2 : Ev), PostS J G0 H0 G' Γ D (match ρ2[x]? with
            | some (some e') => forML j pth x F (ds'.length - (i + 1)) (i + 1) ((ρ2.set x none).set j (some (tputD pth d' (.lst (ds'.set i e')))))
            | _ => .no) → ∀ σ5 G5 H5, Same G' G5 → Wd (J.lpM (Γ.set x m) [(j, v0), (x, u)]) G' HF (Γ.set x m) ρ2 σ5 G5 H5 → ∃ m', m' < ds'.length - i ∧ ∃ G' ρ' d' ds', m' = ds'.length - (i + 1) ∧ i + 1 ≤ ds'.length ∧ Wd J G0 H0 Γ ρ' σ5 G' H5 ∧ Same G G' ∧ ρ'[j]? = some (some d') ∧ tgetD pth d' = some (.lst ds') ∧ σ5[j]? = some (some v0) ∧ (∃ us', H5 a2 = some (.lst us') ∧ us'.length = ds'.length) ∧ stQ H5 v0 a2 (fun _ => True) pth ∧ PostS J G0 H0 G' Γ D (forML j pth x F (ds'.length - (i + 1)) (i + 1) ρ') := fun ρ2 q5 σ5 G5 H5 sg5 w5 => by
      cases hx2 : ρ2[x]? with
      | none => rw [hx2] at q5; cases q5
      | some o =>
      cases o with
      | none => rw [hx2] at q5; cases q5
      | some e' =>
      rw [hx2] at q5
      obtain ⟨w6, sj5, fr, lj5⟩ := back hx2 sg5 w5
      refine ⟨ds'.length - (i + 1), by omega, G5, _, _, ds'.set i e', by rw [List.length_set], by rw [List.length_set]; omega, w6, sg.trans sg5, hsj ρ2 e' lj5, tput_len hd', sj5, ⟨us', by rw [fr a2 g4 g5]; exact ha', by rw [List.length_set]; exact hl'⟩, ?_, by rw [List.length_set]; exact q5.up sg5⟩
      cases pth with
      | none => exact g6
      | some k =>
        obtain ⟨b, ws, h1, h2, h3, h4, h5⟩ := g6
        exact ⟨b, ws, h1, by rw [fr b h4 h5]; exact h2, h3, True.intro⟩
    have cvt : ∀ d, PostS J G0 H0 G' Γ D (.rt d) → ∀ v G5 H5 P, Ext G' HF G5 H5 → Fr G5 HF H5 P → Ow J.K J.ca G5 H5 J.mr d v P → D.rt v H5 := fun d p5 v G5 H5 P e5 f5 o5 => by
      refine p5.of_rt v G5 H5 P ⟨w'.x.g.trans e5.g, fun b o hb => ?_, e5.gh, fun b hb => ?_⟩ (fun b hb => ⟨(f5 b hb).1, hf0 b (f5 b hb).2.1, (f5 b hb).2.2⟩) o5
      · have e1 : HF b = H3 b := if_pos (.inl (by rw [hb]; intro h; cases h))
        exact e5.h b o (by rw [e1]; exact w'.x.h b o hb)
      · have e1 : HF b ≠ none := by
          have e1 : HF b = H3 b := if_pos (.inl hb)
          rw [e1]; exact w'.x.h.nn hb
        rw [e5.base b e1]
        exact w'.x.base b hb
    refine hb v0 u wb ?_
    cases hB : F ((ρ'.set j none).set x (some ds'[i])) with
    | nx r => rw [hB] at q'; exact .nx (nxt r q')
    | ct r => rw [hB] at q'; exact .ct (nxt r q')
    | rt r => rw [hB] at q'; exact .rt (cvt r q')
    | bk r =>
      rw [hB] at q'
      refine .bk fun σ5 G5 H5 sg5 w5 => ?_
      have q5 : PostS J G0 H0 G' Γ D (match r[x]? with
            | some (some e') => .nx ((r.set x none).set j (some (tputD pth d' (.lst (ds'.set i e')))))
            | _ => .no) := q'
      cases hx2 : r[x]? with
      | none => rw [hx2] at q5; cases q5
      | some o =>
      cases o with
      | none => rw [hx2] at q5; cases q5
      | some e' =>
      rw [hx2] at q5
      obtain ⟨w6, sj5, fr, lj5⟩ := back hx2 sg5 w5
      exact q5.of_nx σ5 G5 H5 sg5 w6
    | ex c r => rw [hB] at q'; cases q'
    | no => rw [hB] at q'; cases q'
  | _ => cases p
end
/-! ### parts given up at a return -/
section
variable {J : Jc} {Γ Γ' : List Mode} {m : Mode} {ms us : List Mode} {F : Ev → Rs Dt} {Fs : List (Ev → Rs Dt)} {te : TE} {tr : TA} {G0 H0 G H G' H' : Hp} {ρ : Ev} {σ : L2.St}
def EnvP (J : Jc) (H0 : Hp) (Γ : List Mode) (ρ : Ev) (σ : L2.St) (G H : Hp) (Pf : Nat → Addr → Prop) : Prop := (∀ i j a, i ≠ j → Pf i a → ¬ Pf j a) ∧ (∀ i a, Pf i a → G a = none ∧ H0 a = none ∧ H a ≠ none) ∧ ∀ i d, ρ[i]? = some (some d) → ∃ v m, σ[i]? = some (some v) ∧ Γ[i]? = some m ∧ Ow J.K J.ca G H m d v (Pf i)
theorem EnvP.ext {Pf : Nat → Addr → Prop} (w : EnvP J H0 Γ ρ σ G H Pf) (e : Ext G H G' H') : EnvP J H0 Γ ρ σ G' H' Pf := by
  obtain ⟨h1, h2, h3⟩ := w
  refine ⟨h1, fun i a q => ?_, fun i d q => ?_⟩
  · obtain ⟨a1, a2, a3⟩ := h2 i a q
    exact ⟨by rw [e.base a a3]; exact a1, a2, e.h.nn a3⟩
  · obtain ⟨v, m, s1, s2, s3⟩ := h3 i d q
    refine ⟨v, m, s1, s2, s3.carry e.g fun b hb => ?_⟩
    obtain ⟨a1, a2, a3⟩ := h2 i b hb
    exact ⟨e.h.at a3, by rw [e.base b a3]; exact a1⟩
def SemR (J : Jc) (Γ : List Mode) (us : List Nat) (ms : List Mode) (Fs : List (Ev → Rs Dt)) (ta : TA) : Prop := ∀ ⦃G0 H0 G H : Hp⦄ ⦃ρ : Ev⦄ ⦃σ : L2.St⦄ ⦃Q : List V → Hp → Prop⦄ ⦃Pf : Nat → Addr → Prop⦄, Wd J G0 H0 Γ ρ σ G H → EnvP J H0 Γ ρ σ G H Pf →
  Rs.Post (fun ds => ∀ vs G' H' P, Ext G H G' H' → (∀ b, P b → G' b = none ∧ H' b ≠ none ∧ (H b = none ∨ ∃ i, i ∈ us ∧ Pf i b)) → Ows J.K J.ca G' H' ms ds vs P → Q vs H') (fun c => ∀ H' dx, Same H H' → XR c dx H' → J.W (.ref (J.ca c.1)) dx σ H') (argsE Fs ρ) → ta σ H Q
theorem sr_nil : SemR J Γ [] [] [] tNil := fun {G0 H0 G H ρ σ Q Pf} w _ p => p.of_ok [] G H Pno (Ext.refl w.gh) (fun _ h => h.elim) .nil
theorem sr_new {us : List Nat} (h : SemE J Γ (.o m) F te) (k : SemR J Γ us ms Fs tr) : SemR J Γ us (m :: ms) (F :: Fs) (tCons te tr) := fun {G0 H0 G H ρ σ Q Pf} w env p => by
  refine h w (p.bind.imp (fun d _ q v G1 H1 P1 e1 f1 o1 => ?_) fun _ q => q)
  refine k (w.ext e1) (env.ext e1) (q.bind.imp (fun ds _ q vs G2 H2 P2 e2 f2 o2 => ?_) fun _ q H' dx s => q H' dx (e1.h.trans s))
  refine q.of_ok (v :: vs) G2 H2 (fun b => P1 b ∨ P2 b) (e1.trans e2) (fun b hb => ?_) (.cons (o1.carry e2.g fun b hb => ?_) o2 (fun _ => .inl) (fun _ => .inr) fun b h1 h2 => ?_)
  · rcases hb with hb | hb
    · obtain ⟨a1, a2, a3⟩ := f1 b hb
      exact ⟨by rw [e2.base b a3]; exact a1, e2.h.nn a3, .inl a2⟩
    · obtain ⟨a1, a2, a3⟩ := f2 b hb
      refine ⟨a1, a2, ?_⟩
      rcases a3 with a3 | a3
      · exact .inl (e1.h.free a3)
      · exact .inr a3
  · obtain ⟨a1, a2, a3⟩ := f1 b hb
    exact ⟨e2.h.at a3, by rw [e2.base b a3]; exact a1⟩
  · obtain ⟨a1, a2, a3⟩ := f1 b h1
    obtain ⟨_, _, b3⟩ := f2 b h2
    rcases b3 with b3 | ⟨i, _, b3⟩
    · exact a3 b3
    · exact (env.2.1 i b b3).2.2 a2
theorem sr_var {us : List Nat} {i : Nat} (hm : Γ[i]? = some m) (hi : i ∉ us) (k : SemR J Γ us ms Fs tr) : SemR J Γ (i :: us) (m :: ms) (varE i :: Fs) (tCons (tVar i) tr) := fun {G0 H0 G H ρ σ Q Pf} w env p => by
  obtain ⟨d, e, q⟩ := varE_post p.bind
  obtain ⟨v, m', s1, s2, s3⟩ := env.2.2 i d e
  rw [hm] at s2
  cases s2
  refine ⟨v, s1, ?_⟩
  refine k w env (q.bind.imp (fun ds _ q vs G2 H2 P2 e2 f2 o2 => ?_) fun _ q => q)
  refine q.of_ok (v :: vs) G2 H2 (fun b => Pf i b ∨ P2 b) e2 (fun b hb => ?_) (.cons (s3.carry e2.g fun b hb => ?_) o2 (fun _ => .inl) (fun _ => .inr) fun b h1 h2 => ?_)
  · rcases hb with hb | hb
    · obtain ⟨a1, a2, a3⟩ := env.2.1 i b hb
      exact ⟨by rw [e2.base b a3]; exact a1, e2.h.nn a3, .inr ⟨i, List.mem_cons_self, hb⟩⟩
    · obtain ⟨a1, a2, a3⟩ := f2 b hb
      refine ⟨a1, a2, ?_⟩
      rcases a3 with a3 | ⟨j, j1, j2⟩
      · exact .inl a3
      · exact .inr ⟨j, List.mem_cons_of_mem _ j1, j2⟩
  · obtain ⟨a1, a2, a3⟩ := env.2.1 i b hb
    exact ⟨e2.h.at a3, by rw [e2.base b a3]; exact a1⟩
  · obtain ⟨_, _, b3⟩ := f2 b h2
    rcases b3 with b3 | ⟨j, j1, j2⟩
    · exact (env.2.1 i b h1).2.2 b3
    · exact env.1 i j b (fun z => hi (z ▸ j1)) h1 j2
theorem ss_retT {us : List Nat} (hm : J.mr = .T ms) (h : SemR J Γ us ms Fs tr) (hx : Gx J Γ) (hl : Fs.length ≤ 1000000 := by exact Nat.le_of_ble_eq_true rfl) : SemS J Γ Γ' (retS (tupE Fs)) (tRet (tTup tr)) := fun {G0 H0 G H ρ σ D} w p => by
  obtain ⟨Pf, env⟩ := w.env
  refine h w env ((p.bind w hx).bind.imp (fun ds hd q vs G1 H1 P1 e1 f1 o1 => ⟨?_, fun a ha => ?_⟩) fun _ q => q)
  · rw [← o1.len.1, argsE_len hd]; exact sz1000000 hl
  · have fr : Fr G1 (fun _ => none) H1 P1 := fun b hb => ⟨(f1 b hb).1, rfl, (f1 b hb).2.1⟩
    refine PostS.of_rt q.of_ok (.ref a) G1 (upd H1 a (.tup vs)) (fun b => b = a ∨ P1 b) (w.x.trans (e1.upd ha)) (fun b hb => ?_) (by rw [hm]; exact .T upd_same (e1.gh.free ha) (.inl rfl) (o1.upd fr ha))
    rcases hb with rfl | hb
    · exact ⟨e1.gh.free ha, w.x.h.free (e1.h.free ha), by rw [upd_same]; exact fun z => by cases z⟩
    · obtain ⟨a1, a2, a3⟩ := f1 b hb
      refine ⟨a1, ?_, by rw [upd_ne fun z => a2 (by rw [z]; exact ha)]; exact a2⟩
      rcases a3 with a3 | ⟨i, _, a3⟩
      · exact w.x.h.free a3
      · exact (env.2.1 i b a3).2.1
/-! ### a op b op c -/
def chE (g1 g2 : Dt → Dt → Rs Dt) (Fa Fb Fc : Ev → Rs Dt) (ρ : Ev) : Rs Dt := Fa ρ >>= fun a => Fb ρ >>= fun b => g1 a b >>= fun z => match z with
  | .bl true => Fc ρ >>= fun c => g2 b c
  | .bl false => .ok (.bl false)
  | _ => .no
theorem se_chain {g1 g2 : Dt → Dt → Rs Dt} {r1 r2 : R2} {Fa Fb Fc : Ev → Rs Dt} {ta tb tc : TE} (h1 : Rule2 J.K J.ca g1 r1) (h2 : Rule2 J.K J.ca g2 r2) (n1 : NoEx2 g1) (n2 : NoEx2 g2) (ha : SemE J Γ .B Fa ta) (hb : SemE J Γ .B Fb tb) (hc : SemE J Γ .B Fc tc) : SemE J Γ (.o .F) (chE g1 g2 Fa Fb Fc) (tChain r1 r2 ta tb tc) := fun {G0 H0 G H ρ σ Q} w p => by
  refine ha w (p.bind.imp (fun a _ p1 x G1 H1 _ e1 _ ra => ?_) fun _ q => q)
  refine hb (w.ext e1) (p1.bind.imp (fun b _ p2 y G2 H2 _ e2 _ rb => ?_) fun _ q H' dx s => q H' dx (e1.h.trans s))
  cases q : g1 a b with
  | ok d =>
    rw [q] at p2
    refine h1 H2 a b d x y _ (Rp.mono e2.h ra) rb q fun v _ hv => ?_
    cases d with
    | bl k =>
      have hv2 := hv G2
      cases hv2
      refine ⟨k, rfl, ?_⟩
      cases k with
      | false => exact p2.of_ok (.bl false) G2 H2 Pno (e1.trans e2) Fr.no (.F (hv _))
      | true =>
        rw [if_pos rfl]
        have p2 : Rs.Post _ _ (Fc ρ >>= fun c => g2 b c) := p2
        refine hc (w.ext (e1.trans e2)) (p2.bind.imp (fun c _ p3 u G3 H3 _ e3 _ rc => ?_) fun _ q H' dx s => q H' dx ((e1.trans e2).h.trans s))
        cases q2 : g2 b c with
        | ok d2 =>
          rw [q2] at p3
          exact h2 H3 b c d2 y u Q (Rp.mono e3.h rb) rc q2 fun v2 _ hv2 => p3.of_ok v2 G3 H3 Pno ((e1.trans e2).trans e3) Fr.no (.F (hv2 _))
        | ex c2 => exact absurd q2 (n2 b c c2)
        | no => rw [q2] at p3; cases p3
    | _ => cases p2
  | ex c => exact absurd q (n1 a b c)
  | no => rw [q] at p2; cases p2
/-! ### a list in an owned tuple, read -/
theorem se_tixS {i j : Nat} (hm : Γ[i]? = some (.T ms)) (hj : ms[j]? = some (.L .F)) : SemE J Γ .S (ixE (varE i) (conE (.int (j : Nat)))) (tOp (rIx J.K) (tVar i) (tC (.int (j : Nat)))) := fun {G0 H0 G H ρ σ Q} w p => by
  obtain ⟨d, e, q⟩ := varE_post p.bind
  obtain ⟨v, m, P, s1, s2, s3, _⟩ := w.get e
  rw [hm] at s2
  cases s2
  refine ⟨v, s1, ?_⟩
  have q : Rs.Post _ _ (ixD d (.int (j : Nat))) := q
  cases s3 with
  | NT => cases q
  | @T _ c us ds _ h1 h2 h3 h4 =>
    have q5 : Rs.Post _ _ (match L2.atI ds (j : Nat) with | some d => (Rs.ok d : Rs Dt) | none => .no) := q
    clear q
    cases hd : L2.atI ds (j : Nat) with
    | none => rw [hd] at q5; cases q5
    | some d =>
      rw [hd] at q5
      unfold L2.atI at hd
      cases hk : ixN ds.length (j : Nat) with
      | none => rw [hk] at hd; cases hd
      | some k =>
        have kj : k = j := by
          unfold ixN at hk
          simp at hk
          omega
        subst kj
        rw [hk] at hd
        have hd : ds[k]? = some d := hd
        obtain ⟨u, Pk, q1, q2, q3, _⟩ := h4.focus (k := k) (m := .L .F) hj hd
        refine .inr (.inl ⟨c, us, (k : Nat), u, rfl, rfl, .of h1, by unfold L2.atI; rw [← h4.len.1, hk]; exact q1, q5.of_ok u G H Pno (Ext.refl w.gh) Fr.no (res_S w.gh q2)⟩)
  | @TL _ c us ds _ h1 h2 h3 h4 =>
    have q5 : Rs.Post _ _ (match L2.atI ds (j : Nat) with | some d => (Rs.ok d : Rs Dt) | none => .no) := q
    clear q
    cases hd : L2.atI ds (j : Nat) with
    | none => rw [hd] at q5; cases q5
    | some d =>
      rw [hd] at q5
      unfold L2.atI at hd
      cases hk : ixN ds.length (j : Nat) with
      | none => rw [hk] at hd; cases hd
      | some k =>
        have kj : k = j := by
          unfold ixN at hk
          simp at hk
          omega
        subst kj
        rw [hk] at hd
        have hd : ds[k]? = some d := hd
        obtain ⟨u, Pk, q1, q2, q3, _⟩ := h4.focus (k := k) (m := .L .F) hj hd
        refine .inl ⟨c, us, (k : Nat), u, rfl, rfl, .of h1, by unfold L2.atI; rw [← h4.len.1, hk]; exact q1, q5.of_ok u G H Pno (Ext.refl w.gh) Fr.no (res_S w.gh q2)⟩
theorem r2_lt : Rule2 J.K J.ca (i2 ltI) (rI0 fun i j => .bl (decide (i < j))) := rule_i2 fun i j d H Q q k => by cases q; exact ⟨i, j, rfl, rfl, k _ rfl fun _ => .bl _⟩
theorem n2_lt : NoEx2 (i2 ltI) := nx_i2 fun _ _ _ q => by cases q
theorem r2_le : Rule2 J.K J.ca (i2 leI) (rI0 fun i j => .bl (decide (i ≤ j))) := rule_i2 fun i j d H Q q k => by cases q; exact ⟨i, j, rfl, rfl, k _ rfl fun _ => .bl _⟩
theorem n2_le : NoEx2 (i2 leI) := nx_i2 fun _ _ _ q => by cases q
theorem r2_gt : Rule2 J.K J.ca (i2 gtI) (rI0 fun i j => .bl (decide (j < i))) := rule_i2 fun i j d H Q q k => by cases q; exact ⟨i, j, rfl, rfl, k _ rfl fun _ => .bl _⟩
theorem n2_gt : NoEx2 (i2 gtI) := nx_i2 fun _ _ _ q => by cases q
theorem r2_ge : Rule2 J.K J.ca (i2 geI) (rI0 fun i j => .bl (decide (j ≤ i))) := rule_i2 fun i j d H Q q k => by cases q; exact ⟨i, j, rfl, rfl, k _ rfl fun _ => .bl _⟩
theorem n2_ge : NoEx2 (i2 geI) := nx_i2 fun _ _ _ q => by cases q
/-! ### reversed(range(n)) -/
def rrgI (F : Ev → Rs Dt) (ρ : Ev) : Rs (List Dt) := F ρ >>= fun d => match d with
  | .int j => if intSz j = true then .ok (rangeL 0 j.toNat).reverse else .no
  | _ => .no
theorem walk_rrg {K : PySem.W.Frag} {ca : Str → Addr} (n : Nat) : Walk K ca (Itc (0 + ((n : Nat) : Int) - 1) (-1) n) G (rangeL 0 n).reverse := by
  have hl : (rangeL 0 n).reverse.length = n := by unfold rangeL; rw [List.length_reverse, List.length_map, List.length_range]
  refine ⟨fun i d G1 H1 e g1 g2 => ?_, fun G1 H1 g1 g2 => by rw [hl]; exact Nat.le_refl _⟩
  have hi : i < n := by have := (List.getElem?_eq_some_iff.mp e).1; rw [hl] at this; exact this
  refine ⟨hi, fun x H2 y => ?_⟩
  obtain ⟨y1, y2⟩ := y
  subst y1 y2
  have z : d = .int (0 + ((n : Nat) : Int) - 1 + (i : Nat) * (-1)) := by
    unfold rangeL at e
    rw [List.getElem?_reverse (by rw [List.length_map, List.length_range]; exact hi), List.length_map, List.length_range, List.getElem?_map, List.getElem?_range (by omega)] at e
    have := (Option.some.inj e).symm
    rw [this]
    have e2 : (0 : Int) + ((n - 1 - i : Nat) : Int) = 0 + ((n : Nat) : Int) - 1 + ((i : Nat) : Int) * (-1) := by omega
    exact congrArg Dt.int e2
  subst z
  exact ⟨G1, Ext.refl g2, .int _⟩
theorem si_rrg (h : SemE J Γ .B F te) : SemI J Γ (rrgI F) (iRevR (tRg1 te)) := fun {G0 H0 G H ρ σ R} w p => by
  refine h w (p.bind.imp (fun d _ q v G1 H1 P1 e1 _ r1 => ?_) fun _ q => q)
  cases r1 with
  | int j =>
    have q : Rs.Post _ _ (if intSz j = true then Rs.ok (rangeL 0 j.toNat).reverse else .no) := q
    by_cases c : intSz j = true
    case neg => rw [if_neg c] at q; cases q
    rw [if_pos c] at q
    have b1 := intSz_ok c
    refine ⟨j, rfl, by omega, by omega, by omega, by omega, ?_⟩
    rw [Int.sub_zero]
    exact q.of_ok _ G1 H1 e1 (walk_rrg _)
  | _ => cases q
/-! ### r.append(i), where i is owned and given up -/
def appVS (r i : Nat) (ρ : Ev) : Ot := match ρ[r]?, ρ[i]? with
  | some (some (.lst ds)), some (some y) => if lenSz ds.length = true then .nx ((ρ.set r (some (.lst (ds ++ [y])))).set i none) else .no
  | _, _ => .no
theorem ss_appV {r i : Nat} (hr : Γ[r]? = some (.L m)) (hi : Γ[i]? = some m) (hne : r ≠ i) : SemS J Γ Γ (appVS r i) (tDrop (tBM J.K "list" rAppend (tVar r) (tCons (tVar i) tNil))) := fun {G0 H0 G H ρ σ D} w p => by
  unfold appVS at p
  split at p
  case h_2 => cases p
  case h_1 ds y e1 e2 =>
    by_cases c : lenSz ds.length = true
    case neg => rw [if_neg c] at p; cases p
    rw [if_pos c] at p
    obtain ⟨Pf, h1, h2, h3⟩ := w.env
    obtain ⟨v, m1, s1, s2, s3⟩ := h3 r _ e1
    obtain ⟨y', m2, t1, t2, t3⟩ := h3 i _ e2
    rw [hr] at s2
    cases s2
    rw [hi] at t2
    cases t2
    cases s3 with
    | @L _ a us _ _ k1 k2 k3 k4 =>
      have len := k4.len.1
      refine ⟨.ref a, s1, .inl ⟨rfl, us, .of k1⟩, y', t1, a, us, y', rfl, rfl, k1, by rw [← len]; exact lenSz_lt c, ?_⟩
      have rl : r < ρ.length := (List.getElem?_eq_some_iff.mp e1).1
      have il : i < ρ.length := (List.getElem?_eq_some_iff.mp e2).1
      have na : ∀ j b, j ≠ r → Pf j b → b ≠ a := fun j b hj hb z => h1 j r a hj (z ▸ hb) k3
      refine p.of_nx σ G _ (Same.refl _) ⟨w.x.mut (h2 r a k3).2.1 k2, by rw [List.length_set, List.length_set]; exact w.lg, by rw [List.length_set, List.length_set]; exact w.lr, ⟨fun j b => if j = r then Pf r b ∨ Pf i b else if j = i then False else Pf j b, fun j k b hjk x1 x2 => ?_, fun j b x1 => ?_, fun j d x1 => ?_⟩, w.pn⟩
      · by_cases q1 : j = r
        · have q2 : k ≠ r := fun z => hjk (q1.trans z.symm)
          simp only [q1, if_true] at x1
          simp only [q2, if_false] at x2
          by_cases q3 : k = i
          · simp only [q3, if_true] at x2
          · simp only [q3, if_false] at x2
            rcases x1 with x1 | x1
            · exact h1 r k b (Ne.symm q2) x1 x2
            · exact h1 i k b (Ne.symm q3) x1 x2
        · simp only [q1, if_false] at x1
          by_cases q3 : j = i
          · simp only [q3, if_true] at x1
          · simp only [q3, if_false] at x1
            by_cases q2 : k = r
            · simp only [q2, if_true] at x2
              rcases x2 with x2 | x2
              · exact h1 j r b q1 x1 x2
              · exact h1 j i b q3 x1 x2
            · simp only [q2, if_false] at x2
              by_cases q4 : k = i
              · simp only [q4, if_true] at x2
              · simp only [q4, if_false] at x2
                exact h1 j k b hjk x1 x2
      · have nn : ∀ j, Pf j b → G b = none ∧ H0 b = none ∧ (upd H a (.lst (us ++ [y']))) b ≠ none := fun j hb => by
          obtain ⟨z1, z2, z3⟩ := h2 j b hb
          refine ⟨z1, z2, ?_⟩
          by_cases q : b = a
          · rw [q, upd_same]; exact fun z => by cases z
          · rw [upd_ne q]; exact z3
        by_cases q1 : j = r
        · simp only [q1, if_true] at x1
          rcases x1 with x1 | x1
          · exact nn r x1
          · exact nn i x1
        · simp only [q1, if_false] at x1
          by_cases q3 : j = i
          · simp only [q3, if_true] at x1
          · simp only [q3, if_false] at x1
            exact nn j x1
      · by_cases q3 : j = i
        · subst q3
          rw [List.getElem?_set_self (by rw [List.length_set]; exact il)] at x1
          cases x1
        · rw [List.getElem?_set_ne (Ne.symm q3)] at x1
          by_cases q1 : j = r
          · subst q1
            rw [List.getElem?_set_self rl] at x1
            have e : d = .lst (ds ++ [y]) := by
              have := Option.some.inj (Option.some.inj x1)
              exact this.symm
            subst e
            refine ⟨.ref a, .L m, s1, hr, ?_⟩
            simp only [if_true]
            have oa : Ows J.K J.ca G (upd H a (.lst (us ++ [y']))) (List.replicate ds.length m) ds us (fun b => Pf j b ∧ b ≠ a) := k4.carry (Same.refl _) fun b hb => ⟨upd_ne hb.2, (h2 j b hb.1).1⟩
            have ob : Ow J.K J.ca G (upd H a (.lst (us ++ [y']))) m y y' (Pf i) := t3.carry (Same.refl _) fun b hb => ⟨upd_ne (na i b (Ne.symm q3) hb), (h2 i b hb).1⟩
            refine .L upd_same k2 (.inl k3) ?_
            rw [List.length_append, List.length_singleton, List.replicate_succ']
            refine Ows.append (P1 := fun b => Pf j b ∧ b ≠ a) (P2 := Pf i) oa (.cons (P1 := Pf i) (P2 := Pno) ob .nil (fun _ z => z) (fun _ z => z.elim) (fun _ _ z => z)) (fun b hb => ⟨.inl hb.1, hb.2⟩) (fun b hb => ⟨.inr hb, na i b (Ne.symm q3) hb⟩) fun b x1 x2 => h1 j i b q3 x1.1 x2
          · rw [List.getElem?_set_ne (Ne.symm q1)] at x1
            obtain ⟨v2, m2, u1, u2, u3⟩ := h3 j d x1
            refine ⟨v2, m2, u1, u2, ?_⟩
            simp only [q1, q3, if_false]
            exact u3.carry (Same.refl _) fun b hb => ⟨upd_ne (na j b q1 hb), (h2 j b hb).1⟩
end
/-! ### owned results of calls on owned lists of frozen items -/
mutual
def flatD : Dt → Bool
  | .non => true
  | .bl _ => true
  | .int _ => true
  | .str _ => true
  | .tup ds => flatDs ds
  | _ => false
def flatDs : List Dt → Bool
  | [] => true
  | d :: ds => flatD d && flatDs ds
end
mutual
theorem Rp.flat {K : PySem.W.Frag} {ca : Str → Addr} {G2 G1 : Hp} (hg : ∀ b o, G2 b = some o → (∀ vs, o ≠ .lst vs) → G1 b = some o) : ∀ {d : Dt} {v : V}, flatD d = true → Rp K ca G2 d v → Rp K ca G1 d v
  | .non, _, _, h => by cases h; exact .non
  | .bl b, _, _, h => by cases h; exact .bl b
  | .int i, _, _, h => by cases h; exact .int i
  | .str x, _, _, h => by cases h; exact .str x
  | .tup ds, _, c, h => by
    cases h with
    | tup h1 h2 => exact .tup (hg _ _ h1 fun vs z => by cases z) (Rps.flat hg (by simpa only [flatD] using c) h2)
  | .lst _, _, c, _ => by simp [flatD] at c
  | .scr _, _, c, _ => by simp [flatD] at c
  | .ktp _, _, c, _ => by simp [flatD] at c
  | .ins _ _ _, _, c, _ => by simp [flatD] at c
  | .dic _ _, _, c, _ => by simp [flatD] at c
  | .dit _ _, _, c, _ => by simp [flatD] at c
theorem Rps.flat {K : PySem.W.Frag} {ca : Str → Addr} {G2 G1 : Hp} (hg : ∀ b o, G2 b = some o → (∀ vs, o ≠ .lst vs) → G1 b = some o) : ∀ {ds : List Dt} {vs : List V}, flatDs ds = true → Rps K ca G2 ds vs → Rps K ca G1 ds vs
  | [], _, _, h => by cases h; exact .nil
  | d :: ds, _, c, h => by
    have c : flatD d = true ∧ flatDs ds = true := by simpa only [flatDs, Bool.and_eq_true] using c
    cases h with
    | cons h1 h2 => exact .cons (Rp.flat hg c.1 h1) (Rps.flat hg c.2 h2)
end
/-- a list of flat things, or a flat thing -/
def flatOk : Mode → Dt → Bool
  | .F, d => flatD d
  | .L .F, .lst ds => flatDs ds
  | _, _ => false
theorem Rps.ofF {K : PySem.W.Frag} {ca : Str → Addr} {G1 G2 H2 : Hp} (hg : ∀ b o, G2 b = some o → (∀ vs, o ≠ .lst vs) → G1 b = some o) : ∀ {ds : List Dt} {vs : List V} {P : Addr → Prop}, flatDs ds = true → Ows K ca G2 H2 (List.replicate ds.length .F) ds vs P → Ows K ca G1 H2 (List.replicate ds.length .F) ds vs P
  | [], _, _, _, h => by cases h; exact .nil
  | d :: ds, _, P, c, h => by
    have c : flatD d = true ∧ flatDs ds = true := by simpa only [flatDs, Bool.and_eq_true] using c
    rw [List.length_cons, List.replicate_succ] at h ⊢
    cases h with
    | cons h1 h2 q1 q2 q3 =>
      cases h1 with
      | F h1 => exact .cons (.F (Rp.flat hg c.1 h1)) (Rps.ofF hg c.2 h2) q1 q2 q3
theorem Ow.flat {K : PySem.W.Frag} {ca : Str → Addr} {G1 G2 H2 : Hp} (hg : ∀ b o, G2 b = some o → (∀ vs, o ≠ .lst vs) → G1 b = some o) {m : Mode} {d : Dt} {v : V} {P : Addr → Prop} (c : flatOk m d = true) (hp : ∀ b, P b → G1 b = none) (h : Ow K ca G2 H2 m d v P) : Ow K ca G1 H2 m d v P := by
  cases h with
  | F h => exact .F (Rp.flat hg (by simpa only [flatOk] using c) h)
  | NL => exact .NL
  | NT => exact .NT
  | @L m a vs ds _ h1 h2 h3 h4 =>
    cases m with
    | F => exact .L h1 (hp _ h3) h3 (Rps.ofF hg (by simpa only [flatOk] using c) h4)
    | _ => simp [flatOk] at c
  | T => simp [flatOk] at c
  | TL => simp [flatOk] at c
  | I => simp [flatOk] at c
  | K => simp [flatOk] at c
  | KT => simp [flatOk] at c
def RpsA (K : PySem.W.Frag) (ca : Str → Addr) (G H : Hp) (ds : List Dt) (us : List V) : Prop := ∃ Gx, Same G Gx ∧ Same Gx H ∧ (∀ b o, Gx b = some o → G b = some o ∨ ∃ vs, o = .lst vs) ∧ Rps K ca Gx ds us
section
variable {J : Jc} {Γ : List Mode} {m : Mode} {F : Ev → Rs Dt} {Fs : List (Ev → Rs Dt)} {te : TE} {tr : TA} {G0 H0 G H G' H' : Hp} {ρ : Ev} {σ : L2.St}
def SemSA (J : Jc) (Γ : List Mode) (Fs : List (Ev → Rs Dt)) (ta : TA) : Prop := ∀ ⦃G0 H0 G H : Hp⦄ ⦃ρ : Ev⦄ ⦃σ : L2.St⦄ ⦃Q : List V → Hp → Prop⦄, Wd J G0 H0 Γ ρ σ G H →
  Rs.Post (fun ds => ∀ us G' H', Ext G H G' H' → RpsA J.K J.ca G' H' ds us → Q us H') (fun c => ∀ H' dx, Same H H' → XR c dx H' → J.W (.ref (J.ca c.1)) dx σ H') (argsE Fs ρ) → ta σ H Q
theorem sa_nil : SemSA J Γ [] tNil := fun {G0 H0 G H ρ σ Q} w p => p.of_ok [] G H (Ext.refl w.gh) ⟨G, Same.refl _, w.gh, fun _ _ h => .inl h, .nil⟩
theorem sa_F (h : SemE J Γ (.o .F) F te) (k : SemSA J Γ Fs tr) : SemSA J Γ (F :: Fs) (tCons te tr) := fun {G0 H0 G H ρ σ Q} w p => by
  refine h w (p.bind.imp (fun d _ q v G1 H1 P1 e1 _ o1 => ?_) fun _ q => q)
  cases o1 with
  | F r1 =>
    refine k (w.ext e1) (q.bind.imp (fun ds _ q us G2 H2 e2 ra => ?_) fun _ q H' dx s => q H' dx (e1.h.trans s))
    obtain ⟨Gx, a1, a2, a3, a4⟩ := ra
    exact q.of_ok (v :: us) G2 H2 (e1.trans e2) ⟨Gx, a1, a2, a3, .cons (r1.mono (e2.g.trans a1)) a4⟩
def lstA (F : Ev → Rs Dt) (ρ : Ev) : Rs Dt := F ρ >>= fun d => match d with
  | .lst ds => .ok (.lst ds)
  | _ => .no
theorem sa_S (h : SemE J Γ .S F te) (k : SemSA J Γ Fs tr) : SemSA J Γ (lstA F :: Fs) (tCons te tr) := fun {G0 H0 G H ρ σ Q} w p => by
  refine h w ((Rs.Post.bind (r := F ρ) p.bind).imp (fun d _ q v G1 H1 P1 e1 _ o1 => ?_) fun _ q => q)
  cases d with
  | lst ds0 =>
    have q := q.of_ok
    obtain ⟨a, vs, rfl, sq, r1⟩ := o1.2 ds0 (.inl rfl)
    have h1 : H1 a = some (.lst vs) := by
      rcases sq with ⟨_, h⟩ | ⟨h, _⟩ | ⟨h, _⟩
      · exact h
      · cases h
      · cases h
    refine k (w.ext e1) (q.bind.imp (fun ds _ q us G2 H2 e2 ra => ?_) fun _ q H' dx s => q H' dx (e1.h.trans s))
    obtain ⟨Gx, a1, a2, a3, a4⟩ := ra
    have ha : H2 a = some (.lst vs) := e2.h _ _ h1
    have xa : ∀ u, Gx a = some u → u = .lst vs := fun u hu => by
      have := a2 a u hu
      rw [ha] at this
      exact (Option.some.inj this).symm
    have sx : Same Gx (upd Gx a (.lst vs)) := fun c u hc => by
      by_cases z : c = a
      · subst z
        rw [upd_same, xa u hc]
      · rw [upd_ne z]; exact hc
    refine q.of_ok (.ref a :: us) G2 H2 (e1.trans e2) ⟨upd Gx a (.lst vs), a1.trans sx, fun c u hc => ?_, fun c o hc => ?_, .cons (.lst upd_same (r1.mono ((e2.g.trans a1).trans sx))) (a4.mono sx)⟩
    · by_cases z : c = a
      · subst z
        rw [upd_same] at hc
        rw [ha]; exact hc
      · rw [upd_ne z] at hc
        exact a2 c u hc
    · by_cases z : c = a
      · subst z
        rw [upd_same] at hc
        exact .inr ⟨vs, (Option.some.inj hc).symm⟩
      · rw [upd_ne z] at hc
        exact a3 c o hc
  | _ => cases q
def flatR (m : Mode) (r : Rs Dt) : Rs Dt := r >>= fun d => if flatOk m d = true then .ok d else .no
def callSE (m : Mode) (Fn : List Dt → Rs Dt) (Fs : List (Ev → Rs Dt)) (ρ : Ev) : Rs Dt := argsE Fs ρ >>= fun ds => flatR m (Fn ds)
variable {Fn : List Dt → Rs Dt} {np : Nat}
theorem se_callS (h : SemSA J Γ Fs tr) (hl : Fs.length = np := by rfl) : SemE J Γ (.o m) (callSE m Fn Fs) (tCallS (spM J.K J.ca np m Fn) (WE J.W) tr) := fun {G0 H0 G H ρ σ Q} w p => by
  refine h w (p.bind.imp (fun ds hd q us G1 H1 e1 ra => ?_) fun _ q => q)
  obtain ⟨Gx, a1, a2, a3, a4⟩ := ra
  refine ⟨by rw [← a4.length, argsE_len hd]; exact hl, Gx, ds, a2, a4, (Rs.Post.bind q).imp (fun d _ q v G2 H2 P2 e2 f2 o2 => ?_) fun c q dx H2 s => q H2 dx (e1.h.trans s)⟩
  by_cases c : flatOk m d = true
  case neg =>
    rw [if_neg c] at q
    cases q
  rw [if_pos c] at q
  have g1 : Same G1 (fun b => if Gx b ≠ none ∧ G1 b = none then none else G2 b) := fun b u hb => by
    have nb : ¬ (Gx b ≠ none ∧ G1 b = none) := fun z => by rw [z.2] at hb; cases hb
    show (if Gx b ≠ none ∧ G1 b = none then none else G2 b) = some u
    rw [if_neg nb]
    exact e2.g b u (a1 b u hb)
  have keep : ∀ b o, G2 b = some o → (∀ vs, o ≠ .lst vs) → (if Gx b ≠ none ∧ G1 b = none then none else G2 b) = some o := fun b o hb hn => by
    have nb : ¬ (Gx b ≠ none ∧ G1 b = none) := fun z => by
      cases hx : Gx b with
      | none => exact z.1 hx
      | some u =>
        have := e2.g b u hx
        rw [hb] at this
        cases this
        rcases a3 b o hx with y | ⟨vs, y⟩
        · rw [z.2] at y; cases y
        · exact hn vs y
    rw [if_neg nb]
    exact hb
  have sub : ∀ b, G2 b = none → (if Gx b ≠ none ∧ G1 b = none then none else G2 b) = none := fun b hb => by
    by_cases z : Gx b ≠ none ∧ G1 b = none
    · rw [if_pos z]
    · rw [if_neg z]; exact hb
  have ex : Ext G1 H1 (fun b => if Gx b ≠ none ∧ G1 b = none then none else G2 b) H2 := ⟨g1, e2.h, fun b u hb => by
    have hb : (if Gx b ≠ none ∧ G1 b = none then none else G2 b) = some u := hb
    by_cases z : Gx b ≠ none ∧ G1 b = none
    · rw [if_pos z] at hb; cases hb
    · rw [if_neg z] at hb; exact e2.gh b u hb, fun b hb => by
    show (if Gx b ≠ none ∧ G1 b = none then none else G2 b) = G1 b
    have base := e2.base b hb
    by_cases z : Gx b ≠ none ∧ G1 b = none
    · rw [if_pos z, z.2]
    · rw [if_neg z, base]
      cases hg : G1 b with
      | some u => exact a1 b u hg
      | none =>
        cases hx : Gx b with
        | none => rfl
        | some u => exact absurd ⟨by rw [hx]; exact fun y => (by cases y), hg⟩ z⟩
  exact q.of_ok v _ H2 P2 (e1.trans ex) (fun b hb => ⟨sub b (f2 b hb).1, e1.h.free (f2 b hb).2.1, (f2 b hb).2.2⟩) (o2.flat keep c fun b hb => sub b (f2 b hb).1)
/-! ### an item of an owned list of lists, read -/
theorem se_lixS {i : Nat} {Fb : Ev → Rs Dt} {tb : TE} (hm : Γ[i]? = some (.L (.L .F))) (hb : SemE J Γ .B Fb tb) : SemE J Γ .S (ixE (varE i) Fb) (tOp (rIx J.K) (tVar i) tb) := fun {G0 H0 G H ρ σ Q} w p => by
  obtain ⟨d, e, q⟩ := varE_post p.bind
  obtain ⟨v0, m0, P0, s0, _, _, _⟩ := w.get e
  refine ⟨v0, s0, ?_⟩
  refine hb w ((Rs.Post.bind (r := Fb ρ) q).imp (fun b _ p2 y G2 H2 _ e2 _ rb => ?_) fun _ q => q)
  have w2 := w.ext e2
  obtain ⟨v, m, P, s1, s2, s3, _⟩ := w2.get e
  rw [s0] at s1
  cases s1
  rw [hm] at s2
  cases s2
  cases s3 with
  | NL => cases rb <;> cases p2
  | @L _ c us ds _ h1 h2 h3 h4 =>
    cases rb with
    | int j =>
      have p2 : Rs.Post _ _ (match L2.atI ds j with | some d => (Rs.ok d : Rs Dt) | none => .no) := p2
      cases hd : L2.atI ds j with
      | none => rw [hd] at p2; cases p2
      | some d =>
        rw [hd] at p2
        unfold L2.atI at hd
        cases hk : ixN ds.length j with
        | none => rw [hk] at hd; cases hd
        | some k =>
          rw [hk] at hd
          have hd : ds[k]? = some d := hd
          obtain ⟨u, Pk, q1, q2, q3, _⟩ := h4.focus (k := k) (m := .L .F) (by rw [List.getElem?_replicate, if_pos (List.getElem?_eq_some_iff.mp hd).1]) hd
          refine .inl ⟨c, us, j, u, rfl, rfl, .of h1, by unfold L2.atI; rw [← h4.len.1, hk]; exact q1, p2.of_ok u G2 H2 Pno e2 Fr.no (res_S e2.gh q2)⟩
    | _ => cases p2
end
end Pm
/-! sorted(set(xs)), xs a list of ints, fewer than 64 -/
namespace L2
open PySem PySem.Spec PyProof.Rows
section
variable {P : Program} {w : World} {A : Around} {E : Value → Shared → Prop} {s : Shared}
abbrev setObj0 (w : World) : Obj := { cls := .type "set", dict := none, data := .set #[] 0 (.fresh 0 0 (!w.params.followText "set-order")) }
theorem pm_set_list {l : Addr} {items : Array Value} (ns : List Int) {Q : Value → Shared → Prop} (hh : A.handled = none) (hl : s.heap.IsList l items) (hit : IntsAre items.toList ns) (hb : ns.length + 1 < scanBound)
    (h : ∀ (h' : Heap) (tk c : Nat), SetR w h' s.heap.objs.size (fun j => decide (j ∈ ns)) c → c ≤ ns.length → (∀ b o, s.heap.get? b = some o → h'.get? b = some o) → Q (.ref s.heap.objs.size) { s with heap := h', toks := tk }) :
    wpAny (model P w) A (call (.type "set") [.ref l]) Q E s := by
  have isz : items.size = ns.length := by
    have q := IntsAre.length hit
    rw [Array.length_toList] at q
    exact q
  have made := F.called_set.made
  have sub := F.called_set.sub
  obtain ⟨c0, tl, mro⟩ := F.called_set.mro
  refine wpAny_call (codeAny_of_tree ?_)
  show wpAny _ _ (callAny (.type "set") _) _ _ _
  refine wpAny_pure ⟨Code.quiet_builtin _ (by decide +kernel), codeAny_builtin F.entry_type_call ?_⟩
  rw [Around.under_plain (weight_type_call_type "set" [.ref l] []) rfl]
  have f1 := F.called_set.notType
  have f2 := F.called_set.canCreate
  have f3 := F.typeCall_set_1 (.ref l)
  repeat (any_goals (first | assumption | wp_step))
  refine codeAny_mono (code_set_led1 (.ref l) (E := E) (Q₁ := fun obj s₁ => obj = .ref s.heap.objs.size ∧ s₁ = { s with heap := s.heap.push (setObj0 w) }) ⟨rfl, rfl⟩) fun r s₁ hr => ?_
  cases r with
  | error e => exact hr
  | ok fl =>
  cases fl with
  | ret obj =>
    obtain ⟨rfl, rfl⟩ := hr
    have gS : (s.heap.push (setObj0 w)).get? s.heap.objs.size = some (setObj0 w) := Heap.get?_push_size _ rfl
    have tS : Shared.TypeIs { s with heap := s.heap.push (setObj0 w) } (.ref s.heap.objs.size) "set" := ⟨_, gS, rfl⟩
    have i1 := F.called_set.init.lookup
    have i2 := F.called_set.init.bind (.ref s.heap.objs.size)
    repeat (any_goals (first | assumption | wp_step))
    refine codeAny_mono (codeAny_call_builtin (R := wants (fun r s₂ => r = .none ∧ ∃ h' tk c, s₂ = { s with heap := h', toks := tk } ∧ SetR w h' s.heap.objs.size (fun j => decide (j ∈ ns)) c ∧ c ≤ ns.length ∧
        (∀ b o, s.heap.get? b = some o → h'.get? b = some o)) E) F.called_set.init.plain F.entry_set_init (check_set_init_1 tS ?_)) fun r₂ s₂ hr₂ => ?_
    · obtain ⟨ol, hol, hcl, nl, hdl⟩ := hl
      obtain ⟨ocls, odict, odata, oslots⟩ := ol
      simp only at hcl hdl
      subst hcl
      subst hdl
      have lt : l < s.heap.objs.size := Heap.lt_size hol
      have hol' : (s.heap.push (setObj0 w)).get? l = some { cls := .type "list", dict := odict, data := .seq items nl, slots := oslots } := Heap.get?_push_of_some _ hol
      have n1 := F.sub_list_set
      have n2 := F.sub_list_frozenset
      have n3 : (Value.type "list" == Value.type "dict") = false := by decide
      have isl : (s.heap.push (setObj0 w)).IsList l items := ⟨_, hol', rfl, nl, rfl⟩
      unfold Builtin.«set.__init__» noKeywords Builtin.Frozenset.updateFrom
      generalize hPI : pyIter = PI
      wp_walk
      subst hPI
      refine wpAny_pyIter_list isl ?_
      refine wpAny_bind (wpAny_runValue ?_)
      have h3 : A.in1.in1.in1.handled = none := by simp [hh]
      have apart : l ≠ (s.heap.push (setObj0 w)).objs.size := by
        rw [Heap.size_push]
        exact Nat.ne_of_lt (Nat.lt_succ_of_lt lt)
      have out : s.heap.objs.size ∉ [(s.heap.push (setObj0 w)).objs.size, l] := by
        rw [Heap.size_push]
        simp only [List.mem_cons, List.mem_singleton, List.not_mem_nil, or_false, not_or]
        exact ⟨Nat.ne_of_lt (Nat.lt_succ_self _), Nat.ne_of_gt lt⟩
      have hval : ∀ (i : Nat) (v : Value), items[i]? = some v → ∃ k t, ns[i]? = some k ∧ v = .int k t := fun i v hv => by
        have hi : i < ns.length := by rw [← isz]; exact (Array.getElem?_eq_some_iff.mp hv).1
        obtain ⟨t, e⟩ := IntsAre.int_at hit i v (by rw [Array.getElem?_toList]; exact hv)
        refine ⟨ns[i], t, List.getElem?_eq_getElem hi, ?_⟩
        rw [e, List.getD_eq_getElem?_getD, List.getElem?_eq_getElem hi] <;> rfl
      refine set_update_ints ((Walks.list h3 _ l apart items).toS) s.heap.objs.size out ns isz hb hval (items.size - 0) 0 _ (by omega) (Nat.zero_le _)
        ⟨⟨_, Heap.get?_push_size _ rfl, rfl, rfl⟩, isl.push _⟩ ?hS0 ?hR
      case hS0 => exact ⟨0, Nat.le_refl 0, setR_new_at (Heap.get?_push_of_some _ gS)⟩
      case hR =>
        intro s' c' hm hc' hS'
        obtain ⟨h', g2, d', tk', os'⟩ := s'
        have eg : g2 = s.gens := hm.gens
        have ed : d' = s.drawn := hm.drawn
        have eo : os' = s.os := hm.os
        subst eg
        subst ed
        subst eo
        show wpAny _ _ _ _ _ _
        refine wpAny_pure ?_
        show wpAny _ _ (ret Value.none) _ _ _
        rw [isz] at hc'
        refine wpAny_pure ⟨rfl, h', tk', c', rfl, hS', hc', fun b o e => ?_⟩
        have b0 : b < s.heap.objs.size := Heap.lt_size e
        have b2 : b ≠ (s.heap.push (setObj0 w)).objs.size := by
          rw [Heap.size_push]
          exact Nat.ne_of_lt (Nat.lt_succ_of_lt b0)
        exact hm.heap b o (by simp only [List.mem_cons, List.mem_singleton, List.not_mem_nil, or_false, not_or]; exact ⟨Nat.ne_of_lt b0, b2⟩) (Heap.get?_push_of_some _ (Heap.get?_push_of_some _ e))
    · cases r₂ with
      | error e => exact hr₂
      | ok fl₂ =>
        cases fl₂ with
        | ret r =>
          obtain ⟨rfl, h', tk, c', rfl, hS', hc', hk'⟩ := hr₂
          repeat (any_goals (first | assumption | wp_step))
          exact h _ _ _ hS' hc' hk'
        | _ => exact hr₂.elim
  | _ => exact hr.elim
end
end L2
namespace Pm
open PySem PySem.Spec PyProof.Rows L2
open Classical
def tSortSet (K : PySem.W.Frag) (ta : TE) : TE := fun σ H Q => ta σ H fun x H1 => ∃ (l : Addr) (ns : List Int), x = V.ref l ∧ SqL K H1 l (ns.map V.int) ∧ ns.length < 64 ∧
  ∀ (ms : List Int) (p : Addr), ms.Pairwise (· < ·) → (∀ k, k ∈ ms ↔ k ∈ ns) → H1 p = none → Q (.ref p) (upd H1 p (.lst (ms.map V.int)))
section
variable {X : Cx}
theorem pe_sortSet {a : Expr} {ta : TE} {p p2 q pos : Pos} (hc : X.calm = true) (hg : Gl X "sorted") (hm : X.mg "sorted" = none) (hg2 : Gl X "set") (hm2 : X.mg "set" = none) (ha : PE X a ta)
    (na : starEach [a] X.env = (false, eval a X.env) :: starEach [] X.env := by rfl)
    (two : starEach [.Call (.Name "set" p2) [a] [] q] X.env = (false, eval (.Call (.Name "set" p2) [a] [] q) X.env) :: starEach [] X.env := by rfl) : PE X (.Call (.Name "sorted" p) [.Call (.Name "set" p2) [a] [] q] [] pos) (tSortSet X.K ta) := by
  refine ⟨fun pins s σ H Q I h => ?_⟩
  refine Call_ (ld_blt I hg hm PyProof.Rows.boot_sorted ?_)
  refine PyProof.Rows.callWith_builtin1 (PyProof.Rows.args_cons ?_ two) rfl rfl
  refine Call_ (ld_blt I hg2 hm2 PyProof.Rows.boot_set ?_)
  refine PyProof.Rows.callWith_type1 (PyProof.Rows.args_cons (thn (ha.run pins s σ H _ I h) fun v s1 ⟨x, H1, I1, r1, q1⟩ => PyProof.Rows.args_nil ?_) na) na rfl
  obtain ⟨l, ns, rfl, hq, h1, q1⟩ := q1
  cases r1
  obtain ⟨its, r, pl, hz⟩ := I1.list hq
  refine pm_set_list ns (I1.ok.hd hc) pl.isList (by simpa using r.ints) (by unfold scanBound; omega) fun h' tk c hS hc' hk => ?_
  refine PyProof.Rows.args_nil ?_
  have I2 : Inv X pins σ H1 { s1 with heap := h', toks := tk } := I1.kept hk
  refine sorted_set hS (I2.ok.hd hc) (by omega) fun s' p out c2 ms k g o hp hgp hi hs hmem hl => ?_
  have hlen : (ms.map V.int).length ≤ sizeLine := by rw [List.length_map, hl, sizeLine_eq]; omega
  have hn : H1 p = none := I2.hok.fresh hp
  have J : Inv X pins σ (upd H1 p (.lst (ms.map V.int))) { { s1 with heap := h', toks := tk } with heap := s'.heap, gens := s'.gens, drawn := s'.drawn, toks := s'.toks } :=
    I2.call (ch := []) (Un.laid k hp hn) (I2.hok.laid k hp ⟨hlen, out.toList, c2, vals_of_ints hi, hgp⟩) (by rw [g]; exact I2.bare) (fun _ z => nomatch z)
  have e : s' = { { s1 with heap := h', toks := tk } with heap := s'.heap, gens := s'.gens, drawn := s'.drawn, toks := s'.toks } := by
    cases s'
    cases s1
    cases o
    rfl
  rw [e]
  exact ⟨.ref p, _, J, rfl, q1 ms p hs (fun k => by rw [hmem k]; exact decide_eq_true_iff) hn⟩
end
/-- the least first, each once -/
def insU (x : Int) : List Int → List Int
  | [] => [x]
  | y :: ys => if x < y then x :: y :: ys else if x = y then y :: ys else y :: insU x ys
def sortU (ns : List Int) : List Int := ns.foldr insU []
theorem insU_mem {x k : Int} : ∀ {ys : List Int}, k ∈ insU x ys ↔ k = x ∨ k ∈ ys
  | [] => by simp [insU]
  | y :: ys => by
    unfold insU
    split
    · simp
    · split
      · rename_i e
        subst e
        simp
      · simp only [List.mem_cons, insU_mem]
        constructor
        · rintro (h | h | h)
          · exact .inr (.inl h)
          · exact .inl h
          · exact .inr (.inr h)
        · rintro (h | h | h)
          · exact .inr (.inl h)
          · exact .inl h
          · exact .inr (.inr h)
theorem insU_pw {x : Int} : ∀ {ys : List Int}, ys.Pairwise (· < ·) → (insU x ys).Pairwise (· < ·)
  | [], _ => by simp [insU]
  | y :: ys, h => by
    obtain ⟨h1, h2⟩ := List.pairwise_cons.mp h
    unfold insU
    split
    · rename_i lt
      refine List.pairwise_cons.mpr ⟨fun z hz => ?_, h⟩
      rcases List.mem_cons.mp hz with rfl | hz
      · exact lt
      · exact Int.lt_trans lt (h1 z hz)
    · split
      · exact h
      · refine List.pairwise_cons.mpr ⟨fun z hz => ?_, insU_pw h2⟩
        rcases insU_mem.mp hz with rfl | hz
        · omega
        · exact h1 z hz
theorem sortU_mem {k : Int} : ∀ {ns : List Int}, k ∈ sortU ns ↔ k ∈ ns
  | [] => by simp [sortU]
  | n :: ns => by
    show k ∈ insU n (sortU ns) ↔ _
    rw [insU_mem, sortU_mem, List.mem_cons]
theorem sortU_pw : ∀ ns : List Int, (sortU ns).Pairwise (· < ·)
  | [] => List.Pairwise.nil
  | n :: ns => insU_pw (sortU_pw ns)
theorem sortU_uniq {ns ms : List Int} (hs : ms.Pairwise (· < ·)) (hm : ∀ k, k ∈ ms ↔ k ∈ ns) : ms = sortU ns := by
  have n1 : ms.Nodup := hs.imp fun h => Int.ne_of_lt h
  have n2 : (sortU ns).Nodup := (sortU_pw ns).imp fun h => Int.ne_of_lt h
  refine List.Perm.eq_of_pairwise (fun a b _ _ h1 h2 => ?_) hs (sortU_pw ns) ((List.perm_ext_iff_of_nodup n1 n2).mpr fun k => (hm k).trans sortU_mem.symm)
  omega
def sortUD (d : Dt) : Rs Dt := match lisD d with
  | some ds => (match intsOf ds with
    | some ns => if ns.length < 64 then .ok (.lst ((sortU ns).map .int)) else .no
    | none => .no)
  | none => .no
def sortUE := op1E sortUD
section
variable {J : Jc} {Γ : List Mode} {F : Ev → Rs Dt} {te : TE}
theorem se_sortU (h : SemE J Γ .S F te) : SemE J Γ (.o (.L .F)) (sortUE F) (tSortSet J.K te) := fun {G0 H0 G H ρ σ Q} w p => by
  refine h w (p.bind.imp (fun d _ q v G1 H1 P1 e1 _ r1 => ?_) fun _ q => q)
  unfold sortUD at q
  cases y : lisD d with
  | none => rw [y] at q; cases q
  | some ds =>
    rw [y] at q
    have q : Rs.Post _ _ (match intsOf ds with
      | some ns => if ns.length < 64 then Rs.ok (Dt.lst ((sortU ns).map Dt.int)) else .no
      | none => Rs.no) := q
    cases z : intsOf ds with
    | none => rw [z] at q; cases q
    | some ns =>
      rw [z] at q
      by_cases hl : ns.length < 64
      · have q : Rs.Post _ _ (if ns.length < 64 then Rs.ok (Dt.lst ((sortU ns).map Dt.int)) else .no) := q
        rw [if_pos hl] at q
        obtain ⟨a, vs, rfl, sq, r⟩ := S_lis r1 y
        have ev := rps_ints z r
        subst ev
        refine ⟨a, ns, rfl, sq, hl, fun ms p hs hm hn => ?_⟩
        rw [sortU_uniq hs hm]
        obtain ⟨e2, f2, o2⟩ := new_lst e1.gh hn (rps_intsV (K := J.K) (ca := J.ca) (G := G1) (sortU ns))
        exact q.of_ok (.ref p) G1 _ _ (e1.trans e2) (fun b hb => ⟨(f2 b hb).1, e1.h.free (f2 b hb).2.1, (f2 b hb).2.2⟩) o2
      · have q : Rs.Post _ _ (if ns.length < 64 then Rs.ok (Dt.lst ((sortU ns).map Dt.int)) else .no) := q
        rw [if_neg hl] at q
        cases q
end
theorem v_sortU {Fa : Ev → Rs Dt} {ρ : Ev} : sortUE Fa ρ = (Fa ρ >>= sortUD) := rfl
theorem x_sortU {ns : List Int} (h : ns.length < 64) : sortUD (.lst (ns.map .int)) = .ok (.lst ((sortU ns).map .int)) := by
  unfold sortUD
  have : lisD (.lst (ns.map Dt.int)) = some (ns.map Dt.int) := rfl
  rw [this]
  show (match intsOf (ns.map Dt.int) with
    | some ns => if ns.length < 64 then Rs.ok (Dt.lst ((sortU ns).map Dt.int)) else .no
    | none => Rs.no) = _
  rw [intsOf_map]
  exact if_pos h
/-! ### x not in a list, by data -/
section
open PySem PySem.Spec PyProof.Rows
def rNinDt (K : PySem.W.Frag) : L2.R2 := fun x y H Q => ∃ d xs, L2.Dp K H x d ∧ L2.Dp K H y (.list xs) ∧ SeqAt.shaped d = true ∧ SeqAt.shaped (.list xs) = true ∧ Q (.bl (!xs.any fun e => PyData.eqv e d)) H
theorem op_ninDt {X : L2.Cx} (hu : X.A.units + 65 < cLine) : L2.OpR X (compareOp .NotIn) (rNinDt X.K) := by
  intro pins s σ H x y v u Q I rx ry h
  obtain ⟨d, xs, hd, he, sd, se, q⟩ := h
  obtain ⟨as, r1⟩ := L2.Dp.reads I d x v hd rx
  obtain ⟨bs, r2⟩ := L2.Dp.reads I (.list xs) y u he ry
  exact SeqAt.notIn_list_reads r2 r1 (SeqAt.canLay_of_shaped se) (SeqAt.canLay_of_shaped sd) (room_in_shaped sd hu) ⟨.bl _, H, I, rfl, q⟩
end
section
variable {J : Jc} {Γ : List Mode} {Fa Fb : Ev → Rs Dt} {ta tb : TE} {ρ : Ev}
def ninDD (a b : Dt) : Rs Dt := match b with
  | .lst ds => if (eqOK a && eqOK (.lst ds)) = true then .ok (.bl (!inD a ds)) else .no
  | _ => .no
def ninDE := op2E ninDD
theorem rule_ninDt {K : PySem.W.Frag} {ca : Str → Addr} : Rule2 K ca ninDD (rNinDt K) := by
  intro H a b d x y Q ra rb q k
  unfold ninDD at q
  cases b with
  | lst ds =>
    obtain ⟨c, q⟩ := ok_if q
    cases q
    rw [Bool.and_eq_true] at c
    refine ⟨_, pyDs ds, ra.dp (SeqAt.canLay_of_shaped c.1), rb.dp (SeqAt.canLay_of_shaped c.2), c.1, c.2, ?_⟩
    rw [pyDs_any]
    exact k _ rfl fun _ => .bl _
  | _ => cases q
theorem nx_ninDt : NoEx2 ninDD := by
  intro a b c
  unfold ninDD
  split
  · exact nx_if (fun q => by cases q) fun q => by cases q
  · exact fun q => by cases q
theorem se_ninD (ha : SemE J Γ .B Fa ta) (hb : SemE J Γ .B Fb tb) : SemE J Γ (.o .F) (ninDE Fa Fb) (tOp (rNinDt J.K) ta tb) := se_op2 rule_ninDt nx_ninDt ha hb
theorem v_ninD : ninDE Fa Fb ρ = (Fa ρ >>= fun a => Fb ρ >>= fun b => ninDD a b) := rfl
theorem ninDD_of {a b : Dt} {c : Bool} (h : inDD a b = .ok (.bl c)) : ninDD a b = .ok (.bl (!c)) := by
  unfold inDD at h
  unfold ninDD
  cases b with
  | lst ds =>
    dsimp only at h ⊢
    split at h
    · rename_i q
      rw [if_pos q]
      cases h
      rfl
    · cases h
  | _ => cases h
end
end Pm
/-! several clauses 'except X as n', all with the same n (turned from the kit's rules for one such clause and for many without a name) -/
namespace L2
open PySem PySem.Spec PyProof.Rows
def wManyA (K : PySem.W.Frag) (i : Nat) (Wout : WX) (D : Ends) : List (Value × (Addr → Value → Option Addr → TS)) → WX
  | [] => Wout
  | (c, ts) :: r => wAs K c i ts (wManyA K i Wout D r) D
inductive HdsAs (X : Cx) (n : Str) : List ExceptHandler → List (Value × (Addr → Value → Option Addr → TS)) → Prop
  | nil : HdsAs X n [] []
  | cons {x : Str} {c : Value} {ts : Addr → Value → Option Addr → TS} {b₀ : Stmt} {suite : List Stmt} {np pos' : Pos} {hds : List ExceptHandler} {l : List (Value × (Addr → Value → Option Addr → TS))} (hc : Names X x c)
      (hsu : ∀ (a : Addr) (oe : Obj) (cls : Value) (d : Option Addr) (pn : List (Addr × Obj)), Zc cls d oe → (∃ vs, oe.data = .fields vs) → PSs (X.suite a ((a, oe) :: pn)) (b₀ :: suite) (ts a cls d)) (r : HdsAs X n hds l) :
      HdsAs X n (.ExceptHandler (some (.Name x np)) (some n) (b₀ :: suite) pos' :: hds) ((c, ts) :: l)
section
variable {X : Cx} {n : Str} {i : Nat} {body : List Stmt} {h₀ : ExceptHandler} {hds : List ExceptHandler} {l : List (Value × (Addr → Value → Option Addr → TS))} {pos : Pos} {tb : WX → TS} {Wout : WX}
theorem pm_try_manyA (hs : X.stack = X.env :: X.outer) (hf : X.env.frame = some X.env.locals) (hN : X.N.Nodup) (hi : X.N[i]? = some n) (hln : X.env.kindOf n = some .local) (tk : Takes X Wout)
    (hb : ∀ (W : WX) (pn : List (Addr × Obj)) (xe : Value → Shared → Prop), Takes (X.tr pn xe) W → PassesOwn (model X.prog X.w) X.A X.env xe → PSs (X.tr pn xe) body (tb W))
    (hh : HdsAs X n (h₀ :: hds) l) : PS X (.Try body (h₀ :: hds) [] [] pos) (fun D σ H => tb (wManyA X.K i Wout D l) D σ H) := by
  refine ⟨fun pins s σ H D I h => ?_⟩
  have ok := I.ok
  have hfr : X.A.frames = some (X.env :: X.outer) := by rw [ok.frames, hs]
  have hloc : Loc X.env.scope n := .inl hln
  refine wpAny_Try_except ?_
  refine wpAny_mono ((hb (wManyA X.K i Wout D l) (X.pn ++ pins) (fun e s₁ => wpAny (model X.prog X.w) X.A (noteFrame e X.env) (fun _ s₂ => wpAny (model X.prog X.w) X.A (setFlight e none) (fun _ s₃ =>
    wpAny (model X.prog X.w) X.A (handleBy e X.env (h₀ :: hds)) (SP X pins D) X.xe s₃) X.xe s₂) X.xe s₁) (fun u s' xx => ?_) PassesOwn.looking).run [] s σ H D (I.toTry _) h) (fun f s1 hsp => ?_) (fun e s1 he => he)
  · obtain ⟨a, B, sI, pins', σ', H', cls, d, rfl, J', nb, up, sky, na, os, ag, w⟩ := xx
    have J : Inv X pins σ' H' sI := J'.ofTry ok
    have sky' : Sky B (X.env :: X.outer) a (Zc cls d) X.env.locals s'.heap := by rw [← hs]; exact sky
    show wpAny (model X.prog X.w) X.A (noteFrame (.ref a) X.env) _ _ _
    refine Sky.land Zc.steady hfr hf sky' fun h3 fl3 up3 => ?_
    have J3 : Inv X pins σ' H' { s' with heap := h3 } := J.landed nb fl3.1 (up.trans up3) os ag
    obtain ⟨oe3, vs3, he3, hz3, hd3⟩ := fl3.there
    have notFr : ∀ {h : Heap} {o : Obj} {vs : Array Value}, h.FunFrames B (X.env :: X.outer) → h.get? a = some o → o.data = .fields vs → a ∉ frs (X.env :: X.outer) := fun {h o vs} ff e dd hm => by
      obtain ⟨_, o', e', hnf⟩ := ff.mem hm
      rw [e] at e'
      cases e'
      exact hnf _ dd
    have nfr := notFr fl3.2.2.1 he3 hd3
    have nL : a ≠ X.env.locals := fun z => nfr (List.mem_filterMap.mpr ⟨X.env, List.mem_cons_self, by rw [hf, z]⟩)
    have nF : a ∉ X.fs := fun hm => by
      obtain ⟨e, he, q⟩ := List.mem_filterMap.mp hm
      exact nfr (List.mem_filterMap.mpr ⟨e, List.mem_cons_of_mem _ he, q⟩)
    have S3 := J3.suite he3 hd3 na nL nF
    have go : ∀ {hds' : List ExceptHandler} {l' : List (Value × (Addr → Value → Option Addr → TS))}, HdsAs X n hds' l' → wManyA X.K i Wout D l' cls d σ' H' →
        wpAny (model X.prog X.w) X.A (handleBy (.ref a) X.env hds') (SP X pins D) X.xe { s' with heap := h3 } := by
      intro hds' l' hk
      induction hk with
      | nil =>
        intro w
        refine wpAny_handleBy_nil ?_
        obtain ⟨k1, k2, k3, oe, vs, T, oT, ts', he, hz, hd, h1, hr⟩ := id fl3
        unfold PySem.passOn
        refine wpAny_bind (wpAny_field he hd h1 ?_)
        rw [if_neg (show ¬ ((Value.ref T == Value.none) = true) from by simp)]
        have fin : wpAny (model X.prog X.w) X.A (setFlight (.ref a) X.env.frame) (fun _ s4 => wpAny (model X.prog X.w) X.A (throw (.ref a) : Sem Flow) (SP X pins D) X.xe s4) X.xe { s' with heap := h3 } := by
          rw [hf]
          refine HandSPX.setFlight_upZ fl3 fun h4 hh4 up4 => wpAny_throw (tk _ _ ?_)
          exact ⟨a, B, sI, pins, σ', H', cls, d, rfl, J, nb, (up.trans up3).trans up4, .inr (.inr (by rw [hs]; exact hh4)), na, os, ag, w⟩
        first
          | exact wpAny_bind (wpAny_pure (wpAny_bind fin))
          | exact wpAny_bind fin
      | @cons x c ts b₀ suite np pos' hds2 l2 hc hsu r ih =>
        intro w
        obtain ⟨b, hb1, hyes, hno⟩ := w
        refine wpAny_handleBy_cons (codeAny_handlers_test ?_) (by intro q; cases q)
        have LT : PySem.W.Looks (model X.prog X.w) h3 (typeOf (.ref a)) cls := fun A Q E s k q => wpAny_typeOf_ref (k _ _ he3) (by rw [hz3.1]; exact q)
        have LM := PySem.W.exm_one (M := model X.prog X.w) (J3.kIn) LT hb1
        have test : ∀ {Q : Value → Shared → Prop} {E : Value → Shared → Prop}, Q c { s' with heap := h3 } → wpAny (model X.prog X.w) (X.A.mark (some (.ref a))) (eval (.Name x np) X.env) Q E { s' with heap := h3 } := fun {Q E} q => by
          obtain ⟨hg, hdbg, hm | ⟨hm, hv, hnn⟩⟩ := hc
          · exact ld_glob (X := X.suite a ((a, oe3) :: (X.pn ++ pins))) S3 hg hm q hdbg
          · exact ld_blt (X := X.suite a ((a, oe3) :: (X.pn ++ pins))) S3 hg hm hv q hnn hdbg
        refine test (LM.here ?_)
        cases b with
        | true =>
          refine codeAny_handlers_suite_as ?_
          refine HandSPX.lands_againZ fl3 fun h4 fl4 up4 => ?_
          have J4 : Inv X pins σ' H' { s' with heap := h4 } := J.landed nb fl4.1 ((up.trans up3).trans up4) os ag
          obtain ⟨oe4, vs4, he4, hz4, hd4⟩ := fl4.there
          have S4 := J4.suite he4 hd4 na nL nF
          refine store_ok (X := X.suite a ((a, oe4) :: (X.pn ++ pins))) (v := .ref a) S4 hN hi hloc rfl (fun s5 S5 => ?_) (.inr hln)
          refine wpAny_mono ((hsu a oe4 cls d (X.pn ++ pins) hz4 ⟨_, hd4⟩).run [] s5 _ H' _ S5 (hyes rfl a na)) (fun f s6 hsp => ?_) (fun _ _ z => False.elim z)
          have end_ : ∀ {σ6 : St} {H6 : Hp} {Q : Shared → Prop}, Inv (X.suite a ((a, oe4) :: (X.pn ++ pins))) [] σ6 H6 s6 → (∀ s7, Inv X pins (σ6.set i none) H6 s7 → Q s7) →
              wpAny (model X.prog X.w) X.A (do bindName X.env n .none; unbindBehindTheSuite X.env n pos') (fun _ s7 => Q s7) X.xe s6 := fun {σ6 H6 Q} S6 hq => gone_ok (S6.unsuite ok) hN hi hln hq
          cases f with
          | next =>
            obtain ⟨σ6, H6, S6, q6⟩ := hsp
            exact end_ S6 fun s7 J7 => ⟨_, _, J7, q6⟩
          | brk =>
            obtain ⟨σ6, H6, S6, q6⟩ := hsp
            exact end_ S6 fun s7 J7 => ⟨_, _, J7, q6⟩
          | cont =>
            obtain ⟨σ6, H6, S6, q6⟩ := hsp
            exact end_ S6 fun s7 J7 => ⟨_, _, J7, q6⟩
          | ret u =>
            obtain ⟨v6, σ6, H6, S6, r6, q6⟩ := hsp
            exact end_ S6 fun s7 J7 => ⟨_, _, _, J7, r6, q6⟩
        | false =>
          show wpAny _ X.A (handleBy (.ref a) X.env hds2) _ _ _
          exact ih (hno rfl)
    exact go hh w
  · cases f with
    | next =>
      obtain ⟨σ', H', J', q⟩ := hsp
      exact wpAny_execs_nil ⟨σ', H', J'.ofTry ok, q⟩
    | brk =>
      obtain ⟨σ', H', J', q⟩ := hsp
      exact ⟨σ', H', J'.ofTry ok, q⟩
    | cont =>
      obtain ⟨σ', H', J', q⟩ := hsp
      exact ⟨σ', H', J'.ofTry ok, q⟩
    | ret u =>
      obtain ⟨v, σ', H', J', r, q⟩ := hsp
      exact ⟨v, σ', H', J'.ofTry ok, r, q⟩
end
end L2
namespace Pm
open PySem PySem.Spec PyProof.Rows L2
open Classical
/-- one clause after the other; a clause raises nothing -/
def goA (i : Nat) : List (List (Str × Bool) × (Str → Ev → Ot)) → Xn → Ev → Ot
  | [], c, ρ => .ex c ρ
  | (subs, Fh) :: r, c, ρ => match subs.lookup c.1 with
    | some true => (match c.2 with
      | none => clrO i (Fh c.1 (ρ.set i none))
      | some _ => .no)
    | some false => goA i r c ρ
    | none => .no
def tryM (i : Nat) (hs : List (List (Str × Bool) × (Str → Ev → Ot))) (Fb : Ev → Ot) (ρ : Ev) : Ot := match Fb ρ with
  | .ex c ρ' => goA i hs c ρ'
  | o => o
def tTryM (K : PySem.W.Frag) (i : Nat) (l : List (Value × (Addr → Value → Option Addr → TS))) (W : WX) (tb : WX → TS) : TS := fun D σ H => tb (wManyA K i W D l) D σ H
inductive HsS (J : Jc) (Γx Γ' : List Mode) (i : Nat) : List (List (Str × Bool) × (Str → Ev → Ot)) → List (Value × (Addr → Value → Option Addr → TS)) → Prop
  | nil : HsS J Γx Γ' i [] []
  | cons {X : Value} {subs : List (Str × Bool)} {Fh : Str → Ev → Ot} {th : Addr → Str → TS} {r : List (List (Str × Bool) × (Str → Ev → Ot))} {l : List (Value × (Addr → Value → Option Addr → TS))} (hs : Subs J.K J.ca X subs)
      (hh : ∀ a c, subs.lookup c = some true → SemS (J.nx [(i, .ref a)]) Γx Γ' (Fh c) (th a c)) (q : HsS J Γx Γ' i r l) : HsS J Γx Γ' i ((subs, Fh) :: r) ((X, tSuite J.ca subs th) :: l)
section
variable {J : Jc} {Γ Γ' Γx : List Mode} {Fb : Ev → Ot} {tb : WX → TS}
theorem ss_tryM {i : Nat} {hs : List (List (Str × Bool) × (Str → Ev → Ot))} {l : List (Value × (Addr → Value → Option Addr → TS))} (hb : ∀ W, SemS (J.tr W Γx) Γ Γ' Fb (tb W)) (hh : HsS J Γx Γ' i hs l) (hx : J.gx = none) (hp : J.pin = []) (hi : i < Γx.length) :
    SemS J Γ Γ' (tryM i hs Fb) (tTryM J.K i l J.W tb) := fun {G0 H0 G H ρ σ D} w p => by
  refine hb _ w.tr ?_
  unfold tryM at p
  cases q : Fb ρ with
  | ex c ρ' =>
    rw [q] at p
    refine .ex fun dx σ' H' s xr k => ?_
    obtain ⟨G', sg, w2⟩ := k Γx rfl
    have p : PostS J G0 H0 G Γ' D (goA i hs c ρ') := p
    clear q
    have w3 := w2.untr
    clear k w2
    show wManyA J.K i J.W D l (.ref (J.ca c.1)) dx σ' H'
    induction hh with
    | nil =>
      have p : PostS J G0 H0 G Γ' D (.ex c ρ') := p
      cases p with
      | ex p => exact p dx σ' H' s xr fun Γ1 e => by rw [hx] at e; cases e
    | @cons X subs Fh th r l hs hh _ ih =>
      have p : PostS J G0 H0 G Γ' D (match subs.lookup c.1 with
        | some true => (match c.2 with
          | none => clrO i (Fh c.1 (ρ'.set i none))
          | some _ => .no)
        | some false => goA i r c ρ'
        | none => .no) := p
      cases z : subs.lookup c.1 with
      | none => rw [z] at p; cases p
      | some b =>
        refine ⟨b, hs _ _ z, fun hb a ha => ?_, fun hb => ?_⟩
        · subst hb
          rw [z] at p
          have p : PostS J G0 H0 G Γ' D (match c.2 with
            | none => clrO i (Fh c.1 (ρ'.set i none))
            | some _ => .no) := p
          cases z2 : c.2 with
          | some n => rw [z2] at p; cases p
          | none =>
            rw [z2] at p
            have dxn : dx = none := by
              unfold XR at xr
              rw [z2] at xr
              exact xr
            refine ⟨c.1, z, rfl, dxn, ?_⟩
            exact hh a c.1 z (w3.pinned (by rw [← w3.lg]; exact hi) hp) ((PostS.clr hp p).up sg)
        · subst hb
          rw [z] at p
          exact ih p p
  | nx r => rw [q] at p; exact p.tr (fun _ _ z => by cases z)
  | rt r => rw [q] at p; exact p.tr (fun _ _ z => by cases z)
  | bk r => rw [q] at p; exact p.tr (fun _ _ z => by cases z)
  | ct r => rw [q] at p; exact p.tr (fun _ _ z => by cases z)
  | no => rw [q] at p; cases p
end
section
variable {X : Cx} {n : Str} {i : Nat} {body : List Stmt} {h₀ : ExceptHandler} {hds : List ExceptHandler} {l : List (Value × (Addr → Value → Option Addr → TS))} {pos : Pos} {tb : WX → TS} {Wout : WX}
theorem pm_tryM (hs : X.stack = X.env :: X.outer) (hf : X.env.frame = some X.env.locals) (hN : X.N.Nodup) (hi : X.N[i]? = some n) (hln : X.env.kindOf n = some .local) (tk : Takes X Wout)
    (hb : ∀ (W : WX) (pn : List (Addr × Obj)) (xe : Value → Shared → Prop), Takes (X.tr pn xe) W → PassesOwn (model X.prog X.w) X.A X.env xe → PSs (X.tr pn xe) body (tb W))
    (hh : HdsAs X n (h₀ :: hds) l) : PS X (.Try body (h₀ :: hds) [] [] pos) (tTryM X.K i l Wout tb) := pm_try_manyA hs hf hN hi hln tk hb hh
end
theorem v_tryM {i : Nat} {hs : List (List (Str × Bool) × (Str → Ev → Ot))} {Fb rest : Ev → Ot} {ρ : Ev} : seqS (tryM i hs Fb) rest ρ = (match (match Fb ρ with
  | .ex c ρ' => goA i hs c ρ'
  | o => o) with
  | .nx ρ' => rest ρ'
  | o => o) := rfl
end Pm
namespace Pm
open PySem PySem.Spec PyProof.Rows L2
open Classical
/-! ### a list of unlike parts; names for the parts of an owned tuple -/
section
variable {J : Jc} {Γ Γ' : List Mode} {m : Mode} {ms : List Mode} {F Fe : Ev → Rs Dt} {Fs : List (Ev → Rs Dt)} {te : TE} {tr : TA} {G0 H0 G H G' H' : Hp} {ρ : Ev} {σ : L2.St}
theorem se_lstT (h : SemZ J Γ ms Fs tr) (hl : Fs.length ≤ 1000000 := by exact Nat.le_of_ble_eq_true rfl) : SemE J Γ (.o (.T ms)) (lstE Fs) (tLst tr) := fun {G0 H0 G H ρ σ Q} w p => by
  refine h w (p.bind.imp (fun ds hd q vs G1 H1 P1 e1 f1 o1 => ⟨?_, fun a ha => ?_⟩) fun _ q => q)
  · rw [← o1.len.1, argsE_len hd]; exact sz1000000 hl
  · exact q.of_ok (.ref a) G1 _ (fun b => b = a ∨ P1 b) (e1.upd ha) (f1.upd e1.gh ha (e1.h.free ha)) (.TL upd_same (e1.gh.free ha) (.inl rfl) (o1.upd f1 ha))
def gNames : List Nat → TGs
  | [] => gNil
  | i :: l => gCons (gName i) (gNames l)
def setsM (Γ : List Mode) (l : List Nat) (ms : List Mode) : List Mode := match l with
  | [] => Γ
  | i :: l => match ms with
    | [] => Γ
    | m :: ms => setsM (Γ.set i m) l ms
termination_by structural l
def setsE (Γ : Ev) (l : List Nat) (ms : List Dt) : Ev := match l with
  | [] => Γ
  | i :: l => match ms with
    | [] => Γ
    | m :: ms => setsE (Γ.set i (some m)) l ms
termination_by structural l
def setsS (Γ : L2.St) (l : List Nat) (ms : List V) : L2.St := match l with
  | [] => Γ
  | i :: l => match ms with
    | [] => Γ
    | m :: ms => setsS (Γ.set i (some m)) l ms
termination_by structural l
theorem setsM_len : ∀ {l : List Nat} {ms : List Mode} {Γ : List Mode}, (setsM Γ l ms).length = Γ.length
  | [], _, _ => rfl
  | _ :: _, [], _ => rfl
  | i :: l, m :: ms, Γ => by show (setsM (Γ.set i m) l ms).length = _; rw [setsM_len, List.length_set]
theorem setsE_len : ∀ {l : List Nat} {ds : List Dt} {ρ : Ev}, (setsE ρ l ds).length = ρ.length
  | [], _, _ => rfl
  | _ :: _, [], _ => rfl
  | i :: l, d :: ds, ρ => by show (setsE (ρ.set i (some d)) l ds).length = _; rw [setsE_len, List.length_set]
theorem setsS_len : ∀ {l : List Nat} {vs : List V} {σ : L2.St}, (setsS σ l vs).length = σ.length
  | [], _, _ => rfl
  | _ :: _, [], _ => rfl
  | i :: l, v :: vs, σ => by show (setsS (σ.set i (some v)) l vs).length = _; rw [setsS_len, List.length_set]
theorem setsS_ne {k : Nat} : ∀ {l : List Nat} {vs : List V} {σ : L2.St}, k ∉ l → (setsS σ l vs)[k]? = σ[k]?
  | [], _, _, _ => rfl
  | _ :: _, [], _, _ => rfl
  | i :: l, v :: vs, σ, h => by
    show (setsS (σ.set i (some v)) l vs)[k]? = _
    rw [setsS_ne fun z => h (List.mem_cons_of_mem _ z), List.getElem?_set_ne fun z => h (by rw [z]; exact List.mem_cons_self)]
theorem gNames_run {Q : L2.St → Hp → Prop} : ∀ {l : List Nat} {vs : List V} {σ : L2.St}, l.length = vs.length → Q (setsS σ l vs) H → gNames l vs σ H Q
  | [], [], σ, _, q => ⟨rfl, q⟩
  | i :: l, v :: vs, σ, h, q => ⟨v, vs, rfl, gNames_run (by simpa using h) q⟩
  | [], _ :: _, _, h, _ => by cases h
  | _ :: _, [], _, h, _ => by cases h
theorem EnvP.set {Pf : Nat → Addr → Prop} (en : EnvP J H0 Γ ρ σ G H Pf) (lg : Γ.length = ρ.length) (lr : ρ.length = σ.length) {d : Dt} {v : V} {P : Addr → Prop} (o : Ow J.K J.ca G H m d v P) (f : ∀ b, P b → G b = none ∧ H0 b = none ∧ H b ≠ none) (dis : ∀ k b, Pf k b → ¬ P b) (i : Nat) :
    EnvP J H0 (Γ.set i m) (ρ.set i (some d)) (σ.set i (some v)) G H (fun k => if k = i then P else Pf k) := by
  obtain ⟨h1, h2, h3⟩ := en
  refine ⟨fun j k a q r s => ?_, fun j a q => ?_, fun j c q => ?_⟩
  · by_cases hj : j = i
    · by_cases hk : k = i
      · exact q (hj.trans hk.symm)
      · simp only [hj, if_true] at r
        simp only [hk, if_false] at s
        exact dis k a s r
    · simp only [hj, if_false] at r
      by_cases hk : k = i
      · simp only [hk, if_true] at s
        exact dis j a r s
      · simp only [hk, if_false] at s
        exact h1 j k a q r s
  · by_cases hj : j = i
    · simp only [hj, if_true] at q
      exact f a q
    · simp only [hj, if_false] at q
      exact h2 j a q
  · by_cases hj : j = i
    · subst hj
      have hl : j < ρ.length := by
        have z := (List.getElem?_eq_some_iff.mp q).1
        simpa using z
      rw [List.getElem?_set_self hl] at q
      have hd : d = c := by simpa using q
      subst hd
      refine ⟨v, m, List.getElem?_set_self (by rw [← lr]; exact hl), List.getElem?_set_self (by rw [lg]; exact hl), ?_⟩
      simp only [if_true]
      exact o
    · rw [List.getElem?_set_ne (Ne.symm hj)] at q
      obtain ⟨v2, m2, s1, s2, s3⟩ := h3 j c q
      refine ⟨v2, m2, by rw [List.getElem?_set_ne (Ne.symm hj)]; exact s1, by rw [List.getElem?_set_ne (Ne.symm hj)]; exact s2, ?_⟩
      simp only [hj, if_false]
      exact s3
theorem EnvP.sets : ∀ {l : List Nat} {ms : List Mode} {ds : List Dt} {vs : List V} {P : Addr → Prop} {Pf : Nat → Addr → Prop} {Γ : List Mode} {ρ : Ev} {σ : L2.St}, EnvP J H0 Γ ρ σ G H Pf → Γ.length = ρ.length → ρ.length = σ.length → Ows J.K J.ca G H ms ds vs P →
    (∀ b, P b → G b = none ∧ H0 b = none ∧ H b ≠ none) → (∀ k b, Pf k b → ¬ P b) → ∃ Pf', EnvP J H0 (setsM Γ l ms) (setsE ρ l ds) (setsS σ l vs) G H Pf'
  | [], ms, ds, vs, P, Pf, Γ, ρ, σ, en, lg, lr, o, f, dis => ⟨Pf, en⟩
  | i :: l, _, [], _, P, Pf, Γ, ρ, σ, en, lg, lr, o, f, dis => by
    cases o with
    | nil => exact ⟨Pf, en⟩
  | i :: l, _, d :: ds, _, P, Pf, Γ, ρ, σ, en, lg, lr, o, f, dis => by
    cases o with
    | @cons m ms _ _ v vs _ P1 P2 h1 h2 q1 q2 q3 =>
      refine EnvP.sets (l := l) (en.set lg lr h1 (fun b hb => f b (q1 b hb)) (fun k b r s => dis k b r (q1 b s)) i) (by simp only [List.length_set]; exact lg) (by simp only [List.length_set]; exact lr) h2 (fun b hb => f b (q2 b hb)) fun k b r s => ?_
      by_cases hk : k = i
      · simp only [hk, if_true] at r
        exact q3 b r s
      · simp only [hk, if_false] at r
        exact dis k b r (q2 b s)
def asgT (l : List Nat) (Fe : Ev → Rs Dt) (ρ : Ev) : Ot := bindS (Fe ρ) ρ fun d => match d with
  | .tup ds => if ds.length = l.length then .nx (setsE ρ l ds) else .no
  | _ => .no
theorem pin_all {p : List (Nat × V)} : ∀ {l : List Nat}, l.all (fun i => pinB p i) = true → ∀ k v, (k, v) ∈ p → k ∉ l
  | [], _, _, _, _, h => by cases h
  | i :: l, hb, k, v, h, z => by
    rw [List.all_cons, Bool.and_eq_true] at hb
    rcases List.mem_cons.mp z with z | z
    · exact pinB_ne hb.1 h z
    · exact pin_all hb.2 k v h z
/-- x, y = e, where e is a tuple that owns its parts -/
theorem ss_asgT {l : List Nat} {n : Nat} (h : SemE J Γ (.o (.T ms)) Fe te) (hx : Gx J Γ) (hn : l.length = n := by rfl) (hp : l.all (fun i => pinB J.pin i) = true := by rfl) : SemS J Γ (setsM Γ l ms) (asgT l Fe) (tAsg te (gTup J.K n (gNames l))) := fun {G0 H0 G H ρ σ D} w p =>
  h w ((p.bind w hx).imp (fun d _ q v G1 H1 P e f o => by
    cases o with
    | NT => cases q
    | TL => cases q
    | @T _ a us ds _ h1 h2 h3 h4 =>
      have q : PostS J G0 H0 G (setsM Γ l ms) D (if ds.length = l.length then .nx (setsE ρ l ds) else .no) := q
      by_cases hl : ds.length = l.length
      case neg => rw [if_neg hl] at q; cases q
      rw [if_pos hl] at q
      have hul : l.length = us.length := by rw [← hl]; exact h4.len.1
      refine ⟨a, us, rfl, .of h1, by rw [← hul]; exact hn, gNames_run hul ?_⟩
      obtain ⟨Pf, en⟩ := w.env
      have en2 : EnvP J H0 Γ ρ σ G1 H1 Pf := EnvP.ext en e
      obtain ⟨Pf', en3⟩ := EnvP.sets (l := l) en2 w.lg w.lr h4 (fun b hb => ⟨(f b hb.1).1, w.x.h.free (f b hb.1).2.1, (f b hb.1).2.2⟩) (fun k b r s => (en.2.1 k b r).2.2 (f b s.1).2.1)
      exact q.of_nx _ G1 H1 e.g ⟨w.x.trans e, by rw [setsM_len, setsE_len]; exact w.lg, by rw [setsE_len, setsS_len]; exact w.lr, ⟨Pf', en3⟩, fun k v hk => by rw [setsS_ne (pin_all hp k v hk)]; exact w.pn k v hk⟩) fun _ q => q)
end
end Pm
/-! max(xs), xs a list of pairs of ints (the kit's proof for max, turned: what the comparisons need is told of the heap) -/
namespace PySem
open Sem (wp)
def CmpK (prog : Program) (w : World) (A : Around) (op : CmpOp) (P : Nat → Value → Prop) (Kp : Heap → Prop) (bt : Nat → Nat → Bool) : Prop :=
  ∀ i j vi vj (s : Shared) (Q : Value → Shared → Prop) (E : Value → Shared → Prop), P i vi → P j vj → Kp s.heap → Q (.bool (bt i j)) s → wpAny (model prog w) A (richCompare op vi vj) Q E s
section
variable {prog : Program} {w : World} {A : Around} {R : Result → Shared → Prop} {I : Addr} {fp wr : List Addr} {n : Nat} {P : Nat → Value → Prop} {St : Nat → Heap → Prop}
theorem codeAny_max_loopK (W : Walks prog w A.in1 I fp wr n P St) (bt : Nat → Nat → Bool) {Kp : Heap → Prop} (hcmp : CmpK prog w A.in1 .Gt P Kp bt) (S : Addr) (hSf : S ∉ fp) (hK : ∀ h h', Kp h → (∀ b o, b ∉ wr → b ≠ S → h.get? b = some o → h'.get? b = some o) → Kp h') :
    ∀ (k j : Nat) (s : Shared) (vb : Value) (c : Nat), n - (j + 1) = k → j + 1 ≤ n → St (j + 1) s.heap → Kp s.heap → P (argBest bt j) vb →
    s.heap.get? S = some { cls := .type "list", dict := none, data := .seq #[vb, vb] c, slots := #[] } →
    (∀ v h' tk, P (argBest bt (n - 1)) v → (∀ b o, b ∉ wr → b ≠ S → s.heap.get? b = some o → h'.get? b = some o) → R (.ok (.ret v)) { s with heap := h', toks := tk }) →
    codeAny (model prog w) A (.builtin "max.loop" ⟨[.ref I, .none, .ref S], []⟩) R s := by
  have hSw : S ∉ wr := fun h => hSf (W.sub _ h)
  have hname : (toString "max" ++ toString ".loop" : String) = "max.loop" := by decide
  intro k
  induction k with
  | zero =>
    intro j s vb c hk hj hst hKs hPb hS hR
    have hin : j + 1 = n := by omega
    refine codeAny_builtin F.entry_max_loop ?_
    rw [Around.under_plainId F.plain_max_loop _]
    show wpAny _ A.in1 (seqItems? (.ref S) >>= _) _ _ s
    refine wpAny_bind (wpAny_seqItems hS rfl ?_)
    show wpAny _ A.in1 (tryCatch (pyNext (.ref I)) _ >>= _) _ _ s
    refine wpAny_bind (wpAny_tryCatch (W.done s _ _ (hin ▸ hst) fun h' tk hk' => ?_))
    have hS' := hk' S _ hSw hS
    show wpAny _ A.in1 (updateSeq S (fun _ => #[]) >>= _) _ _ _
    refine wpAny_bind ?_
    refine wpAny_updateSeq hS' rfl (wpAny_bind (wpAny_letGo (wpAny_pure ?_)))
    refine hR vb _ tk (by rw [← hin]; exact hPb) fun b o hbw hbS e => (Heap.get?_update_other _ _ (Ne.symm hbS)).trans (hk' b o hbw e)
  | succ k ih =>
    intro j s vb c hk hj hst hKs hPb hS hR
    have hlt : j + 1 < n := by omega
    refine codeAny_builtin F.entry_max_loop ?_
    rw [Around.under_plainId F.plain_max_loop _]
    show wpAny _ A.in1 (seqItems? (.ref S) >>= _) _ _ s
    refine wpAny_bind (wpAny_seqItems hS rfl ?_)
    show wpAny _ A.in1 (tryCatch (pyNext (.ref I)) _ >>= _) _ _ s
    refine wpAny_bind (wpAny_tryCatch (W.item (j + 1) s _ _ hlt hst fun v h' tk hP hst' hk' => ?_))
    have hS' := hk' S _ hSw hS
    show wpAny _ A.in1 (tryCatch (holding [v, v] (richCompare .Gt v vb >>= _)) _ >>= _) _ _ _
    refine wpAny_bind (wpAny_tryCatch (wpAny_holding (wpAny_bind (hcmp (j + 1) (argBest bt j) v vb _ _ _ hP hPb (hK _ _ hKs fun b o hbw _ e => hk' b o hbw e) ?_))))
    refine wpAny_bind (wpAny_holding (wpAny_truthy_bool ?_))
    refine wpAny_bind (wpAny_letGo (wpAny_pure ?_))
    cases hb : bt (j + 1) (argBest bt j) with
    | true =>
      simp only [if_true]
      refine wpAny_bind ?_
      refine wpAny_updateSeq hS' rfl (wpAny_bind (wpAny_letGo ?_))
      rw [hname]
      refine wpAny_pure ⟨plainId_quiet F.plain_max_loop _, ih (j + 1) _ v _ (by omega) hlt (W.frame _ _ _ hst' fun b hbf o e => ?_) (hK _ _ hKs fun b o hbw hbS e => (Heap.get?_update_other _ _ (Ne.symm hbS)).trans (hk' b o hbw e)) (by simp only [argBest, hb, if_true]; exact hP) (Heap.get?_update_self _ hS' rfl)
        fun v' h'' tk'' hP' hk'' => ?_⟩
      · exact (Heap.get?_update_other _ _ (fun h : S = b => hSf (by rw [h]; exact hbf))).trans e
      · exact hR v' h'' tk'' hP' fun b o hbw hbS e => hk'' b o hbw hbS ((Heap.get?_update_other _ _ (Ne.symm hbS)).trans (hk' b o hbw e))
    | false =>
      simp only [Bool.false_eq_true, if_false]
      refine wpAny_bind (wpAny_letGo ?_)
      rw [hname]
      refine wpAny_pure ⟨plainId_quiet F.plain_max_loop _, ih (j + 1) _ vb c (by omega) hlt hst' (hK _ _ hKs fun b o hbw _ e => hk' b o hbw e) (by simp only [argBest, hb, Bool.false_eq_true, if_false]; exact hPb) hS' fun v' h'' tk'' hP' hk'' => ?_⟩
      exact hR v' h'' tk'' hP' fun b o hbw hbS e => hk'' b o hbw hbS (hk' b o hbw e)
theorem codeAny_max_loop_firstK (W : Walks prog w A.in1 I fp wr n P St) (bt : Nat → Nat → Bool) {Kp : Heap → Prop} (hcmp : CmpK prog w A.in1 .Gt P Kp bt) (S : Addr) (hSf : S ∉ fp) (hK : ∀ h h', Kp h → (∀ b o, b ∉ wr → b ≠ S → h.get? b = some o → h'.get? b = some o) → Kp h') (hn : 0 < n) {s : Shared} {c : Nat} (hst : St 0 s.heap) (hKs : Kp s.heap)
    (hS : s.heap.get? S = some { cls := .type "list", dict := none, data := .seq #[] c, slots := #[] })
    (hR : ∀ v h' tk, P (argBest bt (n - 1)) v → (∀ b o, b ∉ wr → b ≠ S → s.heap.get? b = some o → h'.get? b = some o) → R (.ok (.ret v)) { s with heap := h', toks := tk }) :
    codeAny (model prog w) A (.builtin "max.loop" ⟨[.ref I, .none, .ref S], []⟩) R s := by
  have hSw : S ∉ wr := fun h => hSf (W.sub _ h)
  have hname : (toString "max" ++ toString ".loop" : String) = "max.loop" := by decide
  refine codeAny_builtin F.entry_max_loop ?_
  rw [Around.under_plainId F.plain_max_loop _]
  show wpAny _ A.in1 (seqItems? (.ref S) >>= _) _ _ s
  refine wpAny_bind (wpAny_seqItems hS rfl ?_)
  show wpAny _ A.in1 (tryCatch (pyNext (.ref I)) _ >>= _) _ _ s
  refine wpAny_bind (wpAny_tryCatch (W.item 0 s _ _ hn hst fun v h' tk hP hst' hk' => ?_))
  have hS' := hk' S _ hSw hS
  show wpAny _ A.in1 (updateSeq S (fun _ => #[v, v]) >>= _) _ _ _
  refine wpAny_bind ?_
  refine wpAny_updateSeq hS' rfl ?_
  rw [hname]
  refine wpAny_pure ⟨plainId_quiet F.plain_max_loop _, codeAny_max_loopK W bt hcmp S hSf hK _ 0 _ v _ rfl hn (W.frame _ _ _ hst' fun b hbf o e => ?_) (hK _ _ hKs fun b o hbw hbS e => (Heap.get?_update_other _ _ (Ne.symm hbS)).trans (hk' b o hbw e)) hP (Heap.get?_update_self _ hS' rfl) fun v' h'' tk'' hP' hk'' => ?_⟩
  · exact (Heap.get?_update_other _ _ (fun h : S = b => hSf (by rw [h]; exact hbf))).trans e
  · exact hR v' h'' tk'' hP' fun b o hbw hbS e => hk'' b o hbw hbS ((Heap.get?_update_other _ _ (Ne.symm hbS)).trans (hk' b o hbw e))
end
section
variable {prog : Program} {w : World} {A : Around} {E : Value → Shared → Prop} {s : Shared}
theorem call_max_walkK {x : Value} {Q : Value → Shared → Prop}
    (h : wpAny (model prog w) A.in1 (pyIter x) (fun it s₂ => ∃ I fp wr n P St bt Kp, it = .ref I ∧ Walks prog w A.in1 I fp wr n P St ∧ St 0 s₂.heap ∧ (∀ b ∈ fp, b < s₂.heap.objs.size) ∧ 0 < n ∧ CmpK prog w A.in1 .Gt P Kp bt ∧ Kp s₂.heap ∧ (∀ S, s₂.heap.objs.size ≤ S → ∀ h h', Kp h → (∀ b o, b ∉ wr → b ≠ S → h.get? b = some o → h'.get? b = some o) → Kp h') ∧
      ∀ v h' tk, P (argBest bt (n - 1)) v → (∀ b o, b ∉ wr → s₂.heap.get? b = some o → h'.get? b = some o) → Q v { s₂ with heap := h', toks := tk }) E s) :
    wpAny (model prog w) A (call (.builtin "max") [x]) Q E s := by
  have hname : (toString "max" ++ toString ".loop" : String) = "max.loop" := by decide
  refine call_function_tree F.kind_max F.plain_max F.entry_max (F.args_max1 _) ?_
  show wpAny _ A.in1 (Builtin.Builtins.bindParams "max" ["key", "default"] 0 ⟨[], []⟩ >>= _) _ _ s
  refine wpAny_bind (wpAny_of_eq (show Builtin.Builtins.bindParams "max" ["key", "default"] 0 ⟨[], []⟩ = pure [none, none] from rfl) ?_)
  refine wpAny_bind (wpAny_pure ?_)
  refine wpAny_bind (wpAny_mono h (fun it s₂ h₂ => ?_) fun _ _ e => e)
  obtain ⟨I, fp, wr, n, P, St, bt, Kp, rfl, W, hst, hfp, hn, hcmp, hK0, hK, hQ⟩ := h₂
  refine wpAny_bind (wpAny_newObj_type ?_)
  have hSf : s₂.heap.objs.size ∉ fp := fun hm => Nat.lt_irrefl _ (hfp _ hm)
  rw [hname]
  refine wpAny_pure ⟨plainId_quiet F.plain_max_loop _, codeAny_max_loop_firstK W bt hcmp s₂.heap.objs.size hSf (hK _ (Nat.le_refl _)) hn (W.frame _ _ _ hst fun b _ o e => Heap.get?_push_of_some _ e) (hK _ (Nat.le_refl _) _ _ hK0 fun b o _ _ e => Heap.get?_push_of_some _ e) (Heap.get?_push_size _ rfl) fun v h' tk hP hk => ?_⟩
  exact hQ v h' tk hP fun b o hbw e => hk b o hbw (Nat.ne_of_lt (Heap.lt_size e)) (Heap.get?_push_of_some _ e)
theorem argBest_lt' (bt : Nat → Nat → Bool) : ∀ k, argBest bt k ≤ k
  | 0 => Nat.le_refl _
  | k + 1 => by
    unfold argBest
    split
    · exact Nat.le_refl _
    · exact Nat.le_succ_of_le (argBest_lt' bt k)
theorem argBest_top {bt : Nat → Nat → Bool} (tr : ∀ i j l, bt i j = true → bt j l = true → bt i l = true) (ir : ∀ i, bt i i = false) : ∀ k j, j ≤ k → bt j (argBest bt k) = false
  | 0, j, h => by
    obtain rfl : j = 0 := by omega
    exact ir 0
  | k + 1, j, h => by
    unfold argBest
    by_cases hb : bt (k + 1) (argBest bt k) = true
    · rw [if_pos hb]
      by_cases e : j = k + 1
      · rw [e]; exact ir _
      · cases q : bt j (k + 1) with
        | false => rfl
        | true =>
          have := tr _ _ _ q hb
          rw [argBest_top tr ir k j (by omega)] at this
          cases this
    · rw [if_neg hb]
      by_cases e : j = k + 1
      · rw [e]; simpa using hb
      · exact argBest_top tr ir k j (by omega)
end
end PySem
namespace L2
open PySem PySem.Spec PyProof.Rows
abbrev pltB (p q : Int × Int) : Bool := HT.lexLt [p.1, p.2] [q.1, q.2]
def rMaxP (K : PySem.W.Frag) : List V → Hp → VK → Prop := fun vs H Q => ∃ (a : Addr) (xs : List V) (key : V → Int × Int), vs = [V.ref a] ∧ SqL K H a xs ∧ (∀ x ∈ xs, ∃ t, x = V.ref t ∧ H t = some (.tup [.int (key x).1, .int (key x).2])) ∧ 0 < xs.length ∧
  ∀ x, x ∈ xs → (∀ y ∈ xs, pltB (key x) (key y) = false) → Q x H
section
variable {X : Cx}
theorem gt_pair {A : Around} {s : Shared} {a b : Addr} {p q : Int × Int} {fi gi : Array Value} (hu : A.units < cLine) (h1 : IsTup s.heap a fi) (i1 : IntsAre fi.toList [p.1, p.2]) (h2 : IsTup s.heap b gi) (i2 : IntsAre gi.toList [q.1, q.2]) : Ob.RcOp .Gt A s (.ref a) (.ref b) (pltB q p) := by
  have e1 : fi.size = 2 := by rw [← Array.length_toList]; exact i1.length
  have e2 : gi.size = 2 := by rw [← Array.length_toList]; exact i2.length
  have at1 : ∀ j (h1 : j < fi.size), ∃ t, fi[j] = .int ([p.1, p.2].getD j 0) t := fun j h1 => PyProof.Rows.IntsAre.int_at i1 _ _ (by simp [h1])
  have at2 : ∀ j (h1 : j < gi.size), ∃ t, gi[j] = .int ([q.1, q.2].getD j 0) t := fun j h1 => PyProof.Rows.IntsAre.int_at i2 _ _ (by simp [h1])
  have R := Ob.RcOp.tuples_gt (A := A) (s := s) (e := fun j => decide ([p.1, p.2].getD j 0 = [q.1, q.2].getD j 0)) (r := fun j => decide ([q.1, q.2].getD j 0 < [p.1, p.2].getD j 0)) h1 h2 hu (fun j h1 h2 => by
    obtain ⟨t, et⟩ := at1 j h1
    obtain ⟨t', et'⟩ := at2 j h2
    rw [et, et']
    have z : ([p.1, p.2].getD j 0 == [q.1, q.2].getD j 0) = decide ([p.1, p.2].getD j 0 = [q.1, q.2].getD j 0) := by
      by_cases q' : [p.1, p.2].getD j 0 = [q.1, q.2].getD j 0
      · rw [decide_eq_true q']; exact beq_iff_eq.mpr q'
      · rw [decide_eq_false q']; exact beq_eq_false_iff_ne.mpr q'
    rw [← z]
    exact SeqAt.EqAt.int_int _ _ _ _) (fun j h1 h2 _ => by
    obtain ⟨t, et⟩ := at1 j h1
    obtain ⟨t', et'⟩ := at2 j h2
    rw [et, et']
    exact Ob.RcOp.gt_int _ _ _ _)
  have L := lexAt_gt [p.1, p.2] [q.1, q.2] 2 0 (by rfl) (Nat.zero_le _)
  have e3 : decide (fi.size > gi.size) = decide ([p.1, p.2].length > [q.1, q.2].length) := by rw [e1, e2]; rfl
  have e4 : min fi.size gi.size = 2 := by rw [e1, e2]; rfl
  rw [e3, e4, L] at R
  exact R
theorem cr_maxP (hu : X.A.units + 1 < cLine) (hc : X.calm = true) : CallR X (.builtin "max") (rMaxP X.K) := by
  intro pins s σ H vs us Q I r h
  obtain ⟨a, xs, key, rfl, hs, hx, h0, q⟩ := h
  obtain ⟨its, rv, hl, hz⟩ := I.list hs
  rw [Vals.ref1 r]
  obtain ⟨e1, e2⟩ := refs_back rv fun x m => by
    obtain ⟨t, e, _⟩ := hx x m
    exact ⟨t, e⟩
  have hh : X.A.handled = none := I.ok.hd hc
  have at_ : ∀ (j : Nat) (v : Value), its.toArray[j]? = some v → ∃ t fi, v = .ref t ∧ V.ref t ∈ xs ∧ IsTup s.heap t fi ∧ IntsAre fi.toList [(key (backV v)).1, (key (backV v)).2] := fun j v hv => by
    have hm : v ∈ its := List.mem_of_getElem? (by rw [List.getElem?_toArray] at hv; exact hv)
    obtain ⟨t, rfl⟩ := e2 v hm
    have hm2 : V.ref t ∈ xs := by rw [e1]; exact List.mem_map.mpr ⟨_, hm, rfl⟩
    obtain ⟨t', e, ht⟩ := hx _ hm2
    cases e
    obtain ⟨fi, t1, i1⟩ := tupI_of (ns := [(key (.ref t)).1, (key (.ref t)).2]) I ht
    exact ⟨t, fi, rfl, hm2, t1, i1⟩
  let kk : Nat → Int × Int := fun j => match its[j]? with
    | some v => key (backV v)
    | none => (0, 0)
  have kke : ∀ {j : Nat} {v : Value}, its.toArray[j]? = some v → kk j = key (backV v) := fun {j v} hv => by
    rw [List.getElem?_toArray] at hv
    show (match its[j]? with | some v => key (backV v) | none => (0, 0)) = _
    rw [hv]
  have n0 : 0 < its.toArray.size := by rw [List.size_toArray, ← rv.length]; exact h0
  have hl2 : s.heap.IsList a its.toArray := hl.isList
  have hlt : a < s.heap.objs.size := by obtain ⟨_, e, _⟩ := hl2; exact Heap.lt_size e
  refine call_max_walkK ?_
  refine wpAny_pyIter_list hl2 ?_
  refine ⟨s.heap.objs.size, [s.heap.objs.size, a], [s.heap.objs.size], its.toArray.size, fun i v => its.toArray[i]? = some v, _, fun i j => pltB (kk j) (kk i), fun h => ∀ b o, s.heap.get? b = some o → h.get? b = some o, rfl, Walks.list (A := X.A.in1) hh _ a (Nat.ne_of_lt hlt) its.toArray, ⟨⟨_, Heap.get?_push_size _ rfl, rfl, rfl⟩, hl2.push _⟩, fun b hb => ?_, n0, fun i j vi vj s' Q' E' hi hj hk hq => ?_, fun b o e => Heap.get?_push_of_some _ e, fun S hS h h' hk kp b o e => ?_, fun v h' tk hv kp => ?_⟩
  · show b < (s.heap.push _).objs.size
    rw [Heap.size_push]
    rcases List.mem_cons.mp hb with rfl | hb
    · exact Nat.lt_succ_self _
    · rcases List.mem_cons.mp hb with rfl | hb
      · exact Nat.lt_succ_of_lt hlt
      · cases hb
  · obtain ⟨t1, f1, rfl, _, p1, i1⟩ := at_ i vi hi
    obtain ⟨t2, f2, rfl, _, p2, i2⟩ := at_ j vj hj
    have g1 : IsTup s'.heap t1 f1 := by
      obtain ⟨o, ho, c⟩ := p1
      exact ⟨o, hk _ _ ho, c⟩
    have g2 : IsTup s'.heap t2 f2 := by
      obtain ⟨o, ho, c⟩ := p2
      exact ⟨o, hk _ _ ho, c⟩
    rw [← kke hi] at i1
    rw [← kke hj] at i2
    exact gt_pair (A := X.A.in1) (s := s') hu g1 i1 g2 i2 _ _ _ _ hq
  · have bl := Heap.lt_size e
    have : s.heap.objs.size < S := by
      have : (s.heap.push { cls := .type "list_iterator", data := .fields #[.ref a, .int 0 0] }).objs.size ≤ S := hS
      rw [Heap.size_push] at this
      omega
    exact kp b o (fun hm => by
      rw [List.mem_singleton.mp hm] at bl
      exact Nat.lt_irrefl _ bl) (fun z => by rw [z] at bl; exact Nat.lt_irrefl _ (Nat.lt_trans bl this)) (hk b o e)
  · obtain ⟨t, fi, rfl, hm, _, _⟩ := at_ _ v hv
    have kp2 : ∀ b o, s.heap.get? b = some o → h'.get? b = some o := fun b o e => kp b o (fun hm => by
      have bl := Heap.lt_size e
      rw [List.mem_singleton.mp hm] at bl
      exact Nat.lt_irrefl _ bl) (Heap.get?_push_of_some _ e)
    refine ⟨.ref t, H, I.kept (t' := tk) kp2, rfl, q _ hm fun y hy => ?_⟩
    have top := argBest_top (bt := fun i j => pltB (kk j) (kk i)) (fun i j l h1 h2 => SrtO.lexLt_trans _ _ _ h2 h1) (fun i => SrtO.lexLt_irr _) (its.toArray.size - 1)
    rw [e1] at hy
    obtain ⟨u, hu1, rfl⟩ := List.mem_map.mp hy
    obtain ⟨j, hj⟩ := List.mem_iff_getElem?.mp hu1
    have jl := (List.getElem?_eq_some_iff.mp hj).1
    have hj2 : its.toArray[j]? = some u := by rw [List.getElem?_toArray]; exact hj
    have := top j (by rw [List.size_toArray]; omega)
    have this : pltB (kk (argBest (fun i j => pltB (kk j) (kk i)) (its.toArray.size - 1))) (kk j) = false := this
    rw [kke hv, kke hj2] at this
    exact this
end
end L2
namespace Pm
open PySem PySem.Spec PyProof.Rows L2
open Classical
def bigP (p q : Int × Int) : Int × Int := if pltB p q = true then q else p
def maxPs : List (Int × Int) → Int × Int
  | [] => (0, 0)
  | p :: r => r.foldl bigP p
theorem bigs_top : ∀ (r : List (Int × Int)) (p : Int × Int), (r.foldl bigP p = p ∨ r.foldl bigP p ∈ r) ∧ pltB (r.foldl bigP p) p = false ∧ ∀ y ∈ r, pltB (r.foldl bigP p) y = false
  | [], p => ⟨.inl rfl, SrtO.lexLt_irr _, fun y hy => by cases hy⟩
  | x :: r, p => by
    obtain ⟨h1, h2, h3⟩ := bigs_top r (bigP p x)
    have e : (x :: r).foldl bigP p = r.foldl bigP (bigP p x) := rfl
    rw [e]
    have b1 : bigP p x = p ∨ bigP p x = x := by unfold bigP; split; exact .inr rfl; exact .inl rfl
    have b2 : ∀ z, pltB z (bigP p x) = false → pltB z p = false ∧ pltB z x = false := fun z hz => by
      unfold bigP at hz
      by_cases c : pltB p x = true
      · rw [if_pos c] at hz
        refine ⟨?_, hz⟩
        cases q : pltB z p with
        | false => rfl
        | true =>
          have tt : pltB z x = true := SrtO.lexLt_trans _ _ _ q c
          rw [tt] at hz; cases hz
      · rw [if_neg c] at hz
        refine ⟨hz, ?_⟩
        cases q : pltB z x with
        | false => rfl
        | true =>
          have c : pltB p x = false := by simpa using c
          cases q2 : pltB x p with
          | true =>
            have tt : pltB z p = true := SrtO.lexLt_trans _ _ _ q q2
            rw [tt] at hz; cases hz
          | false =>
            have := SrtO.lexLt_tri _ _ c q2
            simp only [List.cons.injEq, and_true] at this
            have ex : p = x := Prod.ext this.1 this.2
            rw [ex] at hz
            rw [hz] at q
            cases q
    obtain ⟨c1, c2⟩ := b2 _ h2
    refine ⟨?_, c1, fun y hy => ?_⟩
    · rcases h1 with h1 | h1
      · rw [h1]
        rcases b1 with b | b
        · exact .inl b
        · exact .inr (by rw [b]; exact List.mem_cons_self)
      · exact .inr (List.mem_cons_of_mem _ h1)
    · rcases List.mem_cons.mp hy with rfl | hy
      · exact c2
      · exact h3 y hy
theorem maxPs_top {ps : List (Int × Int)} (h : ps ≠ []) : maxPs ps ∈ ps ∧ ∀ y ∈ ps, pltB (maxPs ps) y = false := by
  cases ps with
  | nil => exact absurd rfl h
  | cons p r =>
    obtain ⟨h1, h2, h3⟩ := bigs_top r p
    refine ⟨?_, fun y hy => ?_⟩
    · rcases h1 with h1 | h1
      · show r.foldl bigP p ∈ _
        rw [h1]; exact List.mem_cons_self
      · exact List.mem_cons_of_mem _ h1
    · rcases List.mem_cons.mp hy with rfl | hy
      · exact h2
      · exact h3 y hy
theorem maxPs_uniq {ps : List (Int × Int)} {p : Int × Int} (hp : p ∈ ps) (h : ∀ y ∈ ps, pltB p y = false) : p = maxPs ps := by
  have ne : ps ≠ [] := fun e => by rw [e] at hp; cases hp
  obtain ⟨h1, h2⟩ := maxPs_top ne
  have := SrtO.lexLt_tri _ _ (h _ h1) (h2 _ hp)
  simp only [List.cons.injEq, and_true] at this
  exact Prod.ext this.1 this.2
def maxPD (d : Dt) : Rs Dt := match d with
  | .lst ds => (match prsOf ds with
    | some (p :: r) => .ok (prD (maxPs (p :: r)))
    | _ => .no)
  | _ => .no
def maxPE := op1E maxPD
section
variable {J : Jc} {Γ : List Mode} {F : Ev → Rs Dt} {te : TE}
theorem se_maxP (h : SemE J Γ .S F te) : SemE J Γ (.o .F) (maxPE F) (tCB (rMaxP J.K) (tCons te tNil)) := fun {G0 H0 G H ρ σ Q} w p => by
  refine h w (p.bind.imp (fun d _ q v G1 H1 P1 e1 _ r1 => ?_) fun _ q => q)
  cases d with
  | lst ds =>
    have q : Rs.Post _ _ (match prsOf ds with
      | some (p :: r) => Rs.ok (prD (maxPs (p :: r)))
      | _ => Rs.no) := q
    cases z : prsOf ds with
    | none => rw [z] at q; cases q
    | some ps =>
      rw [z] at q
      cases ps with
      | nil => cases q
      | cons p0 r0 =>
        obtain ⟨a, vs, rfl, hs, r⟩ := S_lst r1
        rw [prsOf_some z] at r
        obtain ⟨c1, c2⟩ := rps_pairs r
        refine ⟨a, vs, keyV G1, rfl, .of hs, fun x hx => ?_, ?_, fun x hx hm => ?_⟩
        · obtain ⟨t, e, ht⟩ := c1 x hx
          exact ⟨t, e, e1.gh _ _ ht⟩
        · have := congrArg List.length c2
          rw [List.length_map] at this
          rw [this]
          exact Nat.succ_pos _
        · have k1 : keyV G1 x = maxPs (p0 :: r0) := maxPs_uniq (by rw [← c2]; exact List.mem_map_of_mem hx) fun y hy => by
            rw [← c2] at hy
            obtain ⟨u, hu, rfl⟩ := List.mem_map.mp hy
            exact hm u hu
          obtain ⟨t, e, ht⟩ := c1 x hx
          rw [k1] at ht
          subst e
          exact q.of_ok (.ref t) G1 H1 Pno e1 Fr.no (.F (.tup ht (.cons (.int _) (.cons (.int _) .nil))))
  | _ => cases q
end
end Pm
namespace Pm
open PySem PySem.Spec PyProof.Rows L2
open Classical
/-! ### owned items of an owned list: left out, put otherwise -/
section
variable {J : Jc} {Γ Γ' : List Mode} {m : Mode} {Fe Fa Fi : Ev → Rs Dt} {Fp : Ev → Rs (Dt × (Dt → Ev))} {te ta ti : TE} {G0 H0 G H G' H' : Hp} {ρ : Ev} {σ : L2.St}
theorem Ows.eraseO {K : PySem.W.Frag} {ca : Str → Addr} : ∀ {ds : List Dt} {us : List V} {P : Addr → Prop} (j : Nat), Ows K ca G H (List.replicate ds.length m) ds us P → Ows K ca G H (List.replicate (ds.eraseIdx j).length m) (ds.eraseIdx j) (us.eraseIdx j) P
  | [], _, _, j, h => by cases h; simp; exact .nil
  | d :: ds, _, _, 0, h => by
    rw [List.length_cons, List.replicate_succ] at h
    cases h with
    | cons h1 h2 q1 q2 q3 => exact h2.weaken q2
  | d :: ds, _, _, j + 1, h => by
    rw [List.length_cons, List.replicate_succ] at h
    cases h with
    | @cons _ _ _ _ v us _ A B h1 h2 q1 q2 q3 =>
      have ih := Ows.eraseO j h2
      rw [List.eraseIdx_cons_succ, List.eraseIdx_cons_succ, List.length_cons, List.replicate_succ]
      exact .cons h1 ih q1 q2 q3
theorem Ows.setv {K : PySem.W.Frag} {ca : Str → Addr} {y : Dt} {v : V} {P1 : Addr → Prop} (o : Ow K ca G H m y v P1) : ∀ {ds : List Dt} {us : List V} {P : Addr → Prop} (j : Nat), Ows K ca G H (List.replicate ds.length m) ds us P → j < ds.length → (∀ b, P1 b → ¬ P b) → Ows K ca G H (List.replicate (ds.set j y).length m) (ds.set j y) (us.set j v) (fun b => P b ∨ P1 b)
  | [], _, _, j, _, hj, _ => absurd hj (Nat.not_lt_zero _)
  | d :: ds, _, _, 0, h, _, c => by
    rw [List.length_cons, List.replicate_succ] at h
    cases h with
    | @cons _ _ _ _ w us _ A B h1 h2 q1 q2 q3 =>
      show Ows K ca G H (List.replicate (y :: ds).length m) (y :: ds) (v :: us) _
      rw [List.length_cons, List.replicate_succ]
      exact .cons (P1 := P1) (P2 := B) o h2 (fun b => .inr) (fun b hb => .inl (q2 b hb)) fun b hb z => c b hb (q2 b z)
  | d :: ds, _, _, j + 1, h, hj, c => by
    rw [List.length_cons, List.replicate_succ] at h
    cases h with
    | @cons _ _ _ _ w us _ A B h1 h2 q1 q2 q3 =>
      have ih := Ows.setv o j h2 (by simpa using hj) fun b hb z => c b hb (q2 b z)
      show Ows K ca G H (List.replicate (d :: ds.set j y).length m) (d :: ds.set j y) (w :: us.set j v) _
      rw [List.length_cons, List.replicate_succ]
      refine .cons (P1 := A) (P2 := fun b => B b ∨ P1 b) h1 ih (fun b hb => .inl (q1 b hb)) (fun b hb => hb.imp (q2 b) id) fun b hb z => ?_
      rcases z with z | z
      · exact q3 b hb z
      · exact c b z (q1 b hb)
theorem popD_at {K : PySem.W.Frag} {ca : Str → Addr} {ds : List Dt} {us : List V} {k y : Dt} {es : List Dt} {v : V} (q : popD ds k = .ok (y, es)) (hl : ds.length = us.length) (rk : Rp K ca H k v) : ∃ (i : Int) (j : Nat) (u : V), v = .int i ∧ -(2 ^ 63) ≤ i ∧ i < 2 ^ 63 ∧ seqIndex? i us.length = some j ∧ us[j]? = some u ∧ es = ds.eraseIdx j := by
  cases rk with
  | int i =>
    have q : (match ixN ds.length i with
      | some j => (match ds[j]? with
        | some y => if intSz i = true then Rs.ok (y, ds.eraseIdx j) else .no
        | none => .no)
      | none => .no) = .ok (y, es) := q
    cases hj : ixN ds.length i with
    | none => rw [hj] at q; cases q
    | some j =>
      rw [hj] at q
      cases he : ds[j]? with
      | none => simp only [he] at q; cases q
      | some e =>
        simp only [he] at q
        obtain ⟨c, q⟩ := ok_if q
        cases q
        have c := intSz_ok c
        have jl := (List.getElem?_eq_some_iff.mp he).1
        refine ⟨i, j, us[j]'(by omega), rfl, by omega, by omega, ?_, List.getElem?_eq_getElem (by omega), rfl⟩
        rw [← hl]
        exact (ixN_seq hj).1
  | _ => cases q
theorem ss_popO (h : SemP J Γ Fp (.L m) te) (k : SemE J Γ .B Fe ta) (hx : Gx J Γ) : SemS J Γ Γ (popS Fp Fe) (tDrop (tBM J.K "list" rPopAt te (tCons ta tNil))) := fun {G0 H0 G H ρ σ D} w p => by
  refine h w ((PostS.bind w hx p).imp (fun x _ q v G1 H1 e1 f1 => ?_) fun _ q => q)
  obtain ⟨xd, xp⟩ := x
  have w1 := w.ext e1
  obtain ⟨ds, hz, q⟩ := q.bindx (fun _ => nx_lstOf)
  have ed := lstOf_ok hz
  have ed : xd = .lst ds := ed
  subst ed
  obtain ⟨a, us, Pin, rfl, hu, _⟩ := f1.chg w1 (Ext.refl w1.gh)
  refine ⟨.inl ⟨rfl, us, .of hu⟩, ?_⟩
  refine k w1 ((PostS.bind w1 hx (q.up e1.g)).imp (fun y _ q y' G2 H2 P2 e2 f2 o2 => ?_) fun _ q => q)
  obtain ⟨a', us', Pin', ea, hu', own, pr, fin⟩ := f1.chg w1 e2
  cases ea
  obtain ⟨⟨z, es⟩, hz2, q⟩ := q.bindx (fun _ => nx_pop)
  obtain ⟨i, j, u, rfl, i1, i2, i3, i4, rfl⟩ := popD_at hz2 own.len.1 o2
  refine ⟨a, us', i, j, u, rfl, rfl, hu', i1, i2, i3, i4, ?_⟩
  exact q.of_nx σ G2 _ e2.g (fin (ds.eraseIdx j) (us'.eraseIdx j) Pin' (own.eraseO j) fun b z => ⟨(pr b z).2.1, .inl z⟩)
def setM (ρ : Ev) (r : Nat) (y d k : Dt) : Ot := match d, k with
  | .lst ds, .int i => (match ixN ds.length i with
    | some j => .nx (ρ.set r (some (.lst (ds.set j y))))
    | none => .no)
  | _, _ => .no
theorem ss_setO {r : Nat} (hr : Γ[r]? = some (.L m)) (h : SemE J Γ (.o m) Fe te) (l : SemE J Γ .B Fi ti) (hx : Gx J Γ) : SemS J Γ Γ (setS Fe (varP r) Fi) (tAsg te (gSub (tVar r) ti rSetL)) := fun {G0 H0 G H ρ σ D} w p => by
  refine h w ((PostS.bind w hx p).imp (fun y _ q v G1 H1 P1 e1 f1 o1 => ?_) fun _ q => q)
  have w1 := w.ext e1
  have q := PostS.up e1.g q
  cases hq : ρ[r]? with
  | none => unfold varP at q; rw [hq] at q; cases q
  | some o =>
  cases o with
  | none => unfold varP at q; rw [hq] at q; cases q
  | some d =>
  have q : PostS J G0 H0 G1 Γ D (bindS (Fi ρ) ρ fun k => setM ρ r y d k) := by
    unfold varP at q
    rw [hq] at q
    exact q
  obtain ⟨Pf, en⟩ := w.env
  have en1 : EnvP J H0 Γ ρ σ G1 H1 Pf := EnvP.ext en e1
  obtain ⟨vr, mr, s1, s2, s3⟩ := en1.2.2 r d hq
  rw [hr] at s2
  cases s2
  refine ⟨vr, s1, ?_⟩
  refine l w1 ((PostS.bind w1 hx q).imp (fun i _ q v3 G3 H3 _ e3 _ o3 => ?_) fun _ q => q)
  have en3 : EnvP J H0 Γ ρ σ G3 H3 Pf := EnvP.ext en1 e3
  have c3 : Ow J.K J.ca G3 H3 (.L m) d vr (Pf r) := s3.carry e3.g fun b hb => by
    obtain ⟨a1, a2, a3⟩ := en1.2.1 r b hb
    exact ⟨e3.h.at a3, by rw [e3.base b a3]; exact a1⟩
  cases o3 with
  | int i =>
    cases c3 with
    | NL => cases q
    | @L _ a us ds _ h1 h2 h3 h4 =>
      have q : PostS J G0 H0 G1 Γ D (match ixN ds.length i with
        | some j => .nx (ρ.set r (some (.lst (ds.set j y))))
        | none => .no) := q
      cases hj : ixN ds.length i with
      | none => rw [hj] at q; cases q
      | some j =>
        rw [hj] at q
        have jl : j < ds.length := (ixN_seq hj).2.1
        refine ⟨a, us, i, j, rfl, rfl, h1, by rw [← h4.len.1]; exact hj, ?_⟩
        have p1 : ∀ b, P1 b → G3 b = none ∧ H0 b = none ∧ H3 b ≠ none ∧ H b = none := fun b hb => by
          obtain ⟨a1, a2, a3⟩ := f1 b hb
          exact ⟨by rw [e3.base b a3]; exact a1, w.x.h.free a2, e3.h.nn a3, a2⟩
        have pfH : ∀ k b, Pf k b → H b ≠ none := fun k b hb => (en.2.1 k b hb).2.2
        have other : ∀ b, b ≠ a → upd H3 a (.lst (us.set j v)) b = H3 b := fun b hb => upd_ne hb
        have nn : ∀ b, H3 b ≠ none → upd H3 a (.lst (us.set j v)) b ≠ none := fun b hb => by
          by_cases z : b = a
          · rw [z, upd_same]; exact fun z => by cases z
          · rw [other b z]; exact hb
        have hna : H0 a = none := (en3.2.1 r a h3).2.1
        have p1a : ∀ b, P1 b → b ≠ a := fun b hb z => pfH r a h3 (by rw [← z]; exact (p1 b hb).2.2.2)
        refine q.of_nx σ G3 _ e3.g ⟨((w.x.trans e1).trans e3).mut hna h2, by rw [List.length_set]; exact w.lg, by rw [List.length_set]; exact w.lr, ⟨fun k b => if k = r then Pf r b ∨ P1 b else Pf k b, fun k1 k2 b hk r1 r2 => ?_, fun k b r1 => ?_, fun k c r1 => ?_⟩, w.pn⟩
        · by_cases z1 : k1 = r
          · by_cases z2 : k2 = r
            · exact hk (z1.trans z2.symm)
            · simp only [z1, if_true] at r1
              simp only [z2, if_false] at r2
              rcases r1 with r1 | r1
              · exact en.1 r k2 b (fun z => z2 z.symm) r1 r2
              · exact pfH k2 b r2 (p1 b r1).2.2.2
          · simp only [z1, if_false] at r1
            by_cases z2 : k2 = r
            · simp only [z2, if_true] at r2
              rcases r2 with r2 | r2
              · exact en.1 k1 r b z1 r1 r2
              · exact pfH k1 b r1 (p1 b r2).2.2.2
            · simp only [z2, if_false] at r2
              exact en.1 k1 k2 b hk r1 r2
        · by_cases z : k = r
          · simp only [z, if_true] at r1
            rcases r1 with r1 | r1
            · obtain ⟨a1, a2, a3⟩ := en3.2.1 r b r1
              exact ⟨a1, a2, nn b a3⟩
            · obtain ⟨a1, a2, a3, _⟩ := p1 b r1
              exact ⟨a1, a2, nn b a3⟩
          · simp only [z, if_false] at r1
            obtain ⟨a1, a2, a3⟩ := en3.2.1 k b r1
            exact ⟨a1, a2, nn b a3⟩
        · by_cases z : k = r
          · subst z
            have hl : k < ρ.length := (List.getElem?_eq_some_iff.mp hq).1
            rw [List.getElem?_set_self hl] at r1
            cases r1
            refine ⟨.ref a, .L m, s1, hr, ?_⟩
            simp only [if_true]
            refine .L upd_same h2 (.inl h3) ?_
            have o4 : Ow J.K J.ca G3 (upd H3 a (.lst (us.set j v))) m y v P1 := o1.carry e3.g fun b hb => ⟨by rw [other b (p1a b hb)]; exact e3.h.at (f1 b hb).2.2, (p1 b hb).1⟩
            have h5 : Ows J.K J.ca G3 (upd H3 a (.lst (us.set j v))) (List.replicate ds.length m) ds us (fun b => Pf k b ∧ b ≠ a) := h4.carry (Same.refl _) fun b hb => ⟨other b hb.2, (en3.2.1 k b hb.1).1⟩
            refine (Ows.setv o4 j h5 jl fun b hb z => pfH k b z.1 (p1 b hb).2.2.2).weaken fun b hb => ?_
            rcases hb with hb | hb
            · exact ⟨.inl hb.1, hb.2⟩
            · exact ⟨.inr hb, p1a b hb⟩
          · rw [List.getElem?_set_ne (Ne.symm z)] at r1
            obtain ⟨v2, m2, x1, x2, x3⟩ := en3.2.2 k c r1
            refine ⟨v2, m2, x1, x2, ?_⟩
            simp only [z, if_false]
            exact x3.carry (Same.refl _) fun b hb => ⟨other b fun e => en.1 k r b z hb (by rw [e]; exact h3), (en3.2.1 k b hb).1⟩
  | _ => cases d <;> cases q
end
end Pm
namespace Pm
open PySem PySem.Spec PyProof.Rows L2
open Classical
/-! ### for k, x in P, where x, a part of an owned pair, is changed in place: the part is lent to the name -/
def pairD : Dt → Option (Dt × Dt)
  | .tup [k, e] => some (k, e)
  | _ => none
theorem pairD_some {d k e : Dt} (h : pairD d = some (k, e)) : d = .tup [k, e] := by
  unfold pairD at h
  split at h
  · cases h; rfl
  · cases h
def forTL (j : Nat) (pth : Option Nat) (kd x : Nat) (Fb : Ev → Ot) : Nat → Nat → Ev → Ot
  | 0, _, ρ => .nx ρ
  | n + 1, i, ρ => match ρ[j]? with
    | some (some d) => match tgetD pth d with
      | some (.lst ds) => match (ds[i]?).bind pairD with
        | some (k, e) => match Fb (((ρ.set j none).set x (some e)).set kd (some k)) with
          | .nx ρ2 => (match ρ2[x]? with
            | some (some e') => forTL j pth kd x Fb n (i + 1) ((ρ2.set x none).set j (some (tputD pth d (.lst (ds.set i (.tup [k, e']))))))
            | _ => .no)
          | .ct ρ2 => (match ρ2[x]? with
            | some (some e') => forTL j pth kd x Fb n (i + 1) ((ρ2.set x none).set j (some (tputD pth d (.lst (ds.set i (.tup [k, e']))))))
            | _ => .no)
          | .bk ρ2 => (match ρ2[x]? with
            | some (some e') => .nx ((ρ2.set x none).set j (some (tputD pth d (.lst (ds.set i (.tup [k, e']))))))
            | _ => .no)
          | .rt d => .rt d
          | _ => .no
        | none => .no
      | _ => .no
    | _ => .no
def forT (j : Nat) (pth : Option Nat) (kd x : Nat) (Fb : Ev → Ot) (ρ : Ev) : Ot := match ρ[j]? with
  | some (some d) => match tgetD pth d with
    | some (.lst ds) => forTL j pth kd x Fb ds.length 0 ρ
    | _ => .no
  | _ => .no
section
variable {J : Jc} {Γ Γ' Γ1 Γ2 Γb : List Mode} {em : EM} {m M : Mode} {ms : List Mode} {F Fe Fa Fb Fd Fk Fi : Ev → Rs Dt} {Fs : List (Ev → Rs Dt)} {te ta tb ti : TE} {tr : TA} {G0 H0 Gs G H G' H' : Hp} {ρ : Ev} {σ : L2.St} {vs : List Nat}
  {ts t1 t2 : TS} {D : Ends} {d : Dt} {v : V} {put : Dt → Ev} {Fp : Ev → Rs (Dt × (Dt → Ev))}
/-- down to the list, to one of its pairs, to the pair's second part -/
theorem Ow.lens2 {K : PySem.W.Frag} {ca : Str → Addr} {G H : Hp} {m M : Mode} {pth : Option Nat} {d : Dt} {v : V} {P : Addr → Prop} {ds : List Dt} {i : Nat} {k e : Dt} (o : Ow K ca G H M d v P) (hM : tmode pth M = some (.L (.T [.F, m]))) (hd : tgetD pth d = some (.lst ds)) (hi : ds[i]? = some (.tup [k, e])) :
    ∃ a us c vk u Pk, H a = some (.lst us) ∧ us[i]? = some (.ref c) ∧ ds.length = us.length ∧ P a ∧ ¬ Pk a ∧ stQ H v a (fun b => P b ∧ ¬ Pk b) pth ∧ H c = some (.tup [vk, u]) ∧ P c ∧ ¬ Pk c ∧ Rp K ca G k vk ∧ Ow K ca G H m e u Pk ∧ (∀ b, Pk b → P b) ∧
      ∀ G2 H2 d2 P2, Same G G2 → (∀ b, P b → ¬ Pk b → H2 b = H b ∧ G2 b = none) → Ow K ca G2 H2 m d2 u P2 → (∀ b, P2 b → Pk b ∨ ¬ P b) → Ow K ca G2 H2 M (tputD pth d (.lst (ds.set i (.tup [k, d2])))) v (fun b => (P b ∧ ¬ Pk b) ∨ P2 b) := by
  obtain ⟨a, us, ui, PI, g1, g2, g3, g4, g5, g6, g7, g8, g9⟩ := o.lens hM hd hi
  cases g7 with
  | @T _ c vs _ _ h1 h2 h3 h4 =>
    cases h4 with
    | @cons _ _ _ _ vk vs1 _ A B0 hk hr q1 q2 q3 =>
      cases hr with
      | @cons _ _ _ _ u vs2 _ B C0 he hn r1 r2 r3 =>
        cases hn
        cases hk with
        | F rk =>
          have bI : ∀ b, B b → PI b ∧ b ≠ c := fun b hb => q2 b (r1 b hb)
          have nc : ¬ B c := fun z => (bI c z).2 rfl
          have na : ¬ B a := fun z => g5 (bI a z).1
          refine ⟨a, us, c, vk, u, B, g1, g2, g3, g4, na, ?_, h1, g8 c h3, nc, rk, he, fun b hb => g8 b (bI b hb).1, fun G2 H2 d2 P2 sg cc o2 c2 => ?_⟩
          · cases pth with
            | none => exact g6
            | some n =>
              obtain ⟨b, ws, x1, x2, x3, x4, x5⟩ := g6
              exact ⟨b, ws, x1, x2, x3, x4, fun z => x5 (bI b z).1⟩
          · have cc2 := cc c (g8 c h3) nc
            have p2c : ∀ b, P2 b → b ≠ c := fun b hb z => by
              rcases c2 b hb with y | y
              · exact nc (z ▸ y)
              · exact y (z ▸ g8 c h3)
            have item : Ow K ca G2 H2 (.T [.F, m]) (.tup [k, d2]) (.ref c) (fun b => (PI b ∧ ¬ B b) ∨ P2 b) := by
              refine .T (by rw [cc2.1]; exact h1) cc2.2 (.inl ⟨h3, nc⟩) ?_
              exact .cons (P1 := Pno) (P2 := P2) (.F (rk.mono sg)) (.cons (P1 := P2) (P2 := Pno) o2 .nil (fun _ z => z) (fun _ z => z.elim) (fun _ _ z => z)) (fun _ z => z.elim) (fun b hb => ⟨.inr hb, p2c b hb⟩) fun _ z => z.elim
            refine (g9 G2 H2 (.tup [k, d2]) (fun b => (PI b ∧ ¬ B b) ∨ P2 b) sg (fun b hb hn => cc b hb fun z => hn (bI b z).1) item fun b hb => ?_).weaken fun b hb => ?_
            · rcases hb with hb | hb
              · exact .inl hb.1
              · exact (c2 b hb).imp (fun z => (bI b z).1) id
            · rcases hb with ⟨z1, z2⟩ | ⟨z1, z2⟩ | z
              · exact .inl ⟨z1, fun t => z2 (bI b t).1⟩
              · exact .inl ⟨g8 b z1, z2⟩
              · exact .inr z
theorem ss_forMT {j kd x : Nat} {pth : Option Nat} {F : Ev → Ot} (hj : Γ[j]? = some M) (hM : tmode pth M = some (.L (.T [.F, m]))) (hx : j ≠ x) (hkx : kd ≠ x) (hkj : kd ≠ j) (hkm : Γ[kd]? = some .F) (hxl : x < Γ.length) (hpx : J.pin = []) (hb : ∀ v u, SemS (J.lpM (Γ.set x m) [(j, v), (x, u)]) (Γ.set x m) (Γ.set x m) F ts) :
    SemS J Γ Γ (forT j pth kd x F) (tFor (iSeqA J.K (tPth J.K j pth)) (gTup J.K 2 (gCons (gName kd) (gCons (gName x) gNil))) ts) := fun {G0 H0 G H ρ σ D} w p => by
  unfold forT at p
  cases hq : ρ[j]? with
  | none => rw [hq] at p; cases p
  | some o =>
  cases o with
  | none => rw [hq] at p; cases p
  | some d =>
  rw [hq] at p
  dsimp only at p
  cases hd : tgetD pth d with
  | none => rw [hd] at p; cases p
  | some dl =>
  rw [hd] at p
  cases dl with
  | lst ds =>
    have p : PostS J G0 H0 G Γ D (forTL j pth kd x F ds.length 0 ρ) := p
    obtain ⟨v0, m0, P0, s1, s2, s3, s4⟩ := w.get hq
    rw [hj] at s2
    cases s2
    obtain ⟨a, us, ha, hl, hv⟩ := s3.lst_at hM hd
    have rd : ∀ Q : VK, Q (.ref a) H → tPth J.K j pth σ H Q := fun Q q => by
      cases pth with
      | none =>
        have hv : v0 = .ref a := hv
        exact ⟨v0, s1, by rw [hv]; exact q⟩
      | some k =>
        obtain ⟨b, ws, rfl, hb, hw, _⟩ := hv
        rcases hb with hb | hb
        · exact ⟨_, s1, .inr (.inl ⟨b, ws, _, _, rfl, rfl, .of hb, L2.atI_nat hw, q⟩)⟩
        · exact ⟨_, s1, .inl ⟨b, ws, _, _, rfl, rfl, .of hb, L2.atI_nat hw, q⟩⟩
    refine .inl (rd _ ⟨a, rfl, ⟨us, .of ha⟩, ?_⟩)
    refine ⟨fun i n σ' Hi => ∃ G' ρ' d' ds', n = ds'.length - i ∧ i ≤ ds'.length ∧ Wd J G0 H0 Γ ρ' σ' G' Hi ∧ Same G G' ∧ ρ'[j]? = some (some d') ∧ tgetD pth d' = some (.lst ds') ∧ σ'[j]? = some (some v0) ∧ (∃ us', Hi a = some (.lst us') ∧ us'.length = ds'.length) ∧ stQ Hi v0 a (fun _ => True) pth ∧ PostS J G0 H0 G' Γ D (forTL j pth kd x F (ds'.length - i) i ρ'),
      ⟨ds.length, G, ρ, d, ds, by simp, Nat.zero_le _, w, Same.refl _, hq, hd, s1, ⟨us, ha, hl.symm⟩, hv, p⟩, ?_⟩
    rintro i n σ' Hi ⟨G', ρ', d', ds', rfl, hi', w', sg, hq', hd', sj, ⟨us', ha', hl'⟩, hv', q'⟩
    by_cases hlt : i < ds'.length
    case neg =>
      have ei : i = ds'.length := by omega
      subst ei
      rw [Nat.sub_self] at q'
      exact .inl ⟨⟨us', .of ha', by omega⟩, PostS.of_nx q' σ' G' Hi (Same.refl _) w'⟩
    have he : ds'[i]? = some ds'[i] := List.getElem?_eq_getElem hlt
    have hn : ds'.length - i = (ds'.length - (i + 1)) + 1 := by omega
    rw [hn] at q'
    unfold forTL at q'
    rw [hq'] at q'
    dsimp only at q'
    rw [hd'] at q'
    dsimp only at q'
    rw [he] at q'
    dsimp only [Option.bind] at q'
    obtain ⟨kk, e, hp⟩ : ∃ kk e, pairD ds'[i] = some (kk, e) := by
      cases hp : pairD ds'[i] with
      | none => rw [hp] at q'; cases q'
      | some pr => exact ⟨pr.1, pr.2, rfl⟩
    rw [hp] at q'
    dsimp only at q'
    have hke := pairD_some hp
    rw [hke] at he
    obtain ⟨Pf, k1, k2, k3⟩ := w'.env
    obtain ⟨v1, m1, t1, t2, t3⟩ := k3 j d' hq'
    rw [hj] at t2
    cases t2
    rw [sj] at t1
    cases t1
    obtain ⟨a2, us2, c, vk, u, Pk, g1, g2, g3, g4, g5, g6, gc1, gc2, gc3, rk, g7, g8, g9⟩ := t3.lens2 hM hd' he
    have ea : a2 = a := by
      cases pth with
      | none =>
        have h1 : v0 = .ref a2 := g6
        have h2 : v0 = .ref a := hv'
        rw [h1] at h2
        exact V.ref.inj h2
      | some k =>
        obtain ⟨b, ws, h1, h2, h3, _⟩ := g6
        obtain ⟨b', ws', h1', h2', h3', _⟩ := hv'
        rw [h1] at h1'
        cases h1'
        have ew : ws = ws' := by
          rcases h2 with h2 | h2 <;> rcases h2' with h2' | h2' <;> (rw [h2] at h2'; first | (cases h2'; done) | (cases h2'; rfl))
        subst ew
        rw [h3] at h3'
        cases h3'
        rfl
    subst ea
    rw [ha'] at g1
    cases g1
    refine .inr ⟨⟨us', .ref c, .of ha', g2⟩, fun σ2 H2 => ∃ m', m' < ds'.length - i ∧ ∃ G' ρ' d' ds', m' = ds'.length - (i + 1) ∧ i + 1 ≤ ds'.length ∧ Wd J G0 H0 Γ ρ' σ2 G' H2 ∧ Same G G' ∧ ρ'[j]? = some (some d') ∧ tgetD pth d' = some (.lst ds') ∧ σ2[j]? = some (some v0) ∧ (∃ us', H2 a2 = some (.lst us') ∧ us'.length = ds'.length) ∧ stQ H2 v0 a2 (fun _ => True) pth ∧ PostS J G0 H0 G' Γ D (forTL j pth kd x F (ds'.length - (i + 1)) (i + 1) ρ'), fun σ2 H2 z => z, ?_⟩
    rintro u2 H3 ⟨rfl, y2⟩
    have eu := y2 us' (.of ha')
    rw [g2] at eu
    cases eu
    refine ⟨c, [vk, u], rfl, .of gc1, rfl, ⟨vk, [u], rfl, ⟨u, [], rfl, ⟨rfl, ?_⟩⟩⟩⟩
    show ts _ ((σ'.set kd (some vk)).set x (some u)) H3
    rw [List.set_comm _ _ hkx]
    -- the world of the body
    have lx : ρ'.length = σ'.length := w'.lr
    have lj : j < ρ'.length := (List.getElem?_eq_some_iff.mp hq').1
    have lxl : x < ρ'.length := by rw [← w'.lg]; exact hxl
    let HF : Hp := fun b => if H0 b ≠ none ∨ (Pf j b ∧ ¬ Pk b) then H3 b else none
    have hf0 : ∀ b, HF b = none → H0 b = none := fun b hb => by
      cases z : H0 b with
      | none => rfl
      | some o =>
        have e1 : HF b = H3 b := if_pos (.inl (by rw [z]; intro h; cases h))
        rw [e1, w'.x.h _ _ z] at hb
        cases hb
    have hfin : ∀ b, HF b ≠ none → H0 b ≠ none ∨ (Pf j b ∧ ¬ Pk b) := fun b hb => by
      by_cases z : H0 b ≠ none ∨ (Pf j b ∧ ¬ Pk b)
      · exact z
      · exact absurd (if_neg z) hb
    have hfE : ∀ b, Pf j b → ¬ Pk b → HF b = H3 b := fun b h1 h2 => if_pos (.inr ⟨h1, h2⟩)
    have sHF : Same HF H3 := fun b o hb => by
      by_cases z : H0 b ≠ none ∨ (Pf j b ∧ ¬ Pk b)
      · have e1 : HF b = H3 b := if_pos z
        rw [← e1]; exact hb
      · have e1 : HF b = none := if_neg z
        rw [e1] at hb; cases hb
    have wb : Wd (J.lpM (Γ.set x m) [(j, v0), (x, u)]) G' HF (Γ.set x m) ((ρ'.set j none).set x (some e)) (σ'.set x (some u)) G' H3 := by
      refine ⟨⟨Same.refl _, sHF, w'.gh, fun _ _ => rfl⟩, by simp only [List.length_set]; exact w'.lg, by simp only [List.length_set]; exact w'.lr, ⟨fun k => if k = x then Pk else if k = j then Pno else Pf k, fun k l b hkl r s => ?_, fun k b r => ?_, fun k c r => ?_⟩, fun k v h => ?_⟩
      · by_cases hk : k = x
        · simp only [hk, if_true] at r
          by_cases hl2 : l = x
          · exact hkl (hk.trans hl2.symm)
          · simp only [hl2, if_false] at s
            by_cases hlj : l = j
            · simp only [hlj, if_true] at s; exact s.elim
            · simp only [hlj, if_false] at s
              exact k1 l j b hlj s (g8 b r)
        · simp only [hk, if_false] at r
          by_cases hkj : k = j
          · simp only [hkj, if_true] at r; exact r.elim
          · simp only [hkj, if_false] at r
            by_cases hl2 : l = x
            · simp only [hl2, if_true] at s
              exact k1 k j b hkj r (g8 b s)
            · simp only [hl2, if_false] at s
              by_cases hlj : l = j
              · simp only [hlj, if_true] at s; exact s.elim
              · simp only [hlj, if_false] at s
                exact k1 k l b hkl r s
      · by_cases hk : k = x
        · simp only [hk, if_true] at r
          obtain ⟨a1, a2', a3⟩ := k2 j b (g8 b r)
          refine ⟨a1, ?_, a3⟩
          exact if_neg fun z => by
            rcases z with z | z
            · exact z a2'
            · exact z.2 r
        · simp only [hk, if_false] at r
          by_cases hkj : k = j
          · simp only [hkj, if_true] at r
            exact r.elim
          · simp only [hkj, if_false] at r
            obtain ⟨a1, a2', a3⟩ := k2 k b r
            refine ⟨a1, ?_, a3⟩
            exact if_neg fun z => by
              rcases z with z | z
              · exact z a2'
              · exact k1 k j b hkj r z.1
      · by_cases hk : k = x
        · subst hk
          have hl3 : k < ρ'.length := by
            have z := (List.getElem?_eq_some_iff.mp r).1
            simpa using z
          rw [List.getElem?_set_self (by rw [List.length_set]; exact hl3)] at r
          cases r
          refine ⟨u, m, List.getElem?_set_self (by rw [← lx]; exact hl3), List.getElem?_set_self (by rw [w'.lg]; exact hl3), ?_⟩
          simp only [if_true]
          exact g7
        · rw [List.getElem?_set_ne (Ne.symm hk)] at r
          by_cases hkj : k = j
          · subst hkj
            rw [List.getElem?_set_self lj] at r
            cases r
          · rw [List.getElem?_set_ne (Ne.symm hkj)] at r
            obtain ⟨v2, m2, x1, x2, x3⟩ := k3 k c r
            refine ⟨v2, m2, by rw [List.getElem?_set_ne (Ne.symm hk)]; exact x1, by rw [List.getElem?_set_ne (Ne.symm hk)]; exact x2, ?_⟩
            simp only [hk, hkj, if_false]
            exact x3
      · rcases List.mem_cons.mp h with h | h
        · cases h
          rw [List.getElem?_set_ne (Ne.symm hx)]
          exact sj
        · cases (List.mem_singleton.mp h)
          exact List.getElem?_set_self (by rw [← lx]; exact lxl)
    have wb2 : Wd (J.lpM (Γ.set x m) [(j, v0), (x, u)]) G' HF (Γ.set x m) (((ρ'.set j none).set x (some e)).set kd (some kk)) ((σ'.set x (some u)).set kd (some vk)) G' H3 := by
      have fr : (J.lpM (Γ.set x m) [(j, v0), (x, u)]).free kd := by
        show pinB [(j, v0), (x, u)] kd = true
        simp [pinB, Ne.symm hkj, Ne.symm hkx]
      have w2 := wb.set (Ext.refl wb.gh) (.F (P := Pno) rk) (Fr.no (G := G')) kd fr
      have ss : (Γ.set x m).set kd .F = Γ.set x m := set_same (by rw [List.getElem?_set_ne (Ne.symm hkx)]; exact hkm)
      rw [ss] at w2
      exact w2
    -- back
    have back : ∀ {ρ2 : Ev} {σ5 : L2.St} {G5 H5 : Hp} {e' : Dt}, ρ2[x]? = some (some e') → Same G' G5 → Wd (J.lpM (Γ.set x m) [(j, v0), (x, u)]) G' HF (Γ.set x m) ρ2 σ5 G5 H5 →
        Wd J G0 H0 Γ ((ρ2.set x none).set j (some (tputD pth d' (.lst (ds'.set i (.tup [kk, e'])))))) σ5 G5 H5 ∧ σ5[j]? = some (some v0) ∧ (∀ b, Pf j b → ¬ Pk b → H5 b = H3 b) ∧ j < ρ2.length := fun {ρ2 σ5 G5 H5 e'} hx2 sg5 w5 => by
      obtain ⟨Qf, r1, r2, r3⟩ := w5.env
      have sj5 : σ5[j]? = some (some v0) := w5.pn j v0 List.mem_cons_self
      have sx5 : σ5[x]? = some (some u) := w5.pn x u (List.mem_cons_of_mem _ List.mem_cons_self)
      obtain ⟨v5, m5, x1, x2, x3⟩ := r3 x e' hx2
      rw [sx5] at x1
      cases x1
      rw [List.getElem?_set_self hxl] at x2
      cases x2
      have fr : ∀ b, Pf j b → ¬ Pk b → H5 b = H3 b ∧ G5 b = none := fun b h1 h2 => by
        have hne : HF b ≠ none := by rw [hfE b h1 h2]; exact (k2 j b h1).2.2
        constructor
        · have := w5.x.h.at hne
          rw [this]; exact hfE b h1 h2
        · rw [w5.x.base b hne]; exact (k2 j b h1).1
      have lj5 : j < ρ2.length := by
        rw [w5.lr]; exact (List.getElem?_eq_some_iff.mp sj5).1
      have q2 : ∀ b, Qf x b → Pk b ∨ ¬ Pf j b := fun b hb => by
        by_cases z : Pk b
        · exact .inl z
        · refine .inr fun y => ?_
          have := (r2 x b hb).2.1
          rw [hfE b y z] at this
          exact (k2 j b y).2.2 this
      have own := g9 G5 H5 e' (Qf x) sg5 fr x3 q2
      have wl : ρ2.length = Γ.length := by have := w5.lg; rw [List.length_set] at this; exact this.symm
      refine ⟨⟨⟨w'.x.g.trans sg5, fun b o hb => ?_, w5.x.gh, fun b hb => ?_⟩, by simp only [List.length_set]; exact wl.symm, by simp only [List.length_set]; exact w5.lr, ⟨fun k b => if k = j then (Pf j b ∧ ¬ Pk b) ∨ Qf x b else if k = x then False else Qf k b, fun k l b hkl r s => ?_, fun k b r => ?_, fun k c r => ?_⟩, fun k v h => by rw [hpx] at h; cases h⟩, sj5, fun b h1 h2 => (fr b h1 h2).1, lj5⟩
      · have e1 : HF b = H3 b := if_pos (.inl (by rw [hb]; intro h; cases h))
        exact w5.x.h b o (by rw [e1]; exact w'.x.h b o hb)
      · have e1 : HF b ≠ none := by
          have e1 : HF b = H3 b := if_pos (.inl hb)
          rw [e1]; exact w'.x.h.nn hb
        rw [w5.x.base b e1]
        exact w'.x.base b hb
      · have frame : ∀ k b, k ≠ j → k ≠ x → Qf k b → ¬ ((Pf j b ∧ ¬ Pk b) ∨ Qf x b) := fun k b h1 h2 h3 h4 => by
          rcases h4 with h4 | h4
          · have := (r2 k b h3).2.1
            rw [hfE b h4.1 h4.2] at this
            exact (k2 j b h4.1).2.2 this
          · exact r1 k x b h2 h3 h4
        by_cases hk : k = j
        · simp only [hk, if_true] at r
          by_cases hl2 : l = j
          · exact hkl (hk.trans hl2.symm)
          · simp only [hl2, if_false] at s
            by_cases hlx : l = x
            · simp only [hlx, if_true] at s
            · simp only [hlx, if_false] at s
              exact frame l b hl2 hlx s r
        · simp only [hk, if_false] at r
          by_cases hkx : k = x
          · simp only [hkx, if_true] at r
          · simp only [hkx, if_false] at r
            by_cases hl2 : l = j
            · simp only [hl2, if_true] at s
              exact frame k b hk hkx r s
            · simp only [hl2, if_false] at s
              by_cases hlx : l = x
              · simp only [hlx, if_true] at s
              · simp only [hlx, if_false] at s
                exact r1 k l b hkl r s
      · by_cases hk : k = j
        · simp only [hk, if_true] at r
          rcases r with r | r
          · obtain ⟨a1, a2', a3⟩ := k2 j b r.1
            exact ⟨(fr b r.1 r.2).2, a2', by rw [(fr b r.1 r.2).1]; exact a3⟩
          · obtain ⟨a1, a2', a3⟩ := r2 x b r
            exact ⟨a1, hf0 b a2', a3⟩
        · simp only [hk, if_false] at r
          by_cases hkx : k = x
          · simp only [hkx, if_true] at r
          · simp only [hkx, if_false] at r
            obtain ⟨a1, a2', a3⟩ := r2 k b r
            exact ⟨a1, hf0 b a2', a3⟩
      · by_cases hk : k = j
        · subst hk
          rw [List.getElem?_set_self (by rw [List.length_set]; exact lj5)] at r
          cases r
          refine ⟨v0, M, sj5, hj, ?_⟩
          simp only [if_true]
          exact own
        · rw [List.getElem?_set_ne (Ne.symm hk)] at r
          by_cases hkx : k = x
          · subst hkx
            rw [List.getElem?_set_self (by rw [wl]; exact hxl)] at r
            cases r
          · rw [List.getElem?_set_ne (Ne.symm hkx)] at r
            obtain ⟨v2, m2, y1, y2, y3⟩ := r3 k c r
            refine ⟨v2, m2, y1, by rw [List.getElem?_set_ne (Ne.symm hkx)] at y2; exact y2, ?_⟩
            simp only [hk, hkx, if_false]
            exact y3
    have hsj : ∀ (ρ2 : Ev) (e' : Dt), j < ρ2.length → ((ρ2.set x none).set j (some (tputD pth d' (.lst (ds'.set i (.tup [kk, e']))))))[j]? = some (some (tputD pth d' (.lst (ds'.set i (.tup [kk, e']))))) := fun ρ2 e' h => List.getElem?_set_self (by rw [List.length_set]; exact h)
    have nxt : ∀ (ρ2 : Ev), PostS J G0 H0 G' Γ D (match ρ2[x]? with
            | some (some e') => forTL j pth kd x F (ds'.length - (i + 1)) (i + 1) ((ρ2.set x none).set j (some (tputD pth d' (.lst (ds'.set i (.tup [kk, e']))))))
            | _ => .no) → ∀ σ5 G5 H5, Same G' G5 → Wd (J.lpM (Γ.set x m) [(j, v0), (x, u)]) G' HF (Γ.set x m) ρ2 σ5 G5 H5 → ∃ m', m' < ds'.length - i ∧ ∃ G' ρ' d' ds', m' = ds'.length - (i + 1) ∧ i + 1 ≤ ds'.length ∧ Wd J G0 H0 Γ ρ' σ5 G' H5 ∧ Same G G' ∧ ρ'[j]? = some (some d') ∧ tgetD pth d' = some (.lst ds') ∧ σ5[j]? = some (some v0) ∧ (∃ us', H5 a2 = some (.lst us') ∧ us'.length = ds'.length) ∧ stQ H5 v0 a2 (fun _ => True) pth ∧ PostS J G0 H0 G' Γ D (forTL j pth kd x F (ds'.length - (i + 1)) (i + 1) ρ') := fun ρ2 q5 σ5 G5 H5 sg5 w5 => by
      cases hx2 : ρ2[x]? with
      | none => rw [hx2] at q5; cases q5
      | some o =>
      cases o with
      | none => rw [hx2] at q5; cases q5
      | some e' =>
      rw [hx2] at q5
      obtain ⟨w6, sj5, fr, lj5⟩ := back hx2 sg5 w5
      refine ⟨ds'.length - (i + 1), by omega, G5, _, _, ds'.set i (.tup [kk, e']), by rw [List.length_set], by rw [List.length_set]; omega, w6, sg.trans sg5, hsj ρ2 e' lj5, tput_len hd', sj5, ⟨us', by rw [fr a2 g4 g5]; exact ha', by rw [List.length_set]; exact hl'⟩, ?_, by rw [List.length_set]; exact q5.up sg5⟩
      cases pth with
      | none => exact g6
      | some k =>
        obtain ⟨b, ws, h1, h2, h3, h4, h5⟩ := g6
        exact ⟨b, ws, h1, by rw [fr b h4 h5]; exact h2, h3, True.intro⟩
    have cvt : ∀ d, PostS J G0 H0 G' Γ D (.rt d) → ∀ v G5 H5 P, Ext G' HF G5 H5 → Fr G5 HF H5 P → Ow J.K J.ca G5 H5 J.mr d v P → D.rt v H5 := fun d p5 v G5 H5 P e5 f5 o5 => by
      refine p5.of_rt v G5 H5 P ⟨w'.x.g.trans e5.g, fun b o hb => ?_, e5.gh, fun b hb => ?_⟩ (fun b hb => ⟨(f5 b hb).1, hf0 b (f5 b hb).2.1, (f5 b hb).2.2⟩) o5
      · have e1 : HF b = H3 b := if_pos (.inl (by rw [hb]; intro h; cases h))
        exact e5.h b o (by rw [e1]; exact w'.x.h b o hb)
      · have e1 : HF b ≠ none := by
          have e1 : HF b = H3 b := if_pos (.inl hb)
          rw [e1]; exact w'.x.h.nn hb
        rw [e5.base b e1]
        exact w'.x.base b hb
    refine hb v0 u wb2 ?_
    cases hB : F (((ρ'.set j none).set x (some e)).set kd (some kk)) with
    | nx r => rw [hB] at q'; exact .nx (nxt r q')
    | ct r => rw [hB] at q'; exact .ct (nxt r q')
    | rt r => rw [hB] at q'; exact .rt (cvt r q')
    | bk r =>
      rw [hB] at q'
      refine .bk fun σ5 G5 H5 sg5 w5 => ?_
      have q5 : PostS J G0 H0 G' Γ D (match r[x]? with
            | some (some e') => .nx ((r.set x none).set j (some (tputD pth d' (.lst (ds'.set i (.tup [kk, e']))))))
            | _ => .no) := q'
      cases hx2 : r[x]? with
      | none => rw [hx2] at q5; cases q5
      | some o =>
      cases o with
      | none => rw [hx2] at q5; cases q5
      | some e' =>
      rw [hx2] at q5
      obtain ⟨w6, sj5, fr, lj5⟩ := back hx2 sg5 w5
      exact q5.of_nx σ5 G5 H5 sg5 w6
    | ex c r => rw [hB] at q'; cases q'
    | no => rw [hB] at q'; cases q'
  | _ => cases p
end
end Pm
namespace Pm
open PySem PySem.Spec PyProof.Rows L2
open Classical
section
variable {J : Jc} {Γ Γ' : List Mode} {m : Mode} {ns : List Mode} {Fe Fa Fi : Ev → Rs Dt} {Fs : List (Ev → Rs Dt)} {Fn : List Dt → Rs Dt} {np : Nat} {Fp : Ev → Rs (Dt × (Dt → Ev))} {te ta ti : TE} {tr : TA} {G0 H0 G H G' H' : Hp} {ρ : Ev} {σ : L2.St}
/-- P.extend(e), e a new list that owns its items -/
theorem ss_extO (h : SemP J Γ Fp (.L m) te) (k : SemE J Γ (.o (.L m)) Fe ta) (hx : Gx J Γ) : SemS J Γ Γ (extS Fp Fe) (tDrop (tBM J.K "list" rExtend te (tCons ta tNil))) := fun {G0 H0 G H ρ σ D} w p => by
  refine h w ((PostS.bind w hx p).imp (fun x _ q v G1 H1 e1 f1 => ?_) fun _ q => q)
  obtain ⟨xd, xp⟩ := x
  have w1 := w.ext e1
  cases xd with
  | lst ds =>
    have q : PostS J G0 H0 G1 Γ D (bindS (Fe ρ) ρ fun e => match extD ds e with
      | some es => .nx (xp (.lst es))
      | none => .no) := q.up e1.g
    obtain ⟨a, us, Pin, rfl, hu, _⟩ := f1.chg w1 (Ext.refl w1.gh)
    refine ⟨.inl ⟨rfl, us, .of hu⟩, ?_⟩
    refine k w1 ((PostS.bind w1 hx q).imp (fun y _ q vy G2 H2 P2 e2 f2 o2 => ?_) fun _ q => q)
    obtain ⟨a', us', Pin', ea, hu', own, pr, fin⟩ := f1.chg w1 e2
    cases ea
    have q : PostS J G0 H0 G1 Γ D (match extD ds y with
      | some es => .nx (xp (.lst es))
      | none => .no) := q
    cases o2 with
    | NL => cases q
    | @L _ b zs es _ h1 h2 h3 h4 =>
      have q : PostS J G0 H0 G1 Γ D (match (if lenSz (ds.length + es.length) = true then some (ds ++ es) else none) with
        | some es => .nx (xp (.lst es))
        | none => .no) := q
      by_cases c : lenSz (ds.length + es.length) = true
      case neg => rw [if_neg c] at q; cases q
      rw [if_pos c] at q
      refine ⟨a, b, us', zs, rfl, rfl, hu', h1, by rw [← own.len.1, ← h4.len.1]; exact lenSz_ok c, ?_⟩
      have hna : H1 a ≠ none := by rw [hu]; exact fun z => by cases z
      refine q.of_nx σ G2 _ e2.g (fin (ds ++ es) (us' ++ zs) (fun x => Pin' x ∨ (P2 x ∧ x ≠ b)) ?_ fun x hx => ?_)
      · rw [List.length_append, ← List.replicate_append_replicate]
        exact Ows.append own h4 (fun _ => .inl) (fun _ => .inr) fun x hx hy => (pr x hx).1 (f2 x hy.1).2.1
      · rcases hx with hx | hx
        · exact ⟨(pr x hx).2.1, .inl hx⟩
        · have f := f2 x hx.1
          exact ⟨fun z => hna (by rw [← z]; exact f.2.1), .inr ⟨f.2.1, f.1, f.2.2⟩⟩
  | _ => cases q
/-- C(..), the arguments looked at -/
theorem se_makeL {C : Str} (h : SemBs J Γ Fs tr) (hl : Fs.length + 1 = np := by rfl) : SemE J Γ (.o (.I ns)) (callLE (.I ns) Fn Fs) (tMakeS (J.ca C) (spI J.K J.ca C np ns Fn) (WE J.W) tr) := fun {G0 H0 G H ρ σ Q} w p => by
  refine h w (p.bind.imp (fun ds hd q us G1 H1 e1 r => ?_) fun _ q => q)
  intro x dx hx hdx ne
  have s1 : Same H1 (upd (upd H1 dx (.own x)) x (.ins (J.ca C) dx [])) := fun b o e => by
    rw [upd_ne (ne_of_none e hx), upd_ne (ne_of_none e hdx)]
    exact e
  refine ⟨by rw [List.length_cons, ← r.length, argsE_len hd]; exact hl, H1, H1, ds, x, dx, us, rfl, s1, hx, upd_same, Same.refl _, r, (Rs.Post.bind q).imp (fun d _ q G2 H2 P2 e2 f2 o2 => ⟨rfl, ?_⟩) fun c q dx H2 s => q H2 dx (e1.h.trans s)⟩
  by_cases c : leafOk (.I ns) d = true
  case neg =>
    rw [if_neg c] at q
    cases q
  rw [if_pos c] at q
  obtain ⟨x1, x2, x3⟩ := leaf_res c e1.gh e2 f2 o2
  exact q.of_ok (.ref x) G1 H2 P2 (e1.trans x1) (fun b hb => ⟨(x2 b hb).1, e1.h.free (x2 b hb).2.1, (x2 b hb).2.2⟩) x3
end
end Pm
/-! min(xs), xs a list of pairs of ints; <= of tuples; xs[::-1] -/
namespace PySem
open Sem (wp)
section
variable {prog : Program} {w : World} {A : Around} {R : Result → Shared → Prop} {I : Addr} {fp wr : List Addr} {n : Nat} {P : Nat → Value → Prop} {St : Nat → Heap → Prop}
theorem codeAny_min_loopK (W : Walks prog w A.in1 I fp wr n P St) (bt : Nat → Nat → Bool) {Kp : Heap → Prop} (hcmp : CmpK prog w A.in1 .Lt P Kp bt) (S : Addr) (hSf : S ∉ fp) (hK : ∀ h h', Kp h → (∀ b o, b ∉ wr → b ≠ S → h.get? b = some o → h'.get? b = some o) → Kp h') :
    ∀ (k j : Nat) (s : Shared) (vb : Value) (c : Nat), n - (j + 1) = k → j + 1 ≤ n → St (j + 1) s.heap → Kp s.heap → P (argBest bt j) vb →
    s.heap.get? S = some { cls := .type "list", dict := none, data := .seq #[vb, vb] c, slots := #[] } →
    (∀ v h' tk, P (argBest bt (n - 1)) v → (∀ b o, b ∉ wr → b ≠ S → s.heap.get? b = some o → h'.get? b = some o) → R (.ok (.ret v)) { s with heap := h', toks := tk }) →
    codeAny (model prog w) A (.builtin "min.loop" ⟨[.ref I, .none, .ref S], []⟩) R s := by
  have hSw : S ∉ wr := fun h => hSf (W.sub _ h)
  have hname : (toString "min" ++ toString ".loop" : String) = "min.loop" := by decide
  intro k
  induction k with
  | zero =>
    intro j s vb c hk hj hst hKs hPb hS hR
    have hin : j + 1 = n := by omega
    refine codeAny_builtin F.entry_min_loop ?_
    rw [Around.under_plainId F.plain_min_loop _]
    show wpAny _ A.in1 (seqItems? (.ref S) >>= _) _ _ s
    refine wpAny_bind (wpAny_seqItems hS rfl ?_)
    show wpAny _ A.in1 (tryCatch (pyNext (.ref I)) _ >>= _) _ _ s
    refine wpAny_bind (wpAny_tryCatch (W.done s _ _ (hin ▸ hst) fun h' tk hk' => ?_))
    have hS' := hk' S _ hSw hS
    show wpAny _ A.in1 (updateSeq S (fun _ => #[]) >>= _) _ _ _
    refine wpAny_bind ?_
    refine wpAny_updateSeq hS' rfl (wpAny_bind (wpAny_letGo (wpAny_pure ?_)))
    refine hR vb _ tk (by rw [← hin]; exact hPb) fun b o hbw hbS e => (Heap.get?_update_other _ _ (Ne.symm hbS)).trans (hk' b o hbw e)
  | succ k ih =>
    intro j s vb c hk hj hst hKs hPb hS hR
    have hlt : j + 1 < n := by omega
    refine codeAny_builtin F.entry_min_loop ?_
    rw [Around.under_plainId F.plain_min_loop _]
    show wpAny _ A.in1 (seqItems? (.ref S) >>= _) _ _ s
    refine wpAny_bind (wpAny_seqItems hS rfl ?_)
    show wpAny _ A.in1 (tryCatch (pyNext (.ref I)) _ >>= _) _ _ s
    refine wpAny_bind (wpAny_tryCatch (W.item (j + 1) s _ _ hlt hst fun v h' tk hP hst' hk' => ?_))
    have hS' := hk' S _ hSw hS
    show wpAny _ A.in1 (tryCatch (holding [v, v] (richCompare .Lt v vb >>= _)) _ >>= _) _ _ _
    refine wpAny_bind (wpAny_tryCatch (wpAny_holding (wpAny_bind (hcmp (j + 1) (argBest bt j) v vb _ _ _ hP hPb (hK _ _ hKs fun b o hbw _ e => hk' b o hbw e) ?_))))
    refine wpAny_bind (wpAny_holding (wpAny_truthy_bool ?_))
    refine wpAny_bind (wpAny_letGo (wpAny_pure ?_))
    cases hb : bt (j + 1) (argBest bt j) with
    | true =>
      simp only [if_true]
      refine wpAny_bind ?_
      refine wpAny_updateSeq hS' rfl (wpAny_bind (wpAny_letGo ?_))
      rw [hname]
      refine wpAny_pure ⟨plainId_quiet F.plain_min_loop _, ih (j + 1) _ v _ (by omega) hlt (W.frame _ _ _ hst' fun b hbf o e => ?_) (hK _ _ hKs fun b o hbw hbS e => (Heap.get?_update_other _ _ (Ne.symm hbS)).trans (hk' b o hbw e)) (by simp only [argBest, hb, if_true]; exact hP) (Heap.get?_update_self _ hS' rfl)
        fun v' h'' tk'' hP' hk'' => ?_⟩
      · exact (Heap.get?_update_other _ _ (fun h : S = b => hSf (by rw [h]; exact hbf))).trans e
      · exact hR v' h'' tk'' hP' fun b o hbw hbS e => hk'' b o hbw hbS ((Heap.get?_update_other _ _ (Ne.symm hbS)).trans (hk' b o hbw e))
    | false =>
      simp only [Bool.false_eq_true, if_false]
      refine wpAny_bind (wpAny_letGo ?_)
      rw [hname]
      refine wpAny_pure ⟨plainId_quiet F.plain_min_loop _, ih (j + 1) _ vb c (by omega) hlt hst' (hK _ _ hKs fun b o hbw _ e => hk' b o hbw e) (by simp only [argBest, hb, Bool.false_eq_true, if_false]; exact hPb) hS' fun v' h'' tk'' hP' hk'' => ?_⟩
      exact hR v' h'' tk'' hP' fun b o hbw hbS e => hk'' b o hbw hbS (hk' b o hbw e)
theorem codeAny_min_loop_firstK (W : Walks prog w A.in1 I fp wr n P St) (bt : Nat → Nat → Bool) {Kp : Heap → Prop} (hcmp : CmpK prog w A.in1 .Lt P Kp bt) (S : Addr) (hSf : S ∉ fp) (hK : ∀ h h', Kp h → (∀ b o, b ∉ wr → b ≠ S → h.get? b = some o → h'.get? b = some o) → Kp h') (hn : 0 < n) {s : Shared} {c : Nat} (hst : St 0 s.heap) (hKs : Kp s.heap)
    (hS : s.heap.get? S = some { cls := .type "list", dict := none, data := .seq #[] c, slots := #[] })
    (hR : ∀ v h' tk, P (argBest bt (n - 1)) v → (∀ b o, b ∉ wr → b ≠ S → s.heap.get? b = some o → h'.get? b = some o) → R (.ok (.ret v)) { s with heap := h', toks := tk }) :
    codeAny (model prog w) A (.builtin "min.loop" ⟨[.ref I, .none, .ref S], []⟩) R s := by
  have hSw : S ∉ wr := fun h => hSf (W.sub _ h)
  have hname : (toString "min" ++ toString ".loop" : String) = "min.loop" := by decide
  refine codeAny_builtin F.entry_min_loop ?_
  rw [Around.under_plainId F.plain_min_loop _]
  show wpAny _ A.in1 (seqItems? (.ref S) >>= _) _ _ s
  refine wpAny_bind (wpAny_seqItems hS rfl ?_)
  show wpAny _ A.in1 (tryCatch (pyNext (.ref I)) _ >>= _) _ _ s
  refine wpAny_bind (wpAny_tryCatch (W.item 0 s _ _ hn hst fun v h' tk hP hst' hk' => ?_))
  have hS' := hk' S _ hSw hS
  show wpAny _ A.in1 (updateSeq S (fun _ => #[v, v]) >>= _) _ _ _
  refine wpAny_bind ?_
  refine wpAny_updateSeq hS' rfl ?_
  rw [hname]
  refine wpAny_pure ⟨plainId_quiet F.plain_min_loop _, codeAny_min_loopK W bt hcmp S hSf hK _ 0 _ v _ rfl hn (W.frame _ _ _ hst' fun b hbf o e => ?_) (hK _ _ hKs fun b o hbw hbS e => (Heap.get?_update_other _ _ (Ne.symm hbS)).trans (hk' b o hbw e)) hP (Heap.get?_update_self _ hS' rfl) fun v' h'' tk'' hP' hk'' => ?_⟩
  · exact (Heap.get?_update_other _ _ (fun h : S = b => hSf (by rw [h]; exact hbf))).trans e
  · exact hR v' h'' tk'' hP' fun b o hbw hbS e => hk'' b o hbw hbS ((Heap.get?_update_other _ _ (Ne.symm hbS)).trans (hk' b o hbw e))
end
section
variable {prog : Program} {w : World} {A : Around} {E : Value → Shared → Prop} {s : Shared}
theorem call_min_walkK {x : Value} {Q : Value → Shared → Prop}
    (h : wpAny (model prog w) A.in1 (pyIter x) (fun it s₂ => ∃ I fp wr n P St bt Kp, it = .ref I ∧ Walks prog w A.in1 I fp wr n P St ∧ St 0 s₂.heap ∧ (∀ b ∈ fp, b < s₂.heap.objs.size) ∧ 0 < n ∧ CmpK prog w A.in1 .Lt P Kp bt ∧ Kp s₂.heap ∧ (∀ S, s₂.heap.objs.size ≤ S → ∀ h h', Kp h → (∀ b o, b ∉ wr → b ≠ S → h.get? b = some o → h'.get? b = some o) → Kp h') ∧
      ∀ v h' tk, P (argBest bt (n - 1)) v → (∀ b o, b ∉ wr → s₂.heap.get? b = some o → h'.get? b = some o) → Q v { s₂ with heap := h', toks := tk }) E s) :
    wpAny (model prog w) A (call (.builtin "min") [x]) Q E s := by
  have hname : (toString "min" ++ toString ".loop" : String) = "min.loop" := by decide
  refine call_function_tree F.kind_min F.plain_min F.entry_min (F.args_min1 _) ?_
  show wpAny _ A.in1 (Builtin.Builtins.bindParams "min" ["key", "default"] 0 ⟨[], []⟩ >>= _) _ _ s
  refine wpAny_bind (wpAny_of_eq (show Builtin.Builtins.bindParams "min" ["key", "default"] 0 ⟨[], []⟩ = pure [none, none] from rfl) ?_)
  refine wpAny_bind (wpAny_pure ?_)
  refine wpAny_bind (wpAny_mono h (fun it s₂ h₂ => ?_) fun _ _ e => e)
  obtain ⟨I, fp, wr, n, P, St, bt, Kp, rfl, W, hst, hfp, hn, hcmp, hK0, hK, hQ⟩ := h₂
  refine wpAny_bind (wpAny_newObj_type ?_)
  have hSf : s₂.heap.objs.size ∉ fp := fun hm => Nat.lt_irrefl _ (hfp _ hm)
  rw [hname]
  refine wpAny_pure ⟨plainId_quiet F.plain_min_loop _, codeAny_min_loop_firstK W bt hcmp s₂.heap.objs.size hSf (hK _ (Nat.le_refl _)) hn (W.frame _ _ _ hst fun b _ o e => Heap.get?_push_of_some _ e) (hK _ (Nat.le_refl _) _ _ hK0 fun b o _ _ e => Heap.get?_push_of_some _ e) (Heap.get?_push_size _ rfl) fun v h' tk hP hk => ?_⟩
  exact hQ v h' tk hP fun b o hbw e => hk b o hbw (Nat.ne_of_lt (Heap.lt_size e)) (Heap.get?_push_of_some _ e)
end
end PySem
namespace L2
open PySem PySem.Spec PyProof.Rows
def rMinP (K : PySem.W.Frag) : List V → Hp → VK → Prop := fun vs H Q => ∃ (a : Addr) (xs : List V) (key : V → Int × Int), vs = [V.ref a] ∧ SqL K H a xs ∧ (∀ x ∈ xs, ∃ t, x = V.ref t ∧ H t = some (.tup [.int (key x).1, .int (key x).2])) ∧ 0 < xs.length ∧
  ∀ x, x ∈ xs → (∀ y ∈ xs, pltB (key y) (key x) = false) → Q x H
section
variable {X : Cx}
theorem cr_minP (hu : X.A.units + 1 < cLine) (hc : X.calm = true) : CallR X (.builtin "min") (rMinP X.K) := by
  intro pins s σ H vs us Q I r h
  obtain ⟨a, xs, key, rfl, hs, hx, h0, q⟩ := h
  obtain ⟨its, rv, hl, hz⟩ := I.list hs
  rw [Vals.ref1 r]
  obtain ⟨e1, e2⟩ := refs_back rv fun x m => by
    obtain ⟨t, e, _⟩ := hx x m
    exact ⟨t, e⟩
  have hh : X.A.handled = none := I.ok.hd hc
  have at_ : ∀ (j : Nat) (v : Value), its.toArray[j]? = some v → ∃ t fi, v = .ref t ∧ V.ref t ∈ xs ∧ IsTup s.heap t fi ∧ IntsAre fi.toList [(key (backV v)).1, (key (backV v)).2] := fun j v hv => by
    have hm : v ∈ its := List.mem_of_getElem? (by rw [List.getElem?_toArray] at hv; exact hv)
    obtain ⟨t, rfl⟩ := e2 v hm
    have hm2 : V.ref t ∈ xs := by rw [e1]; exact List.mem_map.mpr ⟨_, hm, rfl⟩
    obtain ⟨t', e, ht⟩ := hx _ hm2
    cases e
    obtain ⟨fi, t1, i1⟩ := tupI_of (ns := [(key (.ref t)).1, (key (.ref t)).2]) I ht
    exact ⟨t, fi, rfl, hm2, t1, i1⟩
  let kk : Nat → Int × Int := fun j => match its[j]? with
    | some v => key (backV v)
    | none => (0, 0)
  have kke : ∀ {j : Nat} {v : Value}, its.toArray[j]? = some v → kk j = key (backV v) := fun {j v} hv => by
    rw [List.getElem?_toArray] at hv
    show (match its[j]? with | some v => key (backV v) | none => (0, 0)) = _
    rw [hv]
  have n0 : 0 < its.toArray.size := by rw [List.size_toArray, ← rv.length]; exact h0
  have hl2 : s.heap.IsList a its.toArray := hl.isList
  have hlt : a < s.heap.objs.size := by obtain ⟨_, e, _⟩ := hl2; exact Heap.lt_size e
  refine call_min_walkK ?_
  refine wpAny_pyIter_list hl2 ?_
  refine ⟨s.heap.objs.size, [s.heap.objs.size, a], [s.heap.objs.size], its.toArray.size, fun i v => its.toArray[i]? = some v, _, fun i j => pltB (kk i) (kk j), fun h => ∀ b o, s.heap.get? b = some o → h.get? b = some o, rfl, Walks.list (A := X.A.in1) hh _ a (Nat.ne_of_lt hlt) its.toArray, ⟨⟨_, Heap.get?_push_size _ rfl, rfl, rfl⟩, hl2.push _⟩, fun b hb => ?_, n0, fun i j vi vj s' Q' E' hi hj hk hq => ?_, fun b o e => Heap.get?_push_of_some _ e, fun S hS h h' hk kp b o e => ?_, fun v h' tk hv kp => ?_⟩
  · show b < (s.heap.push _).objs.size
    rw [Heap.size_push]
    rcases List.mem_cons.mp hb with rfl | hb
    · exact Nat.lt_succ_self _
    · rcases List.mem_cons.mp hb with rfl | hb
      · exact Nat.lt_succ_of_lt hlt
      · cases hb
  · obtain ⟨t1, f1, rfl, _, p1, i1⟩ := at_ i vi hi
    obtain ⟨t2, f2, rfl, _, p2, i2⟩ := at_ j vj hj
    have g1 : IsTup s'.heap t1 f1 := by
      obtain ⟨o, ho, c⟩ := p1
      exact ⟨o, hk _ _ ho, c⟩
    have g2 : IsTup s'.heap t2 f2 := by
      obtain ⟨o, ho, c⟩ := p2
      exact ⟨o, hk _ _ ho, c⟩
    rw [← kke hi] at i1
    rw [← kke hj] at i2
    exact HT.lt_tupInts (A := X.A.in1) (s := s') g1 g2 i1 i2 hu hq
  · have bl := Heap.lt_size e
    have : s.heap.objs.size < S := by
      have : (s.heap.push { cls := .type "list_iterator", data := .fields #[.ref a, .int 0 0] }).objs.size ≤ S := hS
      rw [Heap.size_push] at this
      omega
    exact kp b o (fun hm => by
      rw [List.mem_singleton.mp hm] at bl
      exact Nat.lt_irrefl _ bl) (fun z => by rw [z] at bl; exact Nat.lt_irrefl _ (Nat.lt_trans bl this)) (hk b o e)
  · obtain ⟨t, fi, rfl, hm, _, _⟩ := at_ _ v hv
    have kp2 : ∀ b o, s.heap.get? b = some o → h'.get? b = some o := fun b o e => kp b o (fun hm => by
      have bl := Heap.lt_size e
      rw [List.mem_singleton.mp hm] at bl
      exact Nat.lt_irrefl _ bl) (Heap.get?_push_of_some _ e)
    refine ⟨.ref t, H, I.kept (t' := tk) kp2, rfl, q _ hm fun y hy => ?_⟩
    have top := argBest_top (bt := fun i j => pltB (kk i) (kk j)) (fun i j l h1 h2 => SrtO.lexLt_trans _ _ _ h1 h2) (fun i => SrtO.lexLt_irr _) (its.toArray.size - 1)
    rw [e1] at hy
    obtain ⟨u, hu1, rfl⟩ := List.mem_map.mp hy
    obtain ⟨j, hj⟩ := List.mem_iff_getElem?.mp hu1
    have jl := (List.getElem?_eq_some_iff.mp hj).1
    have hj2 : its.toArray[j]? = some u := by rw [List.getElem?_toArray]; exact hj
    have := top j (by rw [List.size_toArray]; omega)
    have this : pltB (kk j) (kk (argBest (fun i j => pltB (kk i) (kk j)) (its.toArray.size - 1))) = false := this
    rw [kke hv, kke hj2] at this
    exact this
end
end L2
namespace L2
open PySem PySem.Spec PyProof.Rows
section
variable {X : Cx} {e k : Expr} {te : TE} {tk : TO} {pos p2 : Pos}
/-- e[None:None:k], k is -1: the list turned about -/
def tSlRev (K : PySem.W.Frag) (te : TE) (tk : TO) : TE := fun σ H Q => te σ H fun x H1 => tk σ H1 fun st H2 => st = some (-1) ∧ ∃ a xs, x = .ref a ∧ SqL K H2 a xs ∧ ∀ p, H2 p = none → Q (.ref p) (upd H2 p (.lst xs.reverse))
theorem pe_sliceRev (he : PE X e te) (hk : PO X (some k) tk) : PE X (.Subscript e (.Slice none none (some k) p2) pos) (tSlRev X.K te tk) := by
  refine ⟨fun pins s σ H Q I h => ?_⟩
  refine Subscript_ (thn (he.run pins s σ H _ I h) fun v s1 ⟨x, H1, I1, r1, q1⟩ => ?_)
  refine wpAny_Slice ?_
  rw [evalPart_none]
  refine wpAny_pure (wpAny_pure ?_)
  refine thn (hk.run pins s1 σ H1 _ I1 q1) fun vk s3 ⟨st, H3, I3, pk, est, a, xs, ex, hx, q⟩ => ?_
  subst ex
  subst est
  cases r1
  have I4 : Inv X pins σ H3 { s3 with heap := s3.heap.push { cls := .type "slice", data := .fields #[.none, .none, vk] } } := I3.kept (t' := s3.toks) fun b ob q => Heap.get?_push_of_some _ q
  obtain ⟨its, r, ht, hz⟩ := I4.list hx
  have hg : wpAny (model X.prog X.w) X.A (getItem (.ref a) (.ref s3.heap.objs.size)) (EP X pins σ Q) X.xe { s3 with heap := s3.heap.push { cls := .type "slice", data := .fields #[.none, .none, vk] } } := by
    refine wpAny_getItem_list_slice ht.isList (Heap.IsSliceOf.new ..) .none .none pk (by decide) ?_ (by rw [List.size_toArray]; have := r.length; omega)
    rw [PySem.W.krv_pick]
    refine ⟨.ref (s3.heap.push { cls := .type "slice", data := .fields #[.none, .none, vk] }).objs.size, _, I4.laid (t' := s3.toks) (o := .lst xs.reverse) (fun b ob q => Heap.get?_push_of_some _ q) (Nat.le_refl _) ?_, rfl, q _ (I4.hok.fresh (Nat.le_refl _))⟩
    exact ⟨by rw [List.length_reverse]; exact hz, _, 0, r.reverse, Heap.get?_push_size _ rfl⟩
  show wpAny (model X.prog X.w) X.A (subscriptTail e (.Slice none none (some k) p2) (.ref a) (.ref s3.heap.objs.size)) (EP X pins σ Q) X.xe { s3 with heap := s3.heap.push { cls := .type "slice", data := .fields #[.none, .none, vk] } }
  exact tail_any (ops := [.ref a, .ref s3.heap.objs.size]) ht.isList.typeIs slot_list_getitem.lookup hg (by with_unfolding_all rfl)
end
end L2
namespace Pm
open PySem PySem.Spec PyProof.Rows L2
open Classical
def smlP (p q : Int × Int) : Int × Int := if pltB q p = true then q else p
def minPs : List (Int × Int) → Int × Int
  | [] => (0, 0)
  | p :: r => r.foldl smlP p
theorem smls_top : ∀ (r : List (Int × Int)) (p : Int × Int), (r.foldl smlP p = p ∨ r.foldl smlP p ∈ r) ∧ pltB p (r.foldl smlP p) = false ∧ ∀ y ∈ r, pltB y (r.foldl smlP p) = false
  | [], p => ⟨.inl rfl, SrtO.lexLt_irr _, fun y hy => by cases hy⟩
  | x :: r, p => by
    obtain ⟨h1, h2, h3⟩ := smls_top r (smlP p x)
    have e : (x :: r).foldl smlP p = r.foldl smlP (smlP p x) := rfl
    rw [e]
    have b1 : smlP p x = p ∨ smlP p x = x := by unfold smlP; split; exact .inr rfl; exact .inl rfl
    have b2 : ∀ z, pltB (smlP p x) z = false → pltB p z = false ∧ pltB x z = false := fun z hz => by
      unfold smlP at hz
      by_cases c : pltB x p = true
      · rw [if_pos c] at hz
        refine ⟨?_, hz⟩
        cases q : pltB p z with
        | false => rfl
        | true =>
          have tt : pltB x z = true := SrtO.lexLt_trans _ _ _ c q
          rw [tt] at hz; cases hz
      · rw [if_neg c] at hz
        refine ⟨hz, ?_⟩
        cases q : pltB x z with
        | false => rfl
        | true =>
          have c : pltB x p = false := by simpa using c
          cases q2 : pltB p x with
          | true =>
            have tt : pltB p z = true := SrtO.lexLt_trans _ _ _ q2 q
            rw [tt] at hz; cases hz
          | false =>
            have := SrtO.lexLt_tri _ _ c q2
            simp only [List.cons.injEq, and_true] at this
            have ex : x = p := Prod.ext this.1 this.2
            rw [ex] at q
            rw [hz] at q
            cases q
    obtain ⟨c1, c2⟩ := b2 _ h2
    refine ⟨?_, c1, fun y hy => ?_⟩
    · rcases h1 with h1 | h1
      · rw [h1]
        rcases b1 with b | b
        · exact .inl b
        · exact .inr (by rw [b]; exact List.mem_cons_self)
      · exact .inr (List.mem_cons_of_mem _ h1)
    · rcases List.mem_cons.mp hy with rfl | hy
      · exact c2
      · exact h3 y hy
theorem minPs_top {ps : List (Int × Int)} (h : ps ≠ []) : minPs ps ∈ ps ∧ ∀ y ∈ ps, pltB y (minPs ps) = false := by
  cases ps with
  | nil => exact absurd rfl h
  | cons p r =>
    obtain ⟨h1, h2, h3⟩ := smls_top r p
    refine ⟨?_, fun y hy => ?_⟩
    · rcases h1 with h1 | h1
      · show r.foldl smlP p ∈ _
        rw [h1]; exact List.mem_cons_self
      · exact List.mem_cons_of_mem _ h1
    · rcases List.mem_cons.mp hy with rfl | hy
      · exact h2
      · exact h3 y hy
theorem minPs_uniq {ps : List (Int × Int)} {p : Int × Int} (hp : p ∈ ps) (h : ∀ y ∈ ps, pltB y p = false) : p = minPs ps := by
  have ne : ps ≠ [] := fun e => by rw [e] at hp; cases hp
  obtain ⟨h1, h2⟩ := minPs_top ne
  have := SrtO.lexLt_tri _ _ (h2 _ hp) (h _ h1)
  simp only [List.cons.injEq, and_true] at this
  exact Prod.ext this.1 this.2
def minPD (d : Dt) : Rs Dt := match d with
  | .lst ds => (match prsOf ds with
    | some (p :: r) => .ok (prD (minPs (p :: r)))
    | _ => .no)
  | _ => .no
def minPE := op1E minPD
section
variable {J : Jc} {Γ : List Mode} {F : Ev → Rs Dt} {te : TE}
theorem se_minP (h : SemE J Γ .S F te) : SemE J Γ (.o .F) (minPE F) (tCB (rMinP J.K) (tCons te tNil)) := fun {G0 H0 G H ρ σ Q} w p => by
  refine h w (p.bind.imp (fun d _ q v G1 H1 P1 e1 _ r1 => ?_) fun _ q => q)
  cases d with
  | lst ds =>
    have q : Rs.Post _ _ (match prsOf ds with
      | some (p :: r) => Rs.ok (prD (minPs (p :: r)))
      | _ => Rs.no) := q
    cases z : prsOf ds with
    | none => rw [z] at q; cases q
    | some ps =>
      rw [z] at q
      cases ps with
      | nil => cases q
      | cons p0 r0 =>
        obtain ⟨a, vs, rfl, hs, r⟩ := S_lst r1
        rw [prsOf_some z] at r
        obtain ⟨c1, c2⟩ := rps_pairs r
        refine ⟨a, vs, keyV G1, rfl, .of hs, fun x hx => ?_, ?_, fun x hx hm => ?_⟩
        · obtain ⟨t, e, ht⟩ := c1 x hx
          exact ⟨t, e, e1.gh _ _ ht⟩
        · have := congrArg List.length c2
          rw [List.length_map] at this
          rw [this]
          exact Nat.succ_pos _
        · have k1 : keyV G1 x = minPs (p0 :: r0) := minPs_uniq (by rw [← c2]; exact List.mem_map_of_mem hx) fun y hy => by
            rw [← c2] at hy
            obtain ⟨u, hu, rfl⟩ := List.mem_map.mp hy
            exact hm u hu
          obtain ⟨t, e, ht⟩ := c1 x hx
          rw [k1] at ht
          subst e
          exact q.of_ok (.ref t) G1 H1 Pno e1 Fr.no (.F (.tup ht (.cons (.int _) (.cons (.int _) .nil))))
  | _ => cases q
end
/-! <= of tuples of ints -/
def lexLe2 (ns ms : List Int) : Bool := Ob.lexAt (fun j => decide (ns.getD j 0 = ms.getD j 0)) (fun j => decide (ns.getD j 0 ≤ ms.getD j 0)) (decide (ns.length ≤ ms.length)) 0 (min ns.length ms.length)
def tupLeD (a b : Dt) : Rs Dt := match a, b with
  | .tup as, .tup bs => (match intsOf as, intsOf bs with
    | some ns, some ms => .ok (.bl (lexLe2 ns ms))
    | _, _ => .no)
  | _, _ => .no
def leTE := op2E tupLeD
/-! xs[::-1] -/
def revLD (d k : Dt) : Rs Dt := match d, k with
  | .lst ds, .int i => if i = -1 then .ok (.lst ds.reverse) else .no
  | _, _ => .no
def revSE := op2E revLD
section
variable {J : Jc} {Γ : List Mode} {Fa Fb F : Ev → Rs Dt} {ta tb te : TE}
theorem rule_leT {K : PySem.W.Frag} {ca : Str → Addr} : Rule2 K ca tupLeD (rLeT K) := by
  intro H a b d x y Q ra rb q k
  cases ra with
  | @tup p vs xs h1 h2 =>
    cases rb with
    | @tup p2 us ys k1 k2 =>
      have q : (match intsOf xs, intsOf ys with
        | some ns, some ms => Rs.ok (Dt.bl (lexLe2 ns ms))
        | _, _ => Rs.no) = .ok d := q
      cases z1 : intsOf xs with
      | none => rw [z1] at q; cases q
      | some ns =>
        cases z2 : intsOf ys with
        | none => rw [z1, z2] at q; cases q
        | some ms =>
          rw [z1, z2] at q
          cases q
          have e1 := intsOf_some z1
          have e2 := intsOf_some z2
          subst e1 e2
          refine ⟨p, p2, ns, ms, rfl, rfl, ?_, ?_, k _ rfl fun _ => .bl _⟩
          · rw [← rps_ints_eq h2]; exact .of h1
          · rw [← rps_ints_eq k2]; exact .of k1
    | _ => cases q
  | _ => cases rb <;> cases q
theorem nx_leT : NoEx2 tupLeD := by
  intro a b c
  unfold tupLeD
  split
  · split <;> intro q <;> cases q
  · intro q; cases q
theorem se_leT (ha : SemE J Γ .B Fa ta) (hb : SemE J Γ .B Fb tb) : SemE J Γ (.o .F) (leTE Fa Fb) (tOp (rLeT J.K) ta tb) := se_op2 rule_leT nx_leT ha hb
theorem se_slcRev (h : SemE J Γ .S Fa ta) (hk : SemE J Γ .B Fb tb) : SemE J Γ (.o (.L .F)) (revSE Fa Fb) (tSlRev J.K ta (tPart tb)) := fun {G0 H0 G H ρ σ Q} w p => by
  refine h w (p.bind.imp (fun d _ q v G1 H1 P1 e1 _ r1 => ?_) fun _ q => q)
  refine hk (w.ext e1) (q.bind.imp (fun k _ q y G2 H2 _ e2 _ rk => ?_) fun _ q H' dx s => q H' dx (e1.h.trans s))
  cases d with
  | lst ds =>
    cases rk with
    | int i =>
      have q : Rs.Post _ _ (if i = -1 then Rs.ok (Dt.lst ds.reverse) else .no) := q
      by_cases hi : i = -1
      case neg => rw [if_neg hi] at q; cases q
      rw [if_pos hi] at q
      obtain ⟨a, vs, rfl, hs, r⟩ := S_lst r1
      refine ⟨i, rfl, by rw [hi], a, vs, rfl, .of (e2.h _ _ hs), fun b hb => ?_⟩
      obtain ⟨e4, f4, o4⟩ := new_lst e2.gh hb (r.mono e2.g).reverse
      exact q.of_ok _ _ _ _ ((e1.trans e2).trans e4) (fun b hb => ⟨(f4 b hb).1, (e1.trans e2).h.free (f4 b hb).2.1, (f4 b hb).2.2⟩) o4
    | _ => cases q
  | _ => cases rk <;> cases q
end
end Pm
namespace Pm
open PySem PySem.Spec PyProof.Rows L2
open Classical
/-! ### a dict gone through by its keys -/
section
variable {K : PySem.W.Frag} {ca : Str → Addr} {G H G' H' G2 H2 : Hp} {a : Addr} {o : Obj} {kvs : List (Key × V)}
mutual
theorem Rp.unlock (e : G a = some (.frz o (.dK kvs))) : ∀ {d : Dt} {v : V}, Rp K ca G d v → Rp K ca (upd G a (.dK kvs)) d v
  | .non, _, h => by cases h; exact .non
  | .bl b, _, h => by cases h; exact .bl b
  | .int i, _, h => by cases h; exact .int i
  | .str x, _, h => by cases h; exact .str x
  | .lst ds, _, h => by
    cases h with
    | @lst b _ _ h1 h2 => exact .lst (by rw [upd_ne (fun z => by rw [z, e] at h1; cases h1)]; exact h1) (Rps.unlock e h2)
  | .scr ds, _, h => by
    cases h with
    | @scr b _ _ h1 h2 =>
      refine .scr ?_ (Rps.unlock e h2)
      rcases h1 with (h1 | ⟨o', h1⟩) | h1
      · exact .inl (.inl (by rw [upd_ne (fun z => by rw [z, e] at h1; cases h1)]; exact h1))
      · exact .inl (.inr ⟨o', by rw [upd_ne (fun z => by rw [z, e] at h1; cases h1)]; exact h1⟩)
      · exact .inr h1
  | .tup ds, _, h => by
    cases h with
    | @tup b _ _ h1 h2 => exact .tup (by rw [upd_ne (fun z => by rw [z, e] at h1; cases h1)]; exact h1) (Rps.unlock e h2)
  | .ktp ds, _, h => by
    cases h with
    | @ktp b _ _ h1 h2 =>
      refine .ktp ?_ (Rps.unlock e h2)
      rcases h1 with (h1 | ⟨o', h1⟩) | h1
      · exact .inl (.inl (by rw [upd_ne (fun z => by rw [z, e] at h1; cases h1)]; exact h1))
      · exact .inl (.inr ⟨o', by rw [upd_ne (fun z => by rw [z, e] at h1; cases h1)]; exact h1⟩)
      · exact .inr h1
  | .ins C ns ds, _, h => by
    cases h with
    | ins h1 h2 h3 => exact .ins (by rw [upd_ne (fun z => by rw [z, e] at h1; cases h1)]; exact h1) h2 (Rps.unlock e h3)
  | .dic ks ds, _, h => by
    cases h with
    | dic h1 h2 h3 => exact .dic (by rw [upd_ne (fun z => by rw [z, e] at h1; cases h1)]; exact h1) h2 (Rps.unlock e h3)
    | @dicZ b o' _ vs _ h1 h2 h3 =>
      have h3 := Rps.unlock e h3
      by_cases z : b = a
      · have h1 := h1
        rw [z, e] at h1
        cases h1
        rw [z]
        exact .dic upd_same h2 h3
      · exact .dicZ (by rw [upd_ne z]; exact h1) h2 h3
  | .dit ks ds, _, h => by
    cases h with
    | dit h1 h2 h3 => exact .dit (by rw [upd_ne (fun z => by rw [z, e] at h1; cases h1)]; exact h1) h2 (Rps.unlock e h3)
theorem Rps.unlock (e : G a = some (.frz o (.dK kvs))) : ∀ {ds : List Dt} {vs : List V}, Rps K ca G ds vs → Rps K ca (upd G a (.dK kvs)) ds vs
  | [], _, h => by cases h; exact .nil
  | d :: ds, _, h => by
    cases h with
    | cons h1 h2 => exact .cons (Rp.unlock e h1) (Rps.unlock e h2)
end
/- the owned part stays, the frozen parts are carried as told -/
mutual
theorem Ow.carryR (e : ∀ d v, Rp K ca G d v → Rp K ca G' d v) : ∀ {d : Dt} {m : Mode} {v : V} {P : Addr → Prop}, (∀ b, P b → H' b = H b ∧ (G b = none → G' b = none)) → Ow K ca G H m d v P → Ow K ca G' H' m d v P
  | d, m, v, P, hp, h => by
    cases h with
    | F h => exact .F (e _ _ h)
    | NL => exact .NL
    | NT => exact .NT
    | L h1 h2 h3 h4 => exact .L (by rw [(hp _ h3).1]; exact h1) ((hp _ h3).2 h2) h3 (Ows.carryR e (fun b hb => hp b hb.1) h4)
    | T h1 h2 h3 h4 => exact .T (by rw [(hp _ h3).1]; exact h1) ((hp _ h3).2 h2) h3 (Ows.carryR e (fun b hb => hp b hb.1) h4)
    | TL h1 h2 h3 h4 => exact .TL (by rw [(hp _ h3).1]; exact h1) ((hp _ h3).2 h2) h3 (Ows.carryR e (fun b hb => hp b hb.1) h4)
    | I h1 h2 h3 h4 h5 => exact .I (by rw [(hp _ h3).1]; exact h1) ((hp _ h3).2 h2) h3 h4 (Ows.carryR e (fun b hb => hp b hb.1) h5)
    | K h1 h2 h3 h4 h5 => exact .K (by rw [(hp _ h3).1]; exact h1) ((hp _ h3).2 h2) h3 h4 (Ows.carryR e (fun b hb => hp b hb.1) h5)
    | KT h1 h2 h3 h4 h5 => exact .KT (by rw [(hp _ h3).1]; exact h1) ((hp _ h3).2 h2) h3 h4 (Ows.carryR e (fun b hb => hp b hb.1) h5)
  termination_by d => sizeOf d
theorem Ows.carryR (e : ∀ d v, Rp K ca G d v → Rp K ca G' d v) : ∀ {ds : List Dt} {ms : List Mode} {vs : List V} {P : Addr → Prop}, (∀ b, P b → H' b = H b ∧ (G b = none → G' b = none)) → Ows K ca G H ms ds vs P → Ows K ca G' H' ms ds vs P
  | [], ms, vs, P, hp, h => by
    cases h
    exact .nil
  | d :: ds, ms, vs, P, hp, h => by
    cases h with
    | cons h1 h2 q1 q2 q3 => exact .cons (Ow.carryR e (fun b hb => hp b (q1 b hb)) h1) (Ows.carryR e (fun b hb => hp b (q2 b hb)) h2) q1 q2 q3
  termination_by ds => sizeOf ds
end
end
section
variable {J : Jc} {Γ Γ' Γ1 : List Mode} {em : EM} {m : Mode} {ms : List Mode} {Fe Fa Fb Fk Fd : Ev → Rs Dt} {F : Ev → Ot} {te ta tb : TE} {G0 H0 Gs G H G' H' : Hp} {ρ : Ev} {σ : L2.St} {D : Ends} {v : V} {vs : List Nat} {ts : TS} {FG : Dt → Ev → Option Ev} {g : TG} {Ft : Ev → Rs Bool} {tt : TT}
/-- nothing is raised -/
abbrev Jc.nq (J : Jc) : Jc := { J with W := fun _ _ _ _ => False, gx := none }
/-- the dict of the slot j is locked -/
theorem Wd.lock {j : Nat} {ks : List Key} {ds : List Dt} (w : Wd J G0 H0 Γ ρ σ G H) (hm : Γ[j]? = some (.K .F)) (hd : ρ[j]? = some (some (.dic ks ds))) : ∃ a us, σ[j]? = some (some (.ref a)) ∧ H a = some (.dK (ks.zip us)) ∧ G a = none ∧ H0 a = none ∧ G0 a = none ∧ ks.length = us.length ∧
    ∀ o, Wd J.nq G0 H0 (Γ.set j .F) ρ σ (upd G a (.frz o (.dK (ks.zip us)))) (upd H a (.frz o (.dK (ks.zip us)))) := by
  obtain ⟨Pf, h1, h2, h3⟩ := w.env
  obtain ⟨v, m, s1, s2, s3⟩ := h3 j _ hd
  rw [hm] at s2
  cases s2
  cases s3 with
  | @K _ a _ us _ _ k1 k2 k3 k4 k5 =>
    have pj := h2 j a k3
    have g0 : G0 a = none := by
      cases q : G0 a with
      | none => rfl
      | some u => rw [w.x.g a u q] at k2; cases k2
    refine ⟨a, us, s1, k1, k2, pj.2.1, g0, k4, fun o => ?_⟩
    have sg : Same G (upd G a (.frz o (.dK (ks.zip us)))) := Same.new k2
    refine ⟨⟨fun b u q => ?_, fun b u q => ?_, fun b u q => ?_, fun b q => ?_⟩, by rw [List.length_set]; exact w.lg, w.lr, ⟨fun i b => if i = j then False else Pf i b, fun i k b n q r => ?_, fun i b q => ?_, fun i d q => ?_⟩, w.pn⟩
    · rw [upd_ne (fun z => by rw [z, g0] at q; cases q)]; exact w.x.g b u q
    · rw [upd_ne (fun z => by rw [z, pj.2.1] at q; cases q)]; exact w.x.h b u q
    · by_cases z : b = a
      · rw [z, upd_same] at q ⊢; exact q
      · rw [upd_ne z] at q ⊢; exact w.x.gh b u q
    · rw [upd_ne (fun z => q (by rw [z]; exact pj.2.1))]; exact w.x.base b q
    · dsimp only at q r
      by_cases zi : i = j
      · rw [if_pos zi] at q; exact q
      · rw [if_neg zi] at q
        by_cases zk : k = j
        · rw [if_pos zk] at r; exact r
        · rw [if_neg zk] at r; exact h1 i k b n q r
    · dsimp only at q
      by_cases zi : i = j
      · rw [if_pos zi] at q; exact q.elim
      · rw [if_neg zi] at q
        have z : b ≠ a := fun z => h1 i j b zi q (by rw [z]; exact k3)
        rw [upd_ne z, upd_ne z]
        exact h2 i b q
    · by_cases zi : i = j
      · subst zi
        rw [hd] at q
        cases q
        have lt : i < Γ.length := (List.getElem?_eq_some_iff.mp hm).1
        refine ⟨.ref a, .F, s1, by rw [List.getElem?_set_self lt], .F (.dicZ upd_same k4 (k5.frozen.mono sg))⟩
      · obtain ⟨v2, m2, t1, t2, t3⟩ := h3 i d q
        refine ⟨v2, m2, t1, by rw [List.getElem?_set_ne (Ne.symm zi)]; exact t2, ?_⟩
        simp only [zi, if_false]
        refine t3.carry sg fun b hb => ?_
        have z : b ≠ a := fun z => h1 i j b zi hb (by rw [z]; exact k3)
        rw [upd_ne z, upd_ne z]
        exact ⟨rfl, (h2 i b hb).1⟩
/-- .. and unlocked, frozen -/
theorem Wd.unlock {a : Addr} {o : Obj} {kvs : List (Key × V)} (w : Wd J.nq G0 H0 Γ ρ σ G H) (hg : G a = some (.frz o (.dK kvs))) (h0 : H0 a = none) (g0 : G0 a = none) : Wd J G0 H0 Γ ρ σ (upd G a (.dK kvs)) (upd H a (.dK kvs)) := by
  obtain ⟨Pf, h1, h2, h3⟩ := w.env
  have ne : ∀ i b, Pf i b → b ≠ a := fun i b q z => by rw [z] at q; rw [(h2 i a q).1] at hg; cases hg
  refine ⟨⟨fun b u q => ?_, fun b u q => ?_, fun b u q => ?_, fun b q => ?_⟩, w.lg, w.lr, ⟨Pf, h1, fun i b q => ?_, fun i d q => ?_⟩, w.pn⟩
  · rw [upd_ne (fun z => by rw [z, g0] at q; cases q)]; exact w.x.g b u q
  · rw [upd_ne (fun z => by rw [z, h0] at q; cases q)]; exact w.x.h b u q
  · by_cases z : b = a
    · rw [z, upd_same] at q ⊢; exact q
    · rw [upd_ne z] at q ⊢; exact w.x.gh b u q
  · rw [upd_ne (fun z => q (by rw [z]; exact h0))]; exact w.x.base b q
  · rw [upd_ne (ne i b q), upd_ne (ne i b q)]; exact h2 i b q
  · obtain ⟨v, m, s1, s2, s3⟩ := h3 i d q
    refine ⟨v, m, s1, s2, s3.carryR (fun d v r => Rp.unlock hg r) fun b hb => ?_⟩
    rw [upd_ne (ne i b hb), upd_ne (ne i b hb)]
    exact ⟨rfl, fun z => z⟩
def keyDt : Key → Dt
  | .inl i => .int i
  | .inr x => .str x
theorem keyDt_rp {K : PySem.W.Frag} {ca : Str → Addr} (k : Key) : Rp K ca G (keyDt k) (kV k) := by
  cases k with
  | inl i => exact .int i
  | inr x => exact .str x
theorem walk_keys {K : PySem.W.Frag} {ca : Str → Addr} {a : Addr} {o : Obj} {ks : List Key} {us : List V} (hl : ks.length = us.length) (h : G a = some (.frz o (.dK (ks.zip us)))) : Walk K ca (Itk a o (ks.zip us)) G (ks.map keyDt) := by
  have zl : (ks.zip us).length = ks.length := by rw [List.length_zip, hl, Nat.min_self]
  refine ⟨fun i d G1 H1 e g1 g2 => ?_, fun G1 H1 g1 g2 => ⟨g2 _ _ (g1 _ _ h), by rw [zl, List.length_map]; exact Nat.le_refl _⟩⟩
  have hi : i < ks.length := by simpa using (List.getElem?_eq_some_iff.mp e).1
  refine ⟨⟨g2 _ _ (g1 _ _ h), by rw [zl]; exact hi⟩, fun x H2 y => ?_⟩
  obtain ⟨rfl, k, v, y1, rfl⟩ := y
  refine ⟨G1, Ext.refl g2, ?_⟩
  have : ks[i]? = some k := by
    have z := congrArg (Option.map Prod.fst) y1
    rw [← List.getElem?_map, List.map_fst_zip (by omega)] at z
    exact z
  rw [List.getElem?_map, this] at e
  cases e
  exact keyDt_rp k
theorem for_core {it : It} {ds : List Dt} (hg : SemG (J.lp Γ) Γ vs FG g) (hb : SemS (J.lp Γ) Γ Γ F ts) (wk : Walk J.K J.ca it G ds) (w : Wd J G0 H0 Γ ρ σ G H) (q : PostS J G0 H0 G Γ D (forL FG F ds ρ)) : tFor (fun _ H R => R it H) g ts D σ H := by
  refine ⟨fun i n σ' Hi => n = ds.length - i ∧ i ≤ ds.length ∧ ∃ G' ρ', Wd J G0 H0 Γ ρ' σ' G' Hi ∧ Same G G' ∧ PostS J G0 H0 G' Γ D (forL FG F (ds.drop i) ρ'), ⟨ds.length, by simp, Nat.zero_le _, G, ρ, w, Same.refl _, by simpa using q⟩, ?_⟩
  rintro i n σ' Hi ⟨rfl, hi', G', ρ', w', sg, q'⟩
  by_cases hlt : i < ds.length
  case neg =>
    have ei : i = ds.length := by omega
    subst ei
    rw [List.drop_length] at q'
    exact .inl ⟨wk.stop G' Hi sg w'.gh, PostS.of_nx q' σ' G' Hi (Same.refl _) w'⟩
  obtain ⟨go, step⟩ := wk.go i ds[i] G' Hi (by simp [hlt]) sg w'.gh
  have hdrop : ds.drop i = ds[i] :: ds.drop (i + 1) := List.drop_eq_getElem_cons hlt
  rw [hdrop] at q'
  have q' : PostS J G0 H0 G' Γ D (match FG ds[i] ρ' with
    | none => .no
    | some ρ1 => match F ρ1 with
      | .nx ρ2 => forL FG F (ds.drop (i + 1)) ρ2
      | .ct ρ2 => forL FG F (ds.drop (i + 1)) ρ2
      | .bk ρ2 => .nx ρ2
      | o => o) := q'
  refine .inr ⟨go, fun σ2 H2 => ∃ m', m' < ds.length - i ∧ (m' = ds.length - (i + 1) ∧ i + 1 ≤ ds.length ∧ ∃ G' ρ', Wd J G0 H0 Γ ρ' σ2 G' H2 ∧ Same G G' ∧ PostS J G0 H0 G' Γ D (forL FG F (ds.drop (i + 1)) ρ')), fun σ2 H2 z => z, fun x H3 y => ?_⟩
  obtain ⟨G3, e3, rx⟩ := step x H3 y
  cases hF : FG ds[i] ρ' with
  | none => rw [hF] at q'; cases q'
  | some ρ1 =>
  rw [hF] at q'
  refine hg (w'.ext e3).lp rx hF fun σ2 _ w4 => ?_
  refine hb w4 ?_
  have q' : PostS J G0 H0 G' Γ D (match F ρ1 with
      | .nx ρ2 => forL FG F (ds.drop (i + 1)) ρ2
      | .ct ρ2 => forL FG F (ds.drop (i + 1)) ρ2
      | .bk ρ2 => .nx ρ2
      | o => o) := q'
  have q' := q'.up e3.g
  have nxt : ∀ ρ2, PostS J G0 H0 G3 Γ D (forL FG F (ds.drop (i + 1)) ρ2) → ∀ σ5 G5 H5, Same G3 G5 → Wd (J.lp Γ) G0 H0 Γ ρ2 σ5 G5 H5 → ∃ m', m' < ds.length - i ∧ (m' = ds.length - (i + 1) ∧ i + 1 ≤ ds.length ∧ ∃ G' ρ', Wd J G0 H0 Γ ρ' σ5 G' H5 ∧ Same G G' ∧ PostS J G0 H0 G' Γ D (forL FG F (ds.drop (i + 1)) ρ')) := fun ρ2 p σ5 G5 H5 s5 w5 =>
    ⟨ds.length - (i + 1), by omega, rfl, hlt, G5, ρ2, w5.unlp, (sg.trans e3.g).trans s5, p.up s5⟩
  cases hB : F ρ1 with
  | nx r =>
    rw [hB] at q'
    exact .nx (nxt r q')
  | rt d =>
    rw [hB] at q'
    cases q' with
    | rt p => exact .rt p
  | bk r =>
    rw [hB] at q'
    exact .bk fun σ5 G5 H5 s5 w5 => PostS.of_nx q' σ5 G5 H5 s5 w5.unlp
  | ct r =>
    rw [hB] at q'
    exact .ct (nxt r q')
  | ex c r =>
    rw [hB] at q'
    cases q' with
    | ex p => exact .ex fun dx σ5 H5 s5 x5 k5 => p dx σ5 H5 s5 x5 fun Γ1 z => (k5 Γ1 z).imp fun _ w5 => ⟨w5.1, w5.2.unlp⟩
  | no => rw [hB] at q'; cases q'
def forK (j : Nat) (FG : Dt → Ev → Option Ev) (Fb : Ev → Ot) (ρ : Ev) : Ot := match varE j ρ with
  | .ok (.dic ks _) => (match forL FG Fb (ks.map keyDt) ρ with
    | .nx ρ2 => .nx ρ2
    | _ => .no)
  | _ => .no
theorem ss_forK {j : Nat} (hm : Γ[j]? = some (.K .F)) (hg : SemG (J.nq.lp (Γ.set j .F)) (Γ.set j .F) vs FG g) (hb : SemS (J.nq.lp (Γ.set j .F)) (Γ.set j .F) (Γ.set j .F) F ts) : SemS J Γ (Γ.set j .F) (forK j FG F) (tLock (tFor (iKeys (tVar j)) g ts)) := fun {G0 H0 G H ρ σ D} w p => by
  unfold forK at p
  cases hv : varE j ρ with
  | ex c => rw [hv] at p; cases p
  | no => rw [hv] at p; cases p
  | ok d =>
  rw [hv] at p
  cases d with
  | dic ks ds =>
    dsimp only at p
    cases hF : forL FG F (ks.map keyDt) ρ with
    | nx ρ2 =>
      rw [hF] at p
      obtain ⟨a, us, s1, h1, g1, h0, g0, hl, lk⟩ := w.lock hm (varE_ok hv)
      refine ⟨a, _, h1, trivial, fun o => ?_⟩
      have w1 := lk o
      have gl : upd G a (.frz o (.dK (ks.zip us))) a = some (.frz o (.dK (ks.zip us))) := upd_same
      refine ⟨.ref a, s1, a, o, rfl, .inl ⟨_, upd_same, ?_⟩⟩
      refine for_core (J := J.nq) hg hb (walk_keys hl gl) w1 ?_
      rw [hF]
      refine .nx fun σ' G' H' sg w' => ?_
      have ga := sg _ _ gl
      refine ⟨w'.gh _ _ ga, p.of_nx σ' _ _ (fun b u q => ?_) (w'.unlock ga h0 g0)⟩
      have z : b ≠ a := fun z => by rw [z, g1] at q; cases q
      rw [upd_ne z]
      exact sg _ _ (by rw [upd_ne z]; exact q)
    | _ => rw [hF] at p; cases p
  | _ => cases p
theorem comp_core {it : It} {ds : List Dt} {Q : VK} {E : Xn → Prop} {G1 H1 : Hp} (hg : SemG J.nw Γ vs FG g) (ht : SemT J.nw Γ Ft tt) (he : SemE J.nw Γ (.o m) Fe te) (w : Wd J G0 H0 Γ ρ σ G H) (e1 : Ext G H G1 H1) (wk : WalkX J.K J.ca it G1 H1 ds)
    (q : Rs.Post (fun d => ∀ v G' H' P, Ext G H G' H' → Fr G' H H' P → Res J.K J.ca G' H' (.o (.L m)) d v P → Q v H') E (if lenSz ds.length = true then noEx (compL FG Ft Fe (wipeE ρ vs) ds) >>= fun ys => .ok (.lst ys) else .no)) : tLc (fun _ H R => R it H) g tt te vs σ H1 Q := by
  intro D hD
  by_cases c : lenSz ds.length = true
  case neg => rw [if_neg c] at q; cases q
  rw [if_pos c] at q
  have c := lenSz_le c
  cases hn : noEx (compL FG Ft Fe (wipeE ρ vs) ds) with
  | ex z => rw [hn] at q; cases hz : compL FG Ft Fe (wipeE ρ vs) ds <;> rw [hz] at hn <;> cases hn
  | no => rw [hn] at q; cases q
  | ok total =>
  rw [hn, ok_bind] at q
  have hn := noEx_ok hn
  have fin := q.of_ok
  let St : Nat → Hp → Prop := fun i Hi => ∃ (G2 : Hp) (aD : List Dt) (aV : List V) (P : Addr → Prop) (ys : List Dt), Ext G1 H1 G2 Hi ∧ Hi D = some (.lst aV) ∧ G2 D = none ∧ Ows J.K J.ca G2 Hi (List.replicate aD.length m) aD aV P ∧ (∀ b, P b → G2 b = none ∧ H1 b = none ∧ Hi b ≠ none ∧ b ≠ D) ∧
    aD.length ≤ i ∧ compL FG Ft Fe (wipeE ρ vs) (ds.drop i) = .ok ys ∧ aD ++ ys = total
  refine ⟨fun i n Hi => n = ds.length - i ∧ i ≤ ds.length ∧ St i Hi, ⟨ds.length, by simp, Nat.zero_le _, G1, [], [], Pno, total, ?_, upd_same, e1.gh.free hD, .nil, fun _ z => z.elim, Nat.le_refl _, by simpa using hn, rfl⟩, ?_⟩
  · exact (Ext.refl e1.gh).mut hD (e1.gh.free hD)
  rintro i n Hi ⟨rfl, hi, G2, aD, aV, P, ys, E, hDi, gD, own, pr, la, hc, tot⟩
  by_cases hlt : i < ds.length
  case neg =>
    have ei : i = ds.length := by omega
    subst ei
    refine .inl ⟨wk.stop G2 Hi E, ?_⟩
    have z : compL FG Ft Fe (wipeE ρ vs) (ds.drop ds.length) = .ok [] := by rw [List.drop_length]; rfl
    rw [z] at hc
    cases hc
    rw [List.append_nil] at tot
    subst tot
    refine fin _ G2 Hi (fun b => b = D ∨ P b) (e1.trans E) (fun b hb => ?_) (.L hDi gD (.inl rfl) (own.weaken fun b hb => ⟨.inr hb, (pr b hb).2.2.2⟩))
    rcases hb with rfl | hb
    · exact ⟨gD, e1.h.free hD, by rw [hDi]; exact fun z => by cases z⟩
    · exact ⟨(pr b hb).1, e1.h.free (pr b hb).2.1, (pr b hb).2.2.1⟩
  obtain ⟨go, step⟩ := wk.go i ds[i] G2 Hi (by simp [hlt]) E
  refine .inr ⟨go, fun H' => ∃ m', m' < ds.length - i ∧ (m' = ds.length - (i + 1) ∧ i + 1 ≤ ds.length ∧ St (i + 1) H'), fun H' z => z, fun x H3 y => ?_⟩
  obtain ⟨G3, e3, rx⟩ := step x H3 y
  have hdrop : ds.drop i = ds[i] :: ds.drop (i + 1) := List.drop_eq_getElem_cons hlt
  rw [hdrop] at hc
  have hc : (match FG ds[i] (wipeE ρ vs) with
    | none => Rs.no
    | some ρ1 => Ft ρ1 >>= fun b => if b = true then Fe ρ1 >>= fun y => compL FG Ft Fe (wipeE ρ vs) (ds.drop (i + 1)) >>= fun ys => .ok (y :: ys) else compL FG Ft Fe (wipeE ρ vs) (ds.drop (i + 1))) = .ok ys := hc
  cases hF : FG ds[i] (wipeE ρ vs) with
  | none => rw [hF] at hc; cases hc
  | some ρ1 =>
  rw [hF] at hc
  obtain ⟨b, hb, hc⟩ := bind_ok hc
  have w3 : Wd J.nw G0 H0 Γ (wipeE ρ vs) (L2.wipe σ vs) G3 H3 := ((w.ext e1).ext (E.trans e3)).nw.wipe vs rfl
  refine hg w3 rx hF fun σ2 hw w4 => ⟨hw.trans wipe_wipe, ?_⟩
  refine ht w4 ?_
  rw [hb]
  refine .ok fun G4 H4 e4 => ?_
  have E4 : Ext G1 H1 G4 H4 := (E.trans e3).trans e4
  have carry : ∀ {G5 H5 : Hp}, Ext G2 Hi G5 H5 → Ows J.K J.ca G5 H5 (List.replicate aD.length m) aD aV P ∧ (∀ b, P b → G5 b = none ∧ H1 b = none ∧ H5 b ≠ none ∧ b ≠ D) := fun {G5 H5} e5 =>
    ⟨own.carry e5.g fun b hb => ⟨e5.h.at (pr b hb).2.2.1, by rw [e5.base b (pr b hb).2.2.1]; exact (pr b hb).1⟩, fun b hb => ⟨by rw [e5.base b (pr b hb).2.2.1]; exact (pr b hb).1, (pr b hb).2.1, e5.h.nn (pr b hb).2.2.1, (pr b hb).2.2.2⟩⟩
  have hDi0 : Hi D ≠ none := by rw [hDi]; exact fun z => by cases z
  cases b with
  | false =>
    obtain ⟨o4, p4⟩ := carry (e3.trans e4)
    show ∃ m', _
    refine ⟨ds.length - (i + 1), by omega, rfl, hlt, G4, aD, aV, P, ys, E4, (e3.trans e4).h _ _ hDi, by rw [(e3.trans e4).base D hDi0]; exact gD, o4, p4, by omega, hc, tot⟩
  | true =>
    show te σ2 H4 _
    have hc : (Fe ρ1 >>= fun y => compL FG Ft Fe (wipeE ρ vs) (ds.drop (i + 1)) >>= fun ys => .ok (y :: ys)) = .ok ys := hc
    obtain ⟨yD, hy, hc⟩ := bind_ok hc
    obtain ⟨ys2, hys, hc⟩ := bind_ok hc
    cases hc
    refine he (w4.ext e4) ?_
    rw [hy]
    refine .ok fun v G5 H5 P5 e5 f5 o5 => ?_
    have e25 := (e3.trans e4).trans e5
    obtain ⟨o6, p6⟩ := carry e25
    have hD5 : H5 D = some (.lst aV) := e25.h _ _ hDi
    have gD5 : G5 D = none := by rw [e25.base D hDi0]; exact gD
    refine ⟨aV, hD5, ?_, ds.length - (i + 1), by omega, rfl, hlt, G5, aD ++ [yD], aV ++ [v], fun b => P b ∨ P5 b, ys2, (E.trans e25).mut hD gD5, upd_same, gD5, ?_, fun b hb => ?_, by rw [List.length_append, List.length_singleton]; omega, hys, by rw [List.append_assoc]; exact tot⟩
    · rw [← own.len.1]
      exact Nat.lt_of_lt_of_le (Nat.lt_of_le_of_lt la hlt) (sz1000000 c)
    · rw [List.length_append, List.length_singleton, List.replicate_succ']
      have nD5 : ∀ b, P5 b → b ≠ D := fun b hb z => by
        have := (f5 b hb).2.1
        rw [z, (e3.trans e4).h _ _ hDi] at this
        cases this
      refine Ows.append (P1 := P) (P2 := P5) (o6.carry (Same.refl _) fun b hb => ⟨upd_ne (p6 b hb).2.2.2, (p6 b hb).1⟩) (.cons (P1 := P5) (P2 := Pno) (o5.carry (Same.refl _) fun b hb => ⟨upd_ne (nD5 b hb), (f5 b hb).1⟩) .nil (fun _ z => z) (fun _ z => z.elim) (fun _ _ z => z)) (fun _ => .inl) (fun _ => .inr) fun b h1 h2 => ?_
      exact (pr b h1).2.2.1 ((e3.trans e4).h.free (f5 b h2).2.1)
    · rcases hb with hb | hb
      · obtain ⟨a1, a2, a3, a4⟩ := p6 b hb
        exact ⟨a1, a2, by rw [upd_ne a4]; exact a3, a4⟩
      · have nb : b ≠ D := fun z => by
          have := (f5 b hb).2.1
          rw [z, (e3.trans e4).h _ _ hDi] at this
          cases this
        exact ⟨(f5 b hb).1, E4.h.free (f5 b hb).2.1, by rw [upd_ne nb]; exact (f5 b hb).2.2, nb⟩
def scalL : Dt → Bool
  | .lst ds => ds.all scal
  | _ => false
def compK (j : Nat) (vs : List Nat) (FG : Dt → Ev → Option Ev) (Ft : Ev → Rs Bool) (Fe : Ev → Rs Dt) (ρ : Ev) : Rs Dt := varE j ρ >>= fun d => match d with
  | .dic ks _ => compE (fun _ => .ok (ks.map keyDt)) vs FG Ft Fe ρ >>= fun r => if scalL r = true then .ok r else .no
  | _ => .no
theorem Rps.scal {K : PySem.W.Frag} {ca : Str → Addr} {G G' : Hp} : ∀ {ds : List Dt} {vs : List V}, ds.all scal = true → Rps K ca G ds vs → Rps K ca G' ds vs
  | [], _, _, h => by cases h; exact .nil
  | d :: ds, _, c, h => by
    cases h with
    | cons h1 h2 =>
      rw [List.all_cons, Bool.and_eq_true] at c
      exact .cons (scal_rp c.1 h1) (Rps.scal c.2 h2)
theorem se_compK {j : Nat} (hm : Γ[j]? = some (.K .F)) (hg : SemG J.nq.nw (Γ.set j .F) vs FG g) (ht : SemT J.nq.nw (Γ.set j .F) Ft tt) (he : SemE J.nq.nw (Γ.set j .F) (.o .F) Fe te) : SemE J Γ (.o (.L .F)) (compK j vs FG Ft Fe) (tLockE (tLc (iKeys (tVar j)) g tt te vs)) := fun {G0 H0 G H ρ σ Q} w p => by
  unfold compK at p
  obtain ⟨d, hd, p⟩ := varE_post p.bind
  cases d with
  | dic ks ds =>
    obtain ⟨a, us, s1, h1, g1, h0, g0, hl, lk⟩ := w.lock hm hd
    refine ⟨a, _, h1, trivial, fun o => ?_⟩
    have w1 := lk o
    have gl : upd G a (.frz o (.dK (ks.zip us))) a = some (.frz o (.dK (ks.zip us))) := upd_same
    refine ⟨.ref a, s1, a, o, rfl, .inl ⟨_, upd_same, ?_⟩⟩
    have wk := walk_keys (K := J.K) (ca := J.ca) hl gl
    have wx : WalkX J.nq.K J.nq.ca (Itk a o (ks.zip us)) (upd G a (.frz o (.dK (ks.zip us)))) (upd H a (.frz o (.dK (ks.zip us)))) (ks.map keyDt) := ⟨fun i d G2 H2 e E => wk.go i d G2 H2 e E.g E.gh, fun G2 H2 E => wk.stop G2 H2 E.g E.gh⟩
    have e1 : Ext (upd G a (.frz o (.dK (ks.zip us)))) (upd H a (.frz o (.dK (ks.zip us)))) (upd G a (.frz o (.dK (ks.zip us)))) (upd H a (.frz o (.dK (ks.zip us)))) := Ext.refl w1.gh
    refine comp_core (J := J.nq) (E := fun _ => False) (m := .F) (Q := fun v H' => H' a = some (.frz o (.dK (ks.zip us))) ∧ Q v (upd H' a (.dK (ks.zip us)))) hg ht he w1 e1 wx ?_
    have p : Rs.Post _ _ ((if lenSz (ks.map keyDt).length = true then noEx (compL FG Ft Fe (wipeE ρ vs) (ks.map keyDt)) >>= fun ys => Rs.ok (.lst ys) else .no) >>= fun r => if scalL r = true then .ok r else .no) := p
    cases hc : (if lenSz (ks.map keyDt).length = true then noEx (compL FG Ft Fe (wipeE ρ vs) (ks.map keyDt)) >>= fun ys => Rs.ok (Dt.lst ys) else .no) with
    | ex c =>
      exfalso
      split at hc
      · cases hn : compL FG Ft Fe (wipeE ρ vs) (ks.map keyDt) <;> rw [hn] at hc <;> cases hc
      · cases hc
    | no => rw [hc] at p; cases p
    | ok r =>
      rw [hc, ok_bind] at p
      refine .ok fun v G' H' P e f ow => ?_
      have ga : G' a = some (.frz o (.dK (ks.zip us))) := e.g _ _ gl
      refine ⟨e.gh _ _ ga, ?_⟩
      cases sc : scalL r with
      | false => rw [sc] at p; cases p
      | true =>
        rw [sc, if_pos rfl] at p
        cases r with
        | lst rs =>
          have sc : rs.all scal = true := sc
          cases ow with
          | @L _ b ws _ _ k1 k2 k3 k4 =>
            have na : ∀ c, P c → c ≠ a := fun c hc z => by have := (f c hc).1; rw [z, ga] at this; cases this
            refine p.of_ok (.ref b) (fun c => if c = a then none else G' c) (upd H' a (.dK (ks.zip us))) P ⟨fun c u q => ?_, fun c u q => ?_, fun c u q => ?_, fun c q => ?_⟩ (fun c hc => ?_) ?_
            · have z : c ≠ a := fun z => by rw [z, g1] at q; cases q
              show (if c = a then none else G' c) = some u
              rw [if_neg z]
              exact e.g _ _ (by rw [upd_ne z]; exact q)
            · by_cases z : c = a
              · rw [z, h1] at q; cases q; rw [z]; exact upd_same
              · rw [upd_ne z]; exact e.h _ _ (by rw [upd_ne z]; exact q)
            · have q : (if c = a then none else G' c) = some u := q
              by_cases z : c = a
              · rw [if_pos z] at q; cases q
              · rw [if_neg z] at q; rw [upd_ne z]; exact e.gh _ _ q
            · show (if c = a then none else G' c) = G c
              by_cases z : c = a
              · rw [if_pos z, z, g1]
              · rw [if_neg z, e.base c (by rw [upd_ne z]; exact q), upd_ne z]
            · have z := na c hc
              obtain ⟨f1, f2, f3⟩ := f c hc
              rw [upd_ne z] at f2
              refine ⟨?_, f2, by rw [upd_ne z]; exact f3⟩
              show (if c = a then none else G' c) = none
              rw [if_neg z]; exact f1
            · have z := na b k3
              refine .L (by rw [upd_ne z]; exact k1) ?_ k3 (Rps.own (Rps.scal sc k4.frozen))
              show (if b = a then none else G' b) = none
              rw [if_neg z]; exact k2
        | _ => cases sc
  | _ => cases p
end
/-! the greatest of the values -/
section
variable {X : Cx}
def tDValsP (t : TE) : TE := fun σ H Q => t σ H fun x H1 => ∃ a kvs, x = .ref a ∧ H1 a = some (.dK kvs) ∧ ∀ p, H1 p = none → Q (.ref p) (upd H1 p (viewO "dict_values" p a))
theorem pe_dvalsP {e : Expr} {t : TE} {apos cpos : Pos} (he : PE X e t) (hbase : attributeBase e "values" X.env (eval e X.env) = eval e X.env := by rfl) (hline : (apos.endLine == cpos.line) = true := by rfl) : PE X (.Call (.Attribute e "values" apos) [] [] cpos) (tDValsP t) := by
  refine ⟨fun pins s σ H Q I h => ?_⟩
  refine wpAny_Call_method (T := "dict") (id := "dict.values") hbase rfl hline F.plainAttrs_dict F.slot_dict_values F.type_dict_values (thn (he.run pins s σ H _ I h) fun u s1 ⟨x, H1, I1, rx, a, kvs, ex, hd, q⟩ => ?_)
  subst ex
  obtain rfl : u = Value.ref a := rx
  obtain ⟨od, I2⟩ := I1.lock hd trivial
  obtain ⟨hs, hgd, hx, es, ep, vs, hdt, hsz, kv, hm⟩ := I2.frzK upd_same
  refine ⟨hm.dictOf.typeIs, hm.dictOf.mapOf.noDict, ?_⟩
  show wpAny _ _ (callWith cpos (.builtin "dict.values") [.ref a] [] []) _ X.xe s1
  refine method_meetsIn F.slot_dict_values F.entry_dict_values rfl (PySem.evalArgs_none ⟨rfl, hm.dictOf.typeIs, F.args_dict_values_1 _, _, meets_dict_values (mixKind X.prog X.w) a hs, ⟨vs, hm.dictOf⟩, ?_⟩)
  exact ⟨.ref s1.heap.objs.size, _, I1.laid (t' := s1.toks) (fun b o q => Heap.get?_push_of_some _ q) (Nat.le_refl _) (viewO_ok (Heap.get?_push_size _ rfl)), rfl, q _ (I1.hok.fresh (Nat.le_refl _))⟩
def rMaxVP : List V → Hp → VK → Prop := fun xs H Q => ∃ (p a : Addr) (kvs : List (Key × V)) (ns : List Int), xs = [.ref p] ∧ H p = some (viewO "dict_values" p a) ∧ H a = some (.dK kvs) ∧ kvs.map Prod.snd = ns.map V.int ∧ 0 < ns.length ∧ ∀ m, m ∈ ns → (∀ y, y ∈ ns → y ≤ m) → Q (.int m) H
theorem cr_maxVP (hc : X.calm = true) : CallR X (.builtin "max") rMaxVP := by
  intro pins s σ H xs us Q I rx h
  obtain ⟨p, a, kvs, ns, rfl, hp, hd, hns, hne, q⟩ := h
  rw [Vals.ref1 rx]
  have hv : s.heap.get? p = some (DSub.viewOb "dict_values" a) := (show ObjOk X.prog X.w H s.heap p (viewO "dict_values" p a) from I.hok p _ hp).1
  obtain ⟨od, I2⟩ := I.lock hd trivial
  obtain ⟨hs, hgd, hx, es, ep, vs, hdt, hsz, kv, hm⟩ := I2.frzK upd_same
  have hkn : kvs.length = ns.length := by
    have e := congrArg List.length hns
    rw [List.length_map, List.length_map] at e
    exact e
  have hkv : kvs.length = vs.length := Paired.length kv
  have hP : ∀ (i : Nat) (v : Value), (∃ k, vs[i]? = some (k, v)) → ∃ t, v = .int (ns.getD i 0) t := fun i v ⟨k, he⟩ => by
    have hi : i < vs.length := (List.getElem?_eq_some_iff.mp he).1
    have hi2 : i < kvs.length := by omega
    have hi3 : i < ns.length := by omega
    obtain ⟨u, e1, r⟩ := kv_get kv (i := i) (k := kvs[i].1) (v := kvs[i].2) (List.getElem?_eq_getElem hi2)
    rw [he] at e1
    have e1 := congrArg (Option.map Prod.snd) e1
    have e1 : v = u := Option.some.inj e1
    have e2 : kvs[i].2 = V.int ns[i] := by
      have z : (kvs.map Prod.snd)[i]? = (ns.map V.int)[i]? := by rw [hns]
      rw [List.getElem?_map, List.getElem?_map, List.getElem?_eq_getElem hi2, List.getElem?_eq_getElem hi3] at z
      exact Option.some.inj z
    have e3 : ns.getD i 0 = ns[i] := by rw [List.getD_eq_getElem?_getD, List.getElem?_eq_getElem hi3] <;> rfl
    rw [e1, e3]
    rw [e2] at r
    exact r
  refine call_max_walk ?_
  refine wpAny_pyIter_values (d := a) (knd := mixKind X.prog X.w) ⟨_, hv, rfl, rfl⟩ hm ?_
  have ha : a < s.heap.objs.size := Heap.lt_size hgd
  refine ⟨s.heap.objs.size, [s.heap.objs.size, a], [s.heap.objs.size], vs.length, fun i v => ∃ k, vs[i]? = some (k, v), _, fun i j => decide (ns.getD i 0 > ns.getD j 0), rfl, Walks.dictValues (knd := mixKind X.prog X.w) (show X.A.in1.handled = none from I.ok.hd hc) s.heap.objs.size a (Nat.ne_of_lt ha) vs ep, ⟨⟨_, Heap.get?_push_size _ rfl, rfl, rfl⟩, hm.push _⟩, fun b hb => ?_, by omega, CmpOf.ints_gt (fun i => ns.getD i 0) hP, fun v h' tk hv' hk => ?_⟩
  · show b < (s.heap.push _).objs.size
    rw [size_push']
    rcases List.mem_cons.mp hb with z | z
    · rw [z]
      exact Nat.lt_succ_self _
    · rw [List.mem_singleton.mp z]
      exact Nat.lt_succ_of_lt ha
  · obtain ⟨t, rfl⟩ := hP _ _ hv'
    obtain ⟨m1', m2'⟩ := argBest_gt (fun i => ns.getD i 0) (vs.length - 1)
    have m1 : argBest (fun i j => decide (ns.getD i 0 > ns.getD j 0)) (vs.length - 1) ≤ vs.length - 1 := m1'
    have m2 : ∀ j, j ≤ vs.length - 1 → ns.getD j 0 ≤ ns.getD (argBest (fun i j => decide (ns.getD i 0 > ns.getD j 0)) (vs.length - 1)) 0 := m2'
    have hk2 : ∀ b o, s.heap.get? b = some o → h'.get? b = some o := fun b o e => hk b o (fun z => by rw [List.mem_singleton.mp z] at e; exact absurd (Heap.lt_size e) (Nat.lt_irrefl _)) (Heap.get?_push_of_some _ e)
    refine ⟨.int _, H, I.kept (t' := tk) hk2, ⟨t, rfl⟩, q _ (PySem.getD_mem (by omega)) fun y hy => ?_⟩
    obtain ⟨j, hj, e⟩ := List.mem_iff_getElem.mp hy
    have z := m2 j (by omega)
    have e3 : ns.getD j 0 = y := by rw [List.getD_eq_getElem?_getD, List.getElem?_eq_getElem hj, ← e] <;> rfl
    rw [e3] at z
    exact z
end
section
variable {J : Jc} {Γ : List Mode} {m : Mode} {Fa : Ev → Rs Dt} {ta : TE}
def maxVD (d : Dt) : Rs Dt := match d with
  | .dic _ ds => maxD (.lst ds)
  | _ => .no
def maxVE (j : Nat) (ρ : Ev) : Rs Dt := varE j ρ >>= maxVD
theorem se_maxV {j : Nat} (hm : Γ[j]? = some (.K .F)) : SemE J Γ (.o .F) (maxVE j) (tCB rMaxVP (tCons (tDValsP (tVar j)) tNil)) := fun {G0 H0 G H ρ σ Q} w p => by
  unfold maxVE at p
  obtain ⟨d, hd, p⟩ := varE_post p.bind
  cases d with
  | dic ks ds =>
    obtain ⟨v, m, P, s1, s2, s3, _⟩ := w.get hd
    rw [hm] at s2
    cases s2
    cases s3 with
    | @K _ a _ us _ _ k1 k2 k3 k4 k5 =>
      have p : Rs.Post _ _ (maxD (.lst ds)) := p
      have r := k5.frozen
      refine ⟨.ref a, s1, a, _, rfl, k1, fun t ht => ?_⟩
      have na : a ≠ t := fun z => by rw [z, ht] at k1; cases k1
      cases e2 : intsOf ds with
      | none => unfold maxD at p; simp only [lisD, e2] at p; cases p
      | some bs =>
        cases bs with
        | nil => unfold maxD at p; simp only [lisD, e2] at p; cases p
        | cons b r' =>
        unfold maxD at p
        simp only [lisD, e2] at p
        refine ⟨t, a, _, b :: r', rfl, upd_same, by rw [upd_ne na]; exact k1, ?_, by simp, fun m hm hle => ?_⟩
        · rw [List.map_snd_zip (by omega)]
          exact rps_ints e2 r
        · obtain ⟨h1, h2, h3⟩ := foldl_max_le r' b
          have e : m = maxL (b :: r') := by
            have a1 : m ≤ maxL (b :: r') := by
              rcases List.mem_cons.mp hm with z | z
              · rw [z]; exact h1
              · exact h2 m z
            have a2 : maxL (b :: r') ≤ m := hle _ (by
              show r'.foldl max b ∈ b :: r'
              rcases h3 with z | z
              · rw [z]; exact List.mem_cons_self
              · exact List.mem_cons_of_mem _ z)
            omega
          rw [e]
          exact p.of_ok _ G _ Pno (Ext.heap w.gh (Same.new ht)) Fr.no (.F (.int _))
  | _ => cases p
/-! a dict of one written pair -/
def dconE (k : Key) (d : Dt) (_ : Ev) : Rs Dt := .ok (.dic [k] [d])
theorem se_dcon {k : Key} {d : Dt} {v : V} (r : ∀ G, Rp J.K J.ca G d v) : SemE J Γ (.o (.K .F)) (dconE k d) (tDisp [(tC (kV k), tC v)]) := fun {G0 H0 G H ρ σ Q} w p a ha => by
  refine ⟨upd_same, [(k, v)], rfl, by simp, ?_⟩
  rw [upd_upd]
  refine p.of_ok (.ref a) G _ (fun b => b = a) (Ext.heap w.gh (Same.new ha)) (fun b hb => ?_) (.K (ks := [k]) (vs := [v]) upd_same (w.gh.free ha) rfl rfl (Rps.own (.cons (r G) .nil)))
  rw [hb, upd_same]
  exact ⟨w.gh.free ha, ha, fun z => by cases z⟩
end
/-! an owned thing handed from name to name -/
section
variable {J : Jc} {Γ : List Mode} {m : Mode}
def mvS (i k : Nat) (ρ : Ev) : Ot := bindS (varE k ρ) ρ fun d => .nx ((ρ.set k none).set i (some d))
theorem ss_mv {i k : Nat} (hk : Γ[k]? = some m) (hne : i ≠ k) (hp : J.free i := by rfl) : SemS J Γ (Γ.set i m) (mvS i k) (tAsg (tVar k) (gName i)) := fun {G0 H0 G H ρ σ D} w p => by
  unfold mvS at p
  cases hv : varE k ρ with
  | ex c => unfold varE at hv; split at hv <;> cases hv
  | no => rw [hv] at p; cases p
  | ok d =>
  rw [hv] at p
  have p : PostS J G0 H0 G (Γ.set i m) D (.nx ((ρ.set k none).set i (some d))) := p
  have e1 := varE_ok hv
  obtain ⟨Pf, h1, h2, h3⟩ := w.env
  obtain ⟨v, m1, s1, s2, s3⟩ := h3 k _ e1
  rw [hk] at s2
  cases s2
  refine ⟨v, s1, p.of_nx _ G H (Same.refl _) ⟨w.x, by simp only [List.length_set]; exact w.lg, by simp only [List.length_set]; exact w.lr, ⟨fun j b => if j = i then Pf k b else if j = k then False else Pf j b, fun j l b n q r => ?_, fun j b q => ?_, fun j c q => ?_⟩, fun l u hv => ?_⟩⟩
  · dsimp only at q r
    by_cases q1 : j = i
    · have q2 : l ≠ i := fun z => n (q1.trans z.symm)
      simp only [q1, if_true] at q
      simp only [q2, if_false] at r
      by_cases q3 : l = k
      · simp only [q3, if_true] at r
      · simp only [q3, if_false] at r
        exact h1 k l b (Ne.symm q3) q r
    · simp only [q1, if_false] at q
      by_cases q3 : j = k
      · simp only [q3, if_true] at q
      · simp only [q3, if_false] at q
        by_cases q2 : l = i
        · simp only [q2, if_true] at r
          exact h1 j k b q3 q r
        · simp only [q2, if_false] at r
          by_cases q4 : l = k
          · simp only [q4, if_true] at r
          · simp only [q4, if_false] at r
            exact h1 j l b n q r
  · dsimp only at q
    by_cases q1 : j = i
    · simp only [q1, if_true] at q
      exact h2 k b q
    · simp only [q1, if_false] at q
      by_cases q3 : j = k
      · simp only [q3, if_true] at q
      · simp only [q3, if_false] at q
        exact h2 j b q
  · by_cases q1 : j = i
    · subst q1
      have hl : j < ρ.length := by
        have z := (List.getElem?_eq_some_iff.mp q).1
        simpa using z
      rw [List.getElem?_set_self (by simpa using hl)] at q
      cases q
      have hl2 : j < σ.length := by rw [← w.lr]; exact hl
      have hg : j < Γ.length := by rw [w.lg]; exact hl
      refine ⟨v, m, List.getElem?_set_self hl2, List.getElem?_set_self hg, ?_⟩
      simp only [if_true]
      exact s3
    · rw [List.getElem?_set_ne (Ne.symm q1)] at q
      by_cases q3 : j = k
      · subst q3
        rw [List.getElem?_set] at q
        simp at q
      · rw [List.getElem?_set_ne (Ne.symm q3)] at q
        obtain ⟨v2, m2, t1, t2, t3⟩ := h3 j c q
        refine ⟨v2, m2, by rw [List.getElem?_set_ne (Ne.symm q1)]; exact t1, by rw [List.getElem?_set_ne (Ne.symm q1)]; exact t2, ?_⟩
        simp only [q1, q3, if_false]
        exact t3
  · have ne : l ≠ i := pinB_ne hp hv
    rw [List.getElem?_set_ne (Ne.symm ne)]
    exact w.pn l u hv
end
end Pm
namespace Pm
open PySem PySem.Spec PyProof.Rows L2
open Classical
/-! ### methods that change their self -/
section
variable {G H G' H' : Hp} {K : PySem.W.Frag} {ca : Str → Addr}
theorem Ows.setF : ∀ {ds : List Dt} {ms : List Mode} {us : List V} {P : Addr → Prop} {j : Nat} {y : Dt} {u : V}, Ows K ca G H ms ds us P → ms[j]? = some .F → Rp K ca G y u → Ows K ca G H ms (ds.set j y) (us.set j u) P
  | [], ms, us, P, j, y, u, h, hm, r => by cases h; exact .nil
  | d :: ds, ms, us, P, 0, y, u, h, hm, r => by
    cases h with
    | cons h1 h2 q1 q2 q3 =>
      cases hm
      exact .cons (P1 := Pno) (.F r) h2 (fun _ z => z.elim) q2 fun _ z => z.elim
  | d :: ds, ms, us, P, j + 1, y, u, h, hm, r => by
    cases h with
    | cons h1 h2 q1 q2 q3 => exact .cons h1 (Ows.setF h2 (by simpa using hm) r) q1 q2 q3
theorem Ows.two : ∀ {ds : List Dt} {ms : List Mode} {us : List V} {P : Addr → Prop} {j k : Nat} {m n : Mode} {d e : Dt}, Ows K ca G H ms ds us P → j ≠ k → ms[j]? = some m → ms[k]? = some n → ds[j]? = some d → ds[k]? = some e →
    ∃ v w Pj Pk, us[j]? = some v ∧ us[k]? = some w ∧ Ow K ca G H m d v Pj ∧ Ow K ca G H n e w Pk ∧ (∀ b, Pj b → P b) ∧ (∀ b, Pk b → P b) ∧ ∀ b, Pj b → ¬ Pk b
  | [], ms, us, P, j, k, m, n, d, e, h, ne, a1, a2, b1, b2 => by simp at b1
  | x :: ds, ms, us, P, j, k, m, n, d, e, h, ne, a1, a2, b1, b2 => by
    cases h with
    | @cons _ _ _ _ _ _ _ P1 P2 h1 h2 q1 q2 q3 =>
      cases j with
      | zero =>
        cases k with
        | zero => exact absurd rfl ne
        | succ k =>
          cases a1
          cases b1
          obtain ⟨w, Pk, c1, c2, c3, _⟩ := h2.focus (k := k) (by simpa using a2) (by simpa using b2)
          exact ⟨_, w, P1, Pk, rfl, by simpa using c1, h1, c2, q1, fun b hb => q2 b (c3 b hb), fun b hb z => q3 b hb (c3 b z)⟩
      | succ j =>
        cases k with
        | zero =>
          cases a2
          cases b2
          obtain ⟨w, Pk, c1, c2, c3, _⟩ := h2.focus (k := j) (by simpa using a1) (by simpa using b1)
          exact ⟨w, _, Pk, P1, by simpa using c1, rfl, c2, h1, fun b hb => q2 b (c3 b hb), q1, fun b hb z => q3 b z (c3 b hb)⟩
        | succ k =>
          obtain ⟨v, w, Pj, Pk, c1, c2, c3, c4, c5, c6, c7⟩ := Ows.two (j := j) (k := k) h2 (fun z => ne (by rw [z])) (by simpa using a1) (by simpa using a2) (by simpa using b1) (by simpa using b2)
          exact ⟨v, w, Pj, Pk, by simpa using c1, by simpa using c2, c3, c4, fun b hb => q2 b (c5 b hb), fun b hb => q2 b (c6 b hb), c7⟩
end
section
variable {J : Jc} {Γ Γ' Γ1 : List Mode} {m : Mode} {ms : List Mode} {Fe : Ev → Rs Dt} {te ta : TE} {G0 H0 G H G' H' : Hp} {ρ : Ev} {σ : L2.St} {D : Ends} {v : V} {Fs : List (Ev → Rs Dt)} {tr : TA} {Fn : List Dt → Rs Dt} {np : Nat}
/-- the owned object of a slot is changed -/
theorem Wd.put {i : Nat} {d d' : Dt} {v : V} {Pf : Nat → Addr → Prop} {P : Addr → Prop} (w : Wd J G0 H0 Γ ρ σ G H) (h1 : ∀ i j a, i ≠ j → Pf i a → ¬ Pf j a) (h2 : ∀ i a, Pf i a → G a = none ∧ H0 a = none ∧ H a ≠ none)
    (h3 : ∀ i d, ρ[i]? = some (some d) → ∃ v m, σ[i]? = some (some v) ∧ Γ[i]? = some m ∧ Ow J.K J.ca G H m d v (Pf i)) (hq : ρ[i]? = some (some d)) (hm : Γ[i]? = some m) (hs : σ[i]? = some (some v)) (o : Ow J.K J.ca G' H' m d' v P)
    (e : Ext G0 H0 G' H') (sg : Same G G') (hp : ∀ b, P b → (Pf i b ∨ H b = none) ∧ G' b = none ∧ H0 b = none ∧ H' b ≠ none) (hc : ∀ b, H b ≠ none → ¬ Pf i b → H' b = H b ∧ G' b = G b) : Wd J G0 H0 Γ (ρ.set i (some d')) σ G' H' := by
  have hl : i < ρ.length := (List.getElem?_eq_some_iff.mp hq).1
  refine ⟨e, by rw [List.length_set]; exact w.lg, by rw [List.length_set]; exact w.lr, ⟨fun j b => if j = i then P b else Pf j b, fun j k b n q r => ?_, fun j b q => ?_, fun j c q => ?_⟩, w.pn⟩
  · dsimp only at q r
    by_cases q1 : j = i
    · have q2 : k ≠ i := fun z => n (q1.trans z.symm)
      simp only [q1, if_true] at q
      simp only [q2, if_false] at r
      rcases (hp b q).1 with z | z
      · exact h1 k i b q2 r z
      · exact (h2 k b r).2.2 z
    · simp only [q1, if_false] at q
      by_cases q2 : k = i
      · simp only [q2, if_true] at r
        rcases (hp b r).1 with z | z
        · exact h1 j i b q1 q z
        · exact (h2 j b q).2.2 z
      · simp only [q2, if_false] at r
        exact h1 j k b n q r
  · dsimp only at q
    by_cases q1 : j = i
    · simp only [q1, if_true] at q
      exact (hp b q).2
    · simp only [q1, if_false] at q
      obtain ⟨a1, a2, a3⟩ := h2 j b q
      obtain ⟨c1, c2⟩ := hc b a3 (h1 j i b q1 q)
      exact ⟨by rw [c2]; exact a1, a2, by rw [c1]; exact a3⟩
  · by_cases q1 : j = i
    · subst q1
      rw [List.getElem?_set_self hl] at q
      cases q
      refine ⟨v, m, hs, hm, ?_⟩
      simp only [if_true]
      exact o
    · rw [List.getElem?_set_ne (Ne.symm q1)] at q
      obtain ⟨v2, m2, t1, t2, t3⟩ := h3 j c q
      refine ⟨v2, m2, t1, t2, ?_⟩
      simp only [q1, if_false]
      refine t3.carry sg fun b hb => ?_
      obtain ⟨a1, a2, a3⟩ := h2 j b hb
      obtain ⟨c1, c2⟩ := hc b a3 (h1 j i b q1 hb)
      exact ⟨c1, by rw [c2]; exact a1⟩
/-- self.f = e, a field that is there -/
def setFld (C f : Str) (i j : Nat) (Fe : Ev → Rs Dt) (ρ : Ev) : Ot := bindS (Fe ρ) ρ fun y => bindS (varE i ρ) ρ fun d => match d with
  | .ins C' ns ds => if C' = C ∧ fix f ns = some j ∧ ns.length < 100 then .nx (ρ.set i (some (.ins C' ns (ds.set j y)))) else .no
  | _ => .no
theorem ss_setFld {C f : Str} {i j : Nat} (cl : Cls J.K (J.ca C)) (na : NoAttr J.K (J.ca C) f) (hm : Γ[i]? = some (.I ms)) (hj : ms[j]? = some .F) (h : SemE J Γ (.o .F) Fe te) (hx : Gx J Γ) : SemS J Γ Γ (setFld C f i j Fe) (sFld J.K (tVar i) te f) := fun {G0 H0 G H ρ σ D} w p => by
  unfold setFld at p
  refine h w ((PostS.bind w hx p).imp (fun y _ q u G1 H1 P1 e1 f1 o1 => ?_) fun _ q => q)
  have w1 := w.ext e1
  obtain ⟨d, hv, q2⟩ := q.bindx (fun _ => nx_varE)
  clear q
  have q := q2
  clear q2
  have hq := varE_ok hv
  obtain ⟨Pf, h1, h2, h3⟩ := w1.env
  obtain ⟨v, m', s1, s2, s3⟩ := h3 i d hq
  rw [hm] at s2
  cases s2
  cases s3 with
  | @I _ C' a dx ns us ds _ k1 k2 k3 k4 k5 =>
    replace q : PostS J G0 H0 G Γ D (if C' = C ∧ fix f ns = some j ∧ ns.length < 100 then .nx (ρ.set i (some (.ins C' ns (ds.set j y)))) else .no) := q
    by_cases hC : C' = C ∧ fix f ns = some j ∧ ns.length < 100
    case neg => rw [if_neg hC] at q; cases q
    rw [if_pos hC] at q
    obtain ⟨hC, hf, hn⟩ := hC
    subst hC
    have zl : (ns.zip us).length = ns.length := by rw [List.length_zip, k4, Nat.min_self]
    cases o1 with
    | F o1 =>
    refine ⟨_, s1, a, J.ca C', dx, ns.zip us, rfl, k1, cl, na, by rw [zl]; omega, ?_⟩
    rw [fix_putO k4 hf]
    have hna : H1 a ≠ none := by rw [k1]; exact fun z => by cases z
    refine q.of_nx σ G1 _ e1.g (w1.put h1 h2 h3 hq hm s1 (P := Pf i) (.I upd_same k2 k3 (by rw [List.length_set]; exact k4) ?_) (w1.x.mut (h2 i a k3).2.1 k2) (Same.refl _) (fun b hb => ⟨.inl hb, (h2 i b hb).1, (h2 i b hb).2.1, ?_⟩) fun b hb nb => ⟨upd_ne fun z => nb (by rw [z]; exact k3), rfl⟩)
    · refine (k5.setF hj o1).carry (Same.refl _) fun b hb => ⟨upd_ne hb.2, (h2 i b hb.1).1⟩
    · by_cases z : b = a
      · rw [z, upd_same]; exact fun z => by cases z
      · rw [upd_ne z]; exact (h2 i b hb).2.2
/-- self.f.append(self.g.pop(e)) -/
def appPopF (C f g : Str) (i j k : Nat) (Fe : Ev → Rs Dt) (ρ : Ev) : Ot := bindS (varE i ρ) ρ fun d => match d with
  | .ins C' ns ds => if C' = C ∧ fix f ns = some j ∧ fix g ns = some k then bindS (lstOf (ds.getD j .non)) ρ fun as => bindS (lstOf (ds.getD k .non)) ρ fun xs => bindS (Fe ρ) ρ fun y => bindS (popD xs y) ρ fun z => if lenSz as.length = true then .nx (ρ.set i (some (.ins C' ns ((ds.set j (.lst (as ++ [z.1]))).set k (.lst z.2))))) else .no else .no
  | _ => .no
theorem getD_lst {ds : List Dt} {j : Nat} {as : List Dt} (h : lstOf (ds.getD j .non) = .ok as) : ds[j]? = some (.lst as) := by
  have e := lstOf_ok h
  rw [List.getD] at e
  cases q : ds[j]? with
  | none => rw [q] at e; cases e
  | some d =>
    rw [q] at e
    have e : d = .lst as := e
    rw [e]
theorem ss_appPopF {C f g : Str} {i j k : Nat} (cl : Cls J.K (J.ca C)) (na : NoAttr J.K (J.ca C) f) (nb : NoAttr J.K (J.ca C) g) (hm : Γ[i]? = some (.I ms)) (hj : ms[j]? = some (.L .F)) (hk : ms[k]? = some (.L .F)) (njk : j ≠ k) (h : SemE J Γ .B Fe te) (hx : Gx J Γ) :
    SemS J Γ Γ (appPopF C f g i j k Fe) (tDrop (tBM J.K "list" rAppend (tFld J.K (tVar i) f) (tCons (tBM J.K "list" rPopAt (tFld J.K (tVar i) g) (tCons te tNil)) tNil))) := fun {G0 H0 G H ρ σ D} w p => by
  unfold appPopF at p
  obtain ⟨d, hv, q⟩ := p.bindx (fun _ => nx_varE)
  clear p
  have hq := varE_ok hv
  obtain ⟨Pf, h1, h2, h3⟩ := w.env
  obtain ⟨v, m', s1, s2, s3⟩ := h3 i d hq
  rw [hm] at s2
  cases s2
  cases s3 with
  | @I _ C' a0 dx ns us ds _ k1 k2 k3 k4 k5 =>
    replace q : PostS J G0 H0 G Γ D (if C' = C ∧ fix f ns = some j ∧ fix g ns = some k then bindS (lstOf (ds.getD j .non)) ρ fun as => bindS (lstOf (ds.getD k .non)) ρ fun xs => bindS (Fe ρ) ρ fun y => bindS (popD xs y) ρ fun z => if lenSz as.length = true then .nx (ρ.set i (some (.ins C' ns ((ds.set j (.lst (as ++ [z.1]))).set k (.lst z.2))))) else .no else .no) := q
    by_cases hC : C' = C ∧ fix f ns = some j ∧ fix g ns = some k
    case neg => rw [if_neg hC] at q; cases q
    rw [if_pos hC] at q
    obtain ⟨hC, hf, hg⟩ := hC
    subst hC
    obtain ⟨as, ha, q⟩ := q.bindx (fun _ => nx_lstOf)
    obtain ⟨xs, hxs, q⟩ := q.bindx (fun _ => nx_lstOf)
    have dj := getD_lst ha
    have dk := getD_lst hxs
    obtain ⟨u1, u2, P1, P2, c1, c2, c3, c4, c5, c6, c7⟩ := k5.two njk hj hk dj dk
    cases c3 with
    | @L _ a au _ _ a1 a2 a3 a4 =>
    cases c4 with
    | @L _ l xu _ _ l1 l2 l3 l4 =>
    have nal : a ≠ l := fun z => c7 a a3 (by rw [z]; exact l3)
    have na0 : a ≠ a0 := (c5 a a3).2
    have nl0 : l ≠ a0 := (c6 l l3).2
    refine ⟨_, s1, a0, J.ca C', dx, _, .ref a, rfl, k1, cl, na, fix_lookup hf c1, .inl ⟨rfl, au, .of a1⟩, ?_⟩
    refine ⟨_, s1, a0, J.ca C', dx, _, .ref l, rfl, k1, cl, nb, fix_lookup hg c2, .inl ⟨rfl, xu, .of l1⟩, ?_⟩
    refine h w ((PostS.bind w hx q).imp (fun y _ q y' G2 H2 P3 e2 f2 o2 => ?_) fun _ q => q)
    obtain ⟨⟨z, es⟩, hz, q⟩ := PostS.bindx (fun _ => nx_pop) q
    dsimp only at q
    by_cases c : lenSz as.length = true
    case neg => rw [if_neg c] at q; cases q
    rw [if_pos c] at q
    have r1 : Rps J.K J.ca G2 xs xu := (l4.frozen).mono e2.g
    obtain ⟨i', n, u, rfl, i1, i2, i3, i4, i5, rfl⟩ := popD_run hz r1 o2
    refine ⟨l, xu, i', n, u, rfl, rfl, e2.h _ _ l1, i1, i2, i3, i4, ?_⟩
    refine ⟨a, au, u, rfl, rfl, by rw [upd_ne nal]; exact e2.h _ _ a1, by rw [← a4.len.1]; exact lenSz_lt c, ?_⟩
    rw [← upd_comm nal]
    have base : ∀ b, Pf i b → G2 b = none ∧ H2 b = H b := fun b hb => ⟨by rw [e2.base b (h2 i b hb).2.2]; exact (h2 i b hb).1, e2.h.at (h2 i b hb).2.2⟩
    have ki : Ows J.K J.ca G2 H2 ms ds us (fun b => Pf i b ∧ b ≠ a0) := k5.carry e2.g fun b hb => ⟨(base b hb.1).2, (base b hb.1).1⟩
    have ga := base a (c5 a a3).1
    have gl := base l (c6 l l3).1
    obtain ⟨v1, Q1, d1, d2, d3, d4⟩ := ki.focus hj dj
    rw [c1] at d1
    cases d1
    cases d2 with
    | @L _ _ au' _ _ b1 b2 b3 b4 =>
    rw [ga.2, a1] at b1
    cases b1
    have st1 := d4 G2 (upd H2 a (.lst (au ++ [u]))) (.lst (as ++ [z])) (fun b => b = a) (Same.refl _) (fun b hb nb => ⟨upd_ne fun y => nb (by rw [y]; exact b3), (base b hb.1).1⟩) (.L upd_same ga.1 rfl (Rps.own (b4.frozen.append (.cons i5 .nil)))) (fun b hb => .inl (by rw [hb]; exact b3))
    have dk2 : (ds.set j (.lst (as ++ [z])))[k]? = some (.lst xs) := by rw [List.getElem?_set_ne njk]; exact dk
    obtain ⟨v2, Q2, g1, g2, g3, g4⟩ := st1.focus hk dk2
    rw [c2] at g1
    cases g1
    cases g2 with
    | @L _ _ xu' _ _ t1 t2 t3 t4 =>
    rw [upd_ne (Ne.symm nal), gl.2, l1] at t1
    cases t1
    have st2 := g4 G2 (upd (upd H2 a (.lst (au ++ [u]))) l (.lst (xu.eraseIdx n))) (.lst (xs.eraseIdx n)) (fun b => b = l) (Same.refl _) (fun b hb nb => ⟨upd_ne fun y => nb (by rw [y]; exact t3), ?_⟩) (.L upd_same gl.1 rfl (Rps.own ((r1).erase n))) (fun b hb => .inl (by rw [hb]; exact t3))
    case refine_1 =>
      rcases hb with hb | hb
      · exact (base b hb.1.1).1
      · rw [hb]; exact ga.1
    have w2 := w.ext e2
    obtain ⟨Pg, j1, j2, j3⟩ : ∃ Pg : Nat → Addr → Prop, (∀ i j a, i ≠ j → Pg i a → ¬ Pg j a) ∧ (∀ i a, Pg i a → G2 a = none ∧ H0 a = none ∧ H2 a ≠ none) ∧ Pg = Pf := ⟨Pf, h1, fun i b hb => ⟨by rw [e2.base b (h2 i b hb).2.2]; exact (h2 i b hb).1, (h2 i b hb).2.1, e2.h.nn (h2 i b hb).2.2⟩, rfl⟩
    subst j3
    have h3' : ∀ i d, ρ[i]? = some (some d) → ∃ v m, σ[i]? = some (some v) ∧ Γ[i]? = some m ∧ Ow J.K J.ca G2 H2 m d v (Pg i) := fun i d q => by
      obtain ⟨v, m, s1, s2, s3⟩ := h3 i d q
      exact ⟨v, m, s1, s2, s3.carry e2.g fun b hb => ⟨e2.h.at (h2 i b hb).2.2, by rw [e2.base b (h2 i b hb).2.2]; exact (h2 i b hb).1⟩⟩
    have pa := (c5 a a3).1
    have pl := (c6 l l3).1
    have up : ∀ b, H2 b ≠ none → (upd (upd H2 a (.lst (au ++ [u]))) l (.lst (xu.eraseIdx n))) b ≠ none := fun b hb => by
      by_cases z1 : b = l
      · rw [z1, upd_same]; exact fun z => by cases z
      · rw [upd_ne z1]
        by_cases z2 : b = a
        · rw [z2, upd_same]; exact fun z => by cases z
        · rw [upd_ne z2]; exact hb
    refine q.of_nx σ G2 _ e2.g (w2.put j1 j2 h3' hq hm s1 (P := Pg i) (.I (by rw [upd_ne (Ne.symm nl0), upd_ne (Ne.symm na0)]; exact e2.h _ _ k1) (j2 i a0 k3).1 k3 k4 (st2.weaken fun b hb => ?_)) ((w2.x.mut (j2 i a pa).2.1 ga.1).mut (j2 i l pl).2.1 gl.1) (Same.refl _) (fun b hb => ⟨.inl hb, (j2 i b hb).1, (j2 i b hb).2.1, up b (j2 i b hb).2.2⟩) fun b hb nb => ⟨by rw [upd_ne fun y => nb (by rw [y]; exact pl), upd_ne fun y => nb (by rw [y]; exact pa)], rfl⟩)
    rcases hb with ⟨hb, _⟩ | hb
    · rcases hb with ⟨hb, _⟩ | hb
      · exact hb
      · rw [hb]; exact c5 a a3
    · rw [hb]; exact c6 l l3
/-! the spec of such a method, its call -/
noncomputable def offP (H : Hp) (P : Addr → Prop) : Hp := fun b => if P b then none else H b
def spL (K : PySem.W.Frag) (ca : Str → Addr) (np : Nat) (ms : List Mode) (Fn : List Dt → Rs Dt) : Sp := fun vs H Q E => vs.length = np ∧ ∃ (G : Hp) (a : Addr) (d : Dt) (ds : List Dt) (us : List V) (P : Addr → Prop), vs = .ref a :: us ∧ Same G H ∧ Ow K ca G H (.I ms) d (.ref a) P ∧ (∀ b, P b → G b = none ∧ H b ≠ none) ∧ Rps K ca G ds us ∧
  ∃ d', Fn (d :: ds) = .ok d' ∧ ∀ G' H' P', Ext G (offP H P) G' H' → (∀ b, P' b → G' b = none ∧ offP H P b = none ∧ H' b ≠ none) → Ow K ca G' H' (.I ms) d' (.ref a) P' → Q .non H'
def outL : Ot → Rs Dt
  | .nx ρ => (match ρ[0]? with
    | some (some d) => .ok d
    | _ => .no)
  | _ => .no
def lendF (np nl : Nat) (F : Ev → Ot) (ds : List Dt) : Rs Dt := if ds.length = np then outL (F (ds.map some ++ List.replicate (nl - np) none)) else .no
end
section
variable {P : Program} {w : World} {K : PySem.W.Frag} {ca : Str → Addr} {mg : Str → Option Value} {base : Heap} {x qual : Str} {params : Arguments} {body : List Stmt} {scope : Scope} {f : Addr} {fd : FuncData} {N ps : List Str} {k : Nat} {ms : List Mode}
theorem fn_lend {Fb : Ev → Ot} {Γ0 Γ1 : List Mode} (F : FunD K x qual params body scope [] [] f fd) (S : FnScope N ps scope) (hg : (Mode.I ms :: Γ0).length = N.length) (hp : ∀ i, i + 1 < ps.length → Γ0[i]? = some .F) (h1 : Γ1[0]? = some (.I ms))
    (hb : ∀ (cdv : Value) (A : Around) (outer : List Env) (s : Shared) (H : Hp) (E : XK) (xv : V), Room k (A.deeper (envOfC qual scope s.heap.objs.size f cdv)) →
      ∃ t, PSs (cxOf (L2.CX P w) P w K mg base N qual scope f cdv A outer s H E) body t ∧ SemS ⟨K, ca, fun _ _ _ _ => False, none, [], .F, [(0, xv)]⟩ (.I ms :: Γ0) Γ1 Fb t) :
    FnOk P w K mg base (L2.CX P w) (k + 1) f fd ps (spL K ca ps.length ms (lendF ps.length N.length Fb)) := by
  refine F.ok S (fun vs H Q E h => h.1) fun cdv A outer s H vs Q E hr h => ?_
  obtain ⟨hl, G, a, d0, ds, us, Pa, rfl, sg, ow, pr, r, d', p, fin⟩ := h
  obtain ⟨t, ht, hs⟩ := hb cdv A outer s H E (.ref a) hr
  refine ⟨t, ht, ?_⟩
  have hpl : ps.length ≤ N.length := by have := congrArg List.length S.pre; rw [List.length_take] at this; omega
  have hdl : (d0 :: ds).length = ps.length := by rw [List.length_cons, r.length]; exact hl
  have hdl1 : ds.length + 1 = ps.length := hdl
  have lgt : ((d0 :: ds).map some ++ List.replicate (N.length - ps.length) none : Ev).length = N.length := by
    rw [List.length_append, List.length_map, List.length_replicate]; omega
  have soff : Same (offP H Pa) H := fun b u e => by
    have e : (if Pa b then none else H b) = some u := e
    by_cases z : Pa b
    · rw [if_pos z] at e; cases e
    · rw [if_neg z] at e; exact e
  refine hs (G0 := G) (H0 := offP H Pa) (G := G) (H := H) (ρ := (d0 :: ds).map some ++ List.replicate (N.length - ps.length) none) (σ := L2.start N (.ref a :: us)) (D := { nx := fun _ H' => Q .non H', rt := Q })
    ⟨⟨Same.refl _, soff, sg, fun _ _ => rfl⟩, by rw [lgt]; exact hg, ?_, ⟨fun i b => i = 0 ∧ Pa b, fun i j b q z1 z2 => q (z1.1.trans z2.1.symm), fun i b z => ⟨(pr b z.2).1, if_pos z.2, (pr b z.2).2⟩, fun i d q => ?_⟩, fun i v z => by cases (List.mem_singleton.mp z); rfl⟩ ?_
  · unfold L2.start
    rw [lgt, List.length_append, List.length_map, List.length_replicate]
    omega
  · cases i with
    | zero =>
      have e : d0 = d := by simpa using q
      subst e
      exact ⟨.ref a, .I ms, rfl, rfl, ow.weaken fun b hb => ⟨rfl, hb⟩⟩
    | succ i =>
      have q : (ds.map some ++ List.replicate (N.length - ps.length) none : Ev)[i]? = some (some d) := by simpa using q
      have hi : i < ds.length := by
        by_cases hi : i < ds.length
        · exact hi
        · rw [List.getElem?_append_right (by simpa using hi), List.getElem?_replicate] at q
          split at q <;> cases q
      rw [List.getElem?_append_left (by simpa using hi), List.getElem?_map] at q
      have e : ds[i]? = some d := by
        cases z : ds[i]? with
        | none => rw [z] at q; cases q
        | some e => rw [z] at q; cases q; rfl
      obtain ⟨v, hv, rv⟩ := r.get e
      have hlu : i < us.length := by rw [← r.length]; exact hi
      refine ⟨v, .F, ?_, hp i (by omega), .F rv⟩
      show (some (V.ref a) :: us.map some ++ List.replicate (N.length - (V.ref a :: us).length) none : L2.St)[i + 1]? = _
      rw [List.cons_append, List.getElem?_cons_succ, List.getElem?_append_left (by rw [List.length_map]; exact hlu), List.getElem?_map, hv]
      rfl
  · unfold lendF at p
    rw [if_pos hdl] at p
    cases q : Fb ((d0 :: ds).map some ++ List.replicate (N.length - ps.length) none) with
    | nx ρ' =>
      rw [q] at p
      unfold outL at p
      dsimp only at p
      refine .nx fun σ' G' H' _ w' => ?_
      cases z : ρ'[0]? with
      | none => simp only [z] at p; cases p
      | some o =>
      cases o with
      | none => simp only [z] at p; cases p
      | some d =>
        simp only [z] at p
        have e : d = d' := by cases p; rfl
        subst e
        obtain ⟨Pf, k1, k2, k3⟩ := w'.env
        obtain ⟨v, m, s1, s2, s3⟩ := k3 0 d z
        rw [w'.pn 0 (.ref a) List.mem_cons_self] at s1
        cases s1
        rw [h1] at s2
        cases s2
        exact fin G' H' (Pf 0) w'.x (fun b hb => k2 0 b hb) s3
    | rt d => rw [q] at p; cases p
    | bk _ => rw [q] at p; cases p
    | ct _ => rw [q] at p; cases p
    | ex c ρ' => rw [q] at p; cases p
    | no => rw [q] at p; cases p
end
section
variable {J : Jc} {Γ : List Mode} {ms mz : List Mode} {Fs : List (Ev → Rs Dt)} {tr : TA} {Fn : List Dt → Rs Dt} {np : Nat}
def lendS (C mm : Str) (i : Nat) (Fn : List Dt → Rs Dt) (Fs : List (Ev → Rs Dt)) (ρ : Ev) : Ot := bindS (varE i ρ) ρ fun d => bindS (noMeth C mm d) ρ fun _ => bindS (argsE Fs ρ) ρ fun ds => match Fn (d :: ds) with
  | .ok d' => .nx (ρ.set i (some d'))
  | _ => .no
theorem ss_lend {C mm : Str} {i : Nat} (hm : Γ[i]? = some (.I ms)) (h : SemZ J Γ mz Fs tr) (hx : Gx J Γ) (hF : allF mz = true := by rfl) (hl : Fs.length + 1 = np := by rfl) : SemS J Γ Γ (lendS C mm i Fn Fs) (tDrop (tMethS (J.ca C) mm (spL J.K J.ca np ms Fn) (WE J.W) (tVar i) tr)) := fun {G0 H0 G H ρ σ D} w p => by
  unfold lendS at p
  obtain ⟨d, hv, q⟩ := p.bindx (fun _ => nx_varE)
  clear p
  obtain ⟨d1, hn, q⟩ := q.bindx (fun _ => nx_noMeth)
  have hq := varE_ok hv
  obtain ⟨v, m', P', s1, s2, s3, _⟩ := w.get hq
  obtain ⟨a, dx, fs, rfl, b1, b2⟩ := noMeth_run (s3.view w.gh) hn
  refine ⟨_, s1, a, dx, fs, rfl, b1, b2, ?_⟩
  refine h w ((PostS.bind w hx q).imp (fun ds hd q us G2 H2 P2 e2 f2 o2 => ?_) fun _ q => q)
  have r := o2.allF hF
  have w2 := w.ext e2
  obtain ⟨Pf, h1, h2, h3⟩ := w2.env
  obtain ⟨v, m1, t1, t2, t3⟩ := h3 i d hq
  rw [s1] at t1
  cases t1
  rw [hm] at t2
  cases t2
  refine ⟨by rw [List.length_cons, ← r.length, argsE_len hd]; exact hl, G2, a, d, ds, us, Pf i, rfl, e2.gh, t3, fun b hb => ⟨(h2 i b hb).1, (h2 i b hb).2.2⟩, r, ?_⟩
  cases z : Fn (d :: ds) with
  | ex c => rw [z] at q; cases q
  | no => rw [z] at q; cases q
  | ok d' =>
    rw [z] at q
    refine ⟨d', rfl, fun G3 H3 P3 e3 f3 o3 => ?_⟩
    have soff : ∀ b, ¬ Pf i b → offP H2 (Pf i) b = H2 b := fun b nb => if_neg nb
    have off0 : ∀ b u, H0 b = some u → offP H2 (Pf i) b = some u := fun b u e => by
      have nb : ¬ Pf i b := fun z => by rw [(h2 i b z).2.1] at e; cases e
      rw [soff b nb]
      exact w2.x.h b u e
    have off0' : ∀ b, offP H2 (Pf i) b = none → H0 b = none := fun b e => by
      cases y : H0 b with
      | none => rfl
      | some u => rw [off0 b u y] at e; cases e
    refine PostS.of_nx q σ G3 H3 (e2.g.trans e3.g) (w2.put h1 h2 h3 hq hm s1 o3 ⟨w2.x.g.trans e3.g, fun b u e => e3.h b u (off0 b u e), e3.gh, fun b hb => ?_⟩ e3.g (fun b hb => ?_) fun b hb nb => ?_)
    · have : offP H2 (Pf i) b ≠ none := fun y => hb (off0' b y)
      rw [e3.base b this]
      exact w2.x.base b hb
    · obtain ⟨y1, y2, y3⟩ := f3 b hb
      refine ⟨?_, y1, off0' b y2, y3⟩
      by_cases y : Pf i b
      · exact .inl y
      · rw [soff b y] at y2
        exact .inr y2
    · have : offP H2 (Pf i) b ≠ none := by rw [soff b nb]; exact hb
      exact ⟨by rw [e3.h.at this, soff b nb], e3.base b this⟩
/-- a field of an owned object handed back -/
def retFld (C f : Str) (i j : Nat) (ρ : Ev) : Ot := bindS (fldIE C f j i ρ) ρ fun d => .rt d
theorem ss_retFld {C f : Str} {i j : Nat} {Γ' : List Mode} {m : Mode} (cl : Cls J.K (J.ca C)) (na : NoAttr J.K (J.ca C) f) (hm : Γ[i]? = some (.I ms)) (hj : ms[j]? = some m) (hr : J.mr = m ∨ J.mr = .F) : SemS J Γ Γ' (retFld C f i j) (tRet (tFld J.K (tVar i) f)) := fun {G0 H0 G H ρ σ D} w p => by
  unfold retFld at p
  obtain ⟨e, hz, p2⟩ := p.bindx (fun c => nx_fldI c)
  clear p
  obtain ⟨d, q1, q2⟩ := bind_ok hz
  have hq := varE_ok q1
  obtain ⟨Pf, h1, h2, h3⟩ := w.env
  obtain ⟨v, m', s1, s2, s3⟩ := h3 i d hq
  rw [hm] at s2
  cases s2
  cases s3 with
  | @I _ C' a dx ns us ds _ k1 k2 k3 k4 k5 =>
    replace q2 : (if C' = C then (if fix f ns = some j then (match ds[j]? with | some e => Rs.ok e | none => .no) else .no) else .no) = .ok e := q2
    by_cases hC : C' = C
    case neg => rw [if_neg hC] at q2; cases q2
    rw [if_pos hC] at q2
    subst hC
    by_cases hf : fix f ns = some j
    case neg => rw [if_neg hf] at q2; cases q2
    rw [if_pos hf] at q2
    cases z2 : ds[j]? with
    | none => simp only [z2] at q2; cases q2
    | some e' =>
      simp only [z2] at q2
      cases q2
      obtain ⟨u, Pk, hu, ou, ok, _⟩ := k5.focus hj z2
      refine ⟨_, s1, a, J.ca C', dx, _, u, rfl, k1, cl, na, fix_lookup hf hu, ?_⟩
      have fr : Fr G H0 H Pk := fun b hb => h2 i b (ok b hb).1
      rcases hr with hr | hr
      · exact p2.of_rt u G H Pk w.x fr (by rw [hr]; exact ou)
      · obtain ⟨G2, e2, r2, _⟩ := frz_ext w.x fr ou
        exact p2.of_rt u G2 H Pno e2 Fr.no (by rw [hr]; exact .F r2)
end
theorem v_lend {np nl : Nat} {F : Ev → Ot} {ds : List Dt} (h : ds.length = np) : lendF np nl F ds = outL (F (ds.map some ++ List.replicate (nl - np) none)) := if_pos h
end Pm
namespace Pm
open PySem PySem.Spec PyProof.Rows L2
open Classical
/-! ### a < b of lists of ints -/
theorem firstLt_lex : ∀ (ns ms : List Int) (i : Nat) (e r : Nat → Bool), (∀ j, e (i + j) = decide (ns.getD j 0 = ms.getD j 0)) → (∀ j, r (i + j) = decide (ns.getD j 0 < ms.getD j 0)) → PySem.SeqAt.firstLt e r (decide (ns.length < ms.length)) (List.range' i (min ns.length ms.length)) = HT.lexLt ns ms
  | [], [], i, e, r, he, hr => rfl
  | [], y :: ys, i, e, r, he, hr => by
    rw [show min ([] : List Int).length (y :: ys).length = 0 by simp]
    show decide (([] : List Int).length < (y :: ys).length) = HT.lexLt [] (y :: ys)
    rw [HT.lexLt_nil_cons]
    simp
  | x :: xs, [], i, e, r, he, hr => by
    rw [show min (x :: xs).length ([] : List Int).length = 0 by simp]
    show decide ((x :: xs).length < ([] : List Int).length) = HT.lexLt (x :: xs) []
    rw [HT.lexLt_cons_nil]
    simp
  | x :: xs, y :: ys, i, e, r, he, hr => by
    have m : min (x :: xs).length (y :: ys).length = min xs.length ys.length + 1 := by simp only [List.length_cons]; omega
    have l : decide ((x :: xs).length < (y :: ys).length) = decide (xs.length < ys.length) := decide_eq_decide.mpr (by simp)
    have e0 : e i = decide (x = y) := he 0
    have r0 : r i = decide (x < y) := hr 0
    rw [m, l, List.range'_succ, HT.lexLt_cons]
    show (if e i = true then _ else r i) = _
    rw [e0, r0]
    by_cases q : x = y
    · rw [if_pos (decide_eq_true q), if_pos q]
      exact firstLt_lex xs ys (i + 1) e r (fun j => by have := he (j + 1); rw [← Nat.add_assoc, Nat.add_right_comm] at this; exact this) fun j => by have := hr (j + 1); rw [← Nat.add_assoc, Nat.add_right_comm] at this; exact this
    · rw [if_neg (by simpa using q), if_neg q]
def rLtL (K : PySem.W.Frag) : R2 := fun x y H Q => ∃ (a b : Addr) (ns ms : List Int), x = .ref a ∧ y = .ref b ∧ SqL K H a (ns.map V.int) ∧ SqL K H b (ms.map V.int) ∧ Q (.bl (HT.lexLt ns ms)) H
theorem op_ltL {X : Cx} (hu : X.A.units < cLine) : OpR X (compareOp .Lt) (rLtL X.K) := by
  intro pins s σ H x y v u Q I rx ry h
  obtain ⟨a, b, ns, ms, rfl, rfl, ha, hb, q⟩ := h
  cases rx
  cases ry
  obtain ⟨its, r1, p1, _⟩ := I.list ha
  obtain ⟨its2, r2, p2, _⟩ := I.list hb
  have i1 : IntsAre its ns := Vals.ints r1
  have i2 : IntsAre its2 ms := Vals.ints r2
  have e1 : its.toArray.size = ns.length := by rw [List.size_toArray]; exact i1.length
  have e2 : its2.toArray.size = ms.length := by rw [List.size_toArray]; exact i2.length
  have at1 : ∀ j (h1 : j < its.toArray.size), ∃ t, its.toArray[j] = .int (ns.getD j 0) t := fun j h1 => PyProof.Rows.IntsAre.int_at i1 _ _ (by simp at h1; simp [h1])
  have at2 : ∀ j (h1 : j < its2.toArray.size), ∃ t, its2.toArray[j] = .int (ms.getD j 0) t := fun j h1 => PyProof.Rows.IntsAre.int_at i2 _ _ (by simp at h1; simp [h1])
  have R := PySem.SeqAt.RcLt.lists (A := X.A) (s := s) (e := fun j => decide (ns.getD j 0 = ms.getD j 0)) (r := fun j => decide (ns.getD j 0 < ms.getD j 0)) p1.isList p2.isList hu (fun j h1 h2 => by
    obtain ⟨t, et⟩ := at1 j h1
    obtain ⟨t', et'⟩ := at2 j h2
    rw [et, et']
    have z : (ns.getD j 0 == ms.getD j 0) = decide (ns.getD j 0 = ms.getD j 0) := by
      by_cases q : ns.getD j 0 = ms.getD j 0
      · rw [decide_eq_true q]; exact beq_iff_eq.mpr q
      · rw [decide_eq_false q]; exact beq_eq_false_iff_ne.mpr q
    rw [← z]
    exact SeqAt.EqAt.int_int _ _ _ _) (fun j h1 h2 _ => by
    obtain ⟨t, et⟩ := at1 j h1
    obtain ⟨t', et'⟩ := at2 j h2
    rw [et, et']
    exact Ob.RcOp.lt_int _ _ _ _)
  rw [e1, e2, List.range_eq_range', firstLt_lex ns ms 0 _ _ (fun j => by rw [Nat.zero_add]) fun j => by rw [Nat.zero_add]] at R
  have z : wpAny (model X.prog X.w) X.A (compareOp .Lt (.ref a) (.ref b)) (EP X pins σ Q) X.xe s := R X.prog X.w X.xe (EP X pins σ Q) ⟨.bl _, H, I, rfl, q⟩
  exact z
def lstLtD (a b : Dt) : Rs Dt := match a, b with
  | .lst xs, .lst ys => (match intsOf xs, intsOf ys with
    | some ns, some ms => .ok (.bl (HT.lexLt ns ms))
    | _, _ => .no)
  | _, _ => .no
def ltLE := op2E lstLtD
theorem rule_ltL {K : PySem.W.Frag} {ca : Str → Addr} : Rule2 K ca lstLtD (rLtL K) := by
  intro H a b d x y Q ra rb q k
  cases ra with
  | @lst p vs xs h1 h2 =>
    cases rb with
    | @lst p2 us ys k1 k2 =>
      have q : (match intsOf xs, intsOf ys with
        | some ns, some ms => Rs.ok (Dt.bl (HT.lexLt ns ms))
        | _, _ => Rs.no) = .ok d := q
      cases z1 : intsOf xs with
      | none => rw [z1] at q; cases q
      | some ns =>
        cases z2 : intsOf ys with
        | none => rw [z1, z2] at q; cases q
        | some ms =>
          rw [z1, z2] at q
          cases q
          have e1 := intsOf_some z1
          have e2 := intsOf_some z2
          subst e1 e2
          refine ⟨p, p2, ns, ms, rfl, rfl, ?_, ?_, k _ rfl fun _ => .bl _⟩
          · rw [← rps_ints_eq h2]; exact .of h1
          · rw [← rps_ints_eq k2]; exact .of k1
    | _ => cases q
  | _ => cases rb <;> cases q
theorem nx_ltL : NoEx2 lstLtD := by
  intro a b c
  unfold lstLtD
  split
  · split <;> intro q <;> cases q
  · intro q; cases q
theorem se_ltL (ha : SemE J Γ .B Fa ta) (hb : SemE J Γ .B Fb tb) : SemE J Γ (.o .F) (ltLE Fa Fb) (tOp (rLtL J.K) ta tb) := se_op2 rule_ltL nx_ltL ha hb
theorem v_ltL : ltLE Fa Fb ρ = (Fa ρ >>= fun a => Fb ρ >>= fun b => lstLtD a b) := rfl
end Pm
theorem L2H.RoomH.units {k : Nat} {A : PySem.Around} (r : L2H.RoomH k A) : A.units + 64 < PySem.cLine := by have := r.un; omega
namespace Pm
open PySem PySem.Spec PyProof.Rows L2
open Classical
/-! ### a caught exception handed to a helper: the helper runs over the base with the exception in it -/
def baseX (base : Heap) (a : Addr) (oe : Obj) : Heap := { base with objs := Array.ofFn (n := max base.objs.size (a + 1)) fun i => if i.val = a then oe else (base.objs[i.val]?).getD { cls := .none, data := .freed } }
theorem baseX_at {base : Heap} {a : Addr} {oe : Obj} (hf : ∃ vs, oe.data = .fields vs) : (baseX base a oe).get? a = some oe := by
  obtain ⟨vs, hv⟩ := hf
  have e : (baseX base a oe).objs[a]? = some oe := by
    unfold baseX
    rw [Array.getElem?_ofFn]
    rw [dif_pos (by omega)]
    simp
  unfold Heap.get?
  rw [e]
  obtain ⟨c, d, dt, sl⟩ := oe
  dsimp only at hv
  subst hv
  rfl
theorem baseX_ne {base : Heap} {a b : Addr} {oe : Obj} (h : b ≠ a) : (baseX base a oe).get? b = base.get? b := by
  unfold Heap.get?
  have e : (baseX base a oe).objs[b]? = if b < max base.objs.size (a + 1) then some ((base.objs[b]?).getD { cls := .none, data := .freed }) else none := by
    unfold baseX
    rw [Array.getElem?_ofFn]
    by_cases q : b < max base.objs.size (a + 1)
    · rw [dif_pos q, if_pos q]
      simp [h]
    · rw [dif_neg q, if_neg q]
  rw [e]
  have big : b < base.objs.size → b < max base.objs.size (a + 1) := fun q => Nat.lt_of_lt_of_le q (Nat.le_max_left _ _)
  by_cases q : b < base.objs.size
  · rw [if_pos (big q), Array.getElem?_eq_getElem q]
    rfl
  · have n : base.objs[b]? = none := Array.getElem?_eq_none (Nat.le_of_not_lt q)
    rw [n]
    by_cases z : b < max base.objs.size (a + 1)
    · rw [if_pos z]; rfl
    · rw [if_neg z]
theorem frames_with {h base base' : Heap} : ∀ {l : List Env}, h.FunFrames base l → (∀ L ∈ frs l, base.get? L = none → base'.get? L = none) → h.FunFrames base' l
  | [], _, _ => trivial
  | env :: rest, hl, hb => by
    obtain ⟨hk, ⟨L, o, hf, hn, ho, hd⟩, hr⟩ := hl
    have m1 : L ∈ frs (env :: rest) := by
      unfold frs
      rw [List.filterMap_cons, hf]
      exact List.mem_cons_self
    refine ⟨hk, ⟨L, o, hf, hb L m1 hn, ho, hd⟩, frames_with hr fun M hM => hb M ?_⟩
    unfold frs at hM ⊢
    rw [List.filterMap_cons, hf]
    exact List.mem_cons_of_mem _ hM
section
variable {X : Cx} {pins : List (Addr × Obj)} {σ : L2.St} {H : Hp} {s : Shared}
theorem inv_env0x {X : Cx} {pins : List (Addr × Obj)} {σ : L2.St} {H : Hp} {s : Shared} (I : Inv X pins σ H s) {a : Addr} {oe : Obj} (hp : (a, oe) ∈ X.pn ++ pins) (hf : ∃ vs, oe.data = .fields vs) : Env0 X.prog X.w X.K X.mg (baseX X.base a oe) X.A X.stack s H := by
  obtain ⟨g, na, nL, nF, _⟩ := I.pin _ hp
  dsimp only at g na nL nF
  have sub : ∀ b o, X.base.get? b = some o → (baseX X.base a oe).get? b = some o := fun b o e => by
    by_cases q : b = a
    · subst q
      have := (I.bs b o e).1
      rw [g] at this
      rw [baseX_at hf, this]
    · rw [baseX_ne q]; exact e
  have E0 := I.env0
  refine ⟨E0.frames, ⟨E0.mod.kin.keeps sub, E0.mod.glob.keeps sub, ?_, E0.mod.nolimit.keeps sub⟩, fun b o e => ?_, ?_, frames_with E0.funs fun L hL hn => ?_, E0.frf, E0.hok, E0.bare⟩
  · obtain ⟨mb, h1, h2⟩ := E0.mod.blt
    exact ⟨mb, h1.keeps sub, h2⟩
  · by_cases q : b = a
    · subst q
      rw [baseX_at hf] at e
      cases e
      exact ⟨g, na⟩
    · rw [baseX_ne q] at e
      exact E0.bs b o e
  · show (Array.ofFn _).size ≤ _
    rw [Array.size_ofFn]
    have := Heap.lt_size g
    exact Nat.max_le.mpr ⟨E0.bsz, this⟩
  · by_cases q : L = a
    · subst q
      exfalso
      rcases I.ok.stk with e | ⟨e, e2⟩
      · rw [e] at hL; exact nF hL
      · rw [e] at hL
        unfold frs at hL
        rw [List.filterMap_cons, e2] at hL
        rcases List.mem_cons.mp hL with z | z
        · exact nL z
        · exact nF z
    · rw [baseX_ne q]; exact hn
end
section
variable {X : Cx} {a D : Addr} {oe : Obj}
theorem inst_of {s : Shared} (h : s.heap.get? a = some oe) (hz : Zc (.ref D) none oe) (hf : ∃ vs, oe.data = .fields vs) : PySem.W.InstAt s.heap a oe D none := by
  obtain ⟨vs, hv⟩ := hf
  obtain ⟨oc, od, oda, osl⟩ := oe
  obtain ⟨h1, h2⟩ := hz
  dsimp only at h1 h2 hv
  subst h1 h2 hv
  exact ⟨h, rfl, rfl, trivial⟩
theorem call_isEb (hb : X.base.get? a = some oe) (C : ExcC X.K D) (hz : Zc (.ref D) none oe) (hf : ∃ vs, oe.data = .fields vs) : CallR X (.builtin "isinstance") (rIsE X.K D a) := by
  intro pins s σ H xs us Q I r h
  obtain ⟨c, cv, b, rfl, hcv, e, q⟩ := h
  cases r with
  | cons rx rr =>
    cases rr with
    | cons rt rr =>
      cases rr
      cases rx
      have ec := hcv _ rt
      subst ec
      have J := inst_of (I.bk _ _ hb) hz hf
      exact PySem.W.kia_one (PySem.W.handS_kitx_exc C.hg C.hk C.hs C.hd C.ha C.hn C.ht C.hm) I.kIn J e (fun z => nomatch z) fun tk => ⟨.bl b, H, I.kept (t' := tk) fun _ _ z => z, rfl, q⟩
theorem call_isETb (hb : X.base.get? a = some oe) (C : ExcC X.K D) (hz : Zc (.ref D) none oe) (hf : ∃ vs, oe.data = .fields vs) : CallR X (.builtin "isinstance") (rIsET X.K D a) := by
  intro pins s σ H xs us Q I r h
  obtain ⟨tp, cs, ws, b, rfl, hT, k, e, q⟩ := h
  cases r with
  | cons rx rr =>
    cases rr with
    | cons rt rr =>
      cases rr
      cases rx
      rename_i u2
      cases (show u2 = Value.ref tp from rt)
      have J := inst_of (I.bk _ _ hb) hz hf
      obtain ⟨_, its, rv, o, h1, h2, n, h3⟩ := (show ObjOk X.prog X.w H s.heap tp (.tup cs) from I.hok tp _ hT)
      have e3 := ClsV.all k rv
      subst e3
      obtain ⟨oc, od, dt, sl⟩ := o
      simp only at h2 h3
      subst h2 h3
      exact PySem.W.kia_tup (PySem.W.handS_kitx_exc C.hg C.hk C.hs C.hd C.ha C.hn C.ht C.hm) I.kIn J h1 e (fun z => nomatch z) fun tk => ⟨.bl b, H, I.kept (t' := tk) fun _ _ z => z, rfl, q⟩
end
/-- what a helper promises that is handed the exception at a -/
def spX (K : PySem.W.Frag) (ca : Str → Addr) (a : Addr) (m : Mode) (r : Rs Dt) : Sp := fun vs H Q _ => vs = [.ref a] ∧ ∃ G, Same G H ∧
  Rs.Post (fun d => ∀ v G' H' P, Ext G H G' H' → Fr G' H H' P → Ow K ca G' H' m d v P → Q v H') (fun _ => False) r
/-- what a def promises that is called within an except suite and raises nothing -/
structure FnX (P : Program) (w : World) (K : PySem.W.Frag) (mg : Str → Option Value) (base : Heap) (CX : CXT) (k : Nat) (f : Addr) (fd : FuncData) (ps : List Str) (sp : Sp) : Prop where
  len : ∀ vs H Q E, sp vs H Q E → vs.length = ps.length
  run : ∀ (A : Around) (outer : List Env) (s : Shared) (H : Hp) (args : Args) (us : List Value) (vs : List V) (Q : VK) (E : XK) (p : Addr × Obj), L2H.RoomH k A → L2H.PinOk outer H s p → Env0 P w K mg base A outer s H → BindsTo s fd args (ps.zip us) → Vals vs us → sp vs H Q E →
    codeAny (model P w) A (.call (.ref f) args) (CR CX outer P w H s Q E) s
theorem fn_ofX {CX : CXT} {P : Program} {w : World} {K : PySem.W.Frag} {mg : Str → Option Value} {base : Heap} {k : Nat} {f : Addr} {name qual : Str} {params : Arguments} {body : List Stmt} {scope : Scope} {dV kV doc pm cdv ct oc : Value} {an od : Option Addr}
    {osl : Array (Option Value)} {N ps : List Str} {sp : Sp} (lk : K.lookup f = some ⟨oc, od, .func (PySem.W.fnOf name qual params body scope dV kV doc pm an cdv ct), osl⟩) (hcd : PySem.W.codeIn K cdv qual = true) (S : FnScope N ps scope)
    (len : ∀ vs H Q E, sp vs H Q E → vs.length = ps.length)
    (hbody : ∀ (A : Around) (outer : List Env) (s : Shared) (H : Hp) (vs : List V) (Q : VK) (E : XK) (p : Addr × Obj), L2H.RoomH k (A.deeper (envOfC qual scope s.heap.objs.size f cdv)) → sp vs H Q E →
      ∃ t, PSs (L2H.cxH CX P w K mg base N qual scope f cdv A outer s H E p) body t ∧ t { nx := fun _ H' => Q .non H', rt := Q } (L2.start N vs) H) :
    FnX P w K mg base CX (k + 1) f (PySem.W.fnOf name qual params body scope dV kV doc pm an cdv ct) ps sp := by
  refine ⟨len, fun A outer s H args us vs Q E p hr hpin e0 hb r hsp => ?_⟩
  have hl := len _ _ _ _ hsp
  have KX : K.In s.heap := e0.mod.kin.keeps fun b o e => (e0.bs b o e).1
  have lim : s.heap.NoLimit := e0.mod.nolimit.keeps fun b o e => (e0.bs b o e).1
  have hkind : ∀ y ∈ ps.zip us, scope.names.lookup y.1 = some .local ∨ (scope.names.lookup y.1 = some .cell ∧ ((cellsFrom (s.heap.objs.size + 1) scope.names []).lookup y.1).isSome = true) := fun ⟨n, v⟩ hy => by
    rcases S.par n (List.of_mem_zip hy).1 with q | q
    · exact .inl q
    · exact .inr ⟨q, PySem.W.cellsFrom_some _ _ _ (.inl q)⟩
  refine codeAny_call_function hr.depth (KX _ _ lk) rfl S.co S.gen rfl (PySem.W.codeRec_of KX hcd) (hb _ _ _ _ ?_)
  refine wpAny_newFunctionEnv_cells S.kind hkind fun env he s1 x => ?_
  subst he
  refine ⟨lim.keeps x.toInCall.keep, codeAny_func ?_⟩
  obtain ⟨t, ht, hq⟩ := hbody A outer s H vs Q E p (hr.deeper _) hsp
  have I : Inv (L2H.cxH CX P w K mg base N qual scope f cdv A outer s H E p) [] (L2.start N vs) H s1 := L2H.inv_startH S hpin e0 hl r x
  refine wpAny_mono (ht.run [] s1 (L2.start N vs) H _ I hq) (fun fl s' hs => ?_) fun e s' hs => hs
  have fin : ∀ {σ' : L2.St} {H' : Hp} {v : V} {u : Value}, Inv (L2H.cxH CX P w K mg base N qual scope f cdv A outer s H E p) [] σ' H' s' → RelV v u → Q v H' → CE outer P w H s Q u s' :=
    fun {σ' H' v u} J rv q => ⟨v, H', J.os, J.bare, J.base, J.hok, rv, q⟩
  cases fl with
  | ret u =>
    obtain ⟨v, σ', H', J, rv, q⟩ := hs
    exact fin J rv q
  | next =>
    obtain ⟨σ', H', J, q⟩ := hs
    exact fin (v := V.non) (u := Value.none) J rfl q
  | brk =>
    obtain ⟨_, _, _, q⟩ := hs
    exact False.elim q
  | cont =>
    obtain ⟨_, _, _, q⟩ := hs
    exact False.elim q
section
variable {P : Program} {w : World} {K : PySem.W.Frag} {ca : Str → Addr} {mg : Str → Option Value} {base : Heap} {x qual : Str} {params : Arguments} {body : List Stmt} {scope : Scope} {f : Addr} {fd : FuncData} {N : List Str} {p0 : Str} {k : Nat} {m : Mode} {a : Addr}
theorem okH {Ps : List Str} {sp : Sp} (F : FunD K x qual params body scope [] [] f fd) (S : FnScope N Ps scope) (len : ∀ vs H Q E, sp vs H Q E → vs.length = Ps.length)
    (hbody : ∀ (cdv : Value) (A : Around) (outer : List Env) (s : Shared) (H : Hp) (vs : List V) (Q : VK) (E : XK) (p : Addr × Obj), L2H.RoomH k (A.deeper (envOfC qual scope s.heap.objs.size f cdv)) → sp vs H Q E →
      ∃ t, PSs (L2H.cxH (L2.CX P w) P w K mg base N qual scope f cdv A outer s H E p) body t ∧ t { nx := fun _ H' => Q .non H', rt := Q } (L2.start N vs) H) : FnX P w K mg base (L2.CX P w) (k + 1) f fd Ps sp := by
  obtain ⟨oc, od, dV, kV, doc, pm, an, cdv, ct, osl, rfl, lk, hcd, _, _⟩ := F.ex
  exact fn_ofX lk hcd S len fun A outer s H vs Q E p h2 h3 => hbody cdv A outer s H vs Q E p h2 h3
theorem fn_exc {Fb : Ev → Ot} {Γ0 Γ1 : List Mode} (F : FunD K x qual params body scope [] [] f fd) (S : FnScope N [p0] scope) (hg : Γ0.length = N.length)
    (hb : ∀ (cdv : Value) (A : Around) (outer : List Env) (s : Shared) (H : Hp) (E : XK) (p : Addr × Obj), L2H.RoomH k (A.deeper (envOfC qual scope s.heap.objs.size f cdv)) →
      ∃ t, PSs (L2H.cxH (L2.CX P w) P w K mg base N qual scope f cdv A outer s H E p) body t ∧ SemS ⟨K, ca, fun _ _ _ _ => False, none, [], m, [(0, .ref a)]⟩ Γ0 Γ1 Fb t) :
    FnX P w K mg base (L2.CX P w) (k + 1) f fd [p0] (spX K ca a m (outF m (Fb (List.replicate N.length none)))) := by
  refine okH F S (fun vs H Q E h => by rw [h.1]; rfl) fun cdv A outer s H vs Q E p1 hr h => ?_
  obtain ⟨rfl, G, sg, p⟩ := h
  obtain ⟨t, ht, hs⟩ := hb cdv A outer s H E p1 hr
  refine ⟨t, ht, ?_⟩
  have hpl : 1 ≤ N.length := by have := congrArg List.length S.pre; rw [List.length_take] at this; simp at this; omega
  refine hs (G0 := G) (H0 := H) (G := G) (H := H) (ρ := List.replicate N.length none) (σ := L2.start N [.ref a]) (D := { nx := fun _ H' => Q .non H', rt := Q }) ⟨Ext.refl sg, by rw [List.length_replicate]; exact hg, ?_, ⟨fun _ => Pno, fun _ _ _ _ z => z.elim, fun _ _ z => z.elim, fun i d q => ?_⟩, fun k v hv => ?_⟩ ?_
  · unfold L2.start
    rw [List.length_replicate, List.length_append, List.length_map, List.length_replicate]
    simp
    omega
  · rw [List.getElem?_replicate] at q
    split at q <;> cases q
  · have e : (k, v) = (0, V.ref a) := List.mem_singleton.mp hv
    cases e
    rfl
  · cases q : Fb (List.replicate N.length none) with
    | nx ρ' =>
      rw [q] at p
      refine .nx fun σ' G' H' _ w' => ?_
      replace p : Rs.Post _ _ (if isF m = true then Rs.ok Dt.non else Rs.no) := p
      by_cases c : isF m = true
      · rw [if_pos c] at p
        have hm : m = .F := by cases m <;> first | rfl | cases c
        subst hm
        exact p.of_ok .non G' H' Pno w'.x Fr.no (.F .non)
      · rw [if_neg c] at p; cases p
    | rt d =>
      rw [q] at p
      exact .rt p.of_ok
    | bk _ => rw [q] at p; cases p
    | ct _ => rw [q] at p; cases p
    | ex c ρ' =>
      rw [q] at p
      exact .ex fun dx σ' H' s x _ => p.of_ex
    | no => rw [q] at p; cases p
end
section
variable {X : Cx} {CX : CXT} {k : Nat} {f : Addr} {fd : FuncData} {ps : List Str} {sp : Sp} {E : L2.St → XK} {x : Str} {p pos : Pos} {e : Expr} {es : List Expr} {t : TA} {a : Addr} {oe : Obj}
theorem pe_callX (F : ∀ base', base'.get? a = some oe → FnX X.prog X.w X.K X.mg base' CX k f fd ps sp) (hpn : (a, oe) ∈ X.pn) (hf : ∃ vs, oe.data = .fields vs) (hr : L2H.RoomH k X.A) (hg : Gl X x) (hm : X.mg x = some (.ref f)) (hk : PySem.W.keepIn X.K (.ref f) = true) (hb : Binds X.K fd ps []) (hx : ∀ σ, PassesAt CX X σ (E σ))
    (ha : PA X (e :: es) t) (hdb : (x == ("__debug__" : Str)) = false := by decide) (he : starEach (e :: es) X.env = (false, eval e X.env) :: starEach es X.env := by rfl) (hpl : (backTo pos (starEach es X.env)).any (·.1) = false := by rfl) :
    PE X (.Call (.Name x p) (e :: es) [] pos) (tCallS sp E t) := by
  refine ⟨fun pins s σ H Q I h => ?_⟩
  refine wpAny_Call_Name_kw (ld_glob I hg hm ?_ hdb)
  refine PySem.W.callWith_K (h₀ := X.base) I.ok.mod.kin hk (thn (ha.run pos pins s σ H _ I h) fun us s1 ⟨vs, H1, I1, r, q⟩ => ⟨I1.kIn, ?_⟩) he hpl
  have F1 := F _ (baseX_at (base := X.base) hf)
  have hl : us.length = ps.length := by rw [← r.length]; exact F1.len _ _ _ _ q
  have b := hb s1 us I1.kIn (by rw [List.append_nil]; exact hl)
  rw [List.append_nil] at b
  have P1 := I1.pin _ (List.mem_append_left pins hpn)
  have hpin : L2H.PinOk X.stack H1 s1 (a, oe) := ⟨P1.1, P1.2.1, fun hm => (List.mem_cons.mp (I1.stkSub a hm)).elim P1.2.2.1 P1.2.2.2.1, P1.2.2.2.2⟩
  refine wpAny_call (codeAny_mono (F1.run X.A X.stack s1 H1 ⟨us, []⟩ us vs Q (E σ) (a, oe) hr hpin (inv_env0x I1 (List.mem_append_left _ hpn) hf) b r q) fun r s' hq => ?_)
  cases r with
  | error e => exact hx σ pins H1 s1 e s' I1 hq
  | ok fl =>
    cases fl with
    | ret u => exact I1.after hq
    | next => exact False.elim hq
    | brk => exact False.elim hq
    | cont => exact False.elim hq
end
theorem roomH_mark {A : Around} {v : Option Value} {j k : Nat} (r : Room k A) (h : j ≤ k) : L2H.RoomH j (A.mark v) := ⟨(r.mono h).dp, (r.mono h).un⟩
/-- the call of such a helper -/
def callX (r : Rs Dt) (_ : Ev) : Rs Dt := noEx r
theorem se_callX {J : Jc} {Γ : List Mode} {i : Nat} {a : Addr} {r : Rs Dt} (hp : (i, V.ref a) ∈ J.pin) : SemE J Γ (.o .F) (callX r) (tCallS (spX J.K J.ca a .F r) (WE J.W) (tCons (tVar i) tNil)) := fun {G0 H0 G H ρ σ Q} w p => by
  refine ⟨_, w.pn i _ hp, rfl, G, w.gh, ?_⟩
  unfold callX at p
  cases q : r with
  | ok d =>
    rw [q] at p
    exact .ok fun v G' H' P e f o => p.of_ok v G' H' P e (fun b hb => ⟨(f b hb).1, (f b hb).2.1, (f b hb).2.2⟩) o
  | ex c => rw [q] at p; cases p
  | no => rw [q] at p; cases p
theorem v_callX {r : Rs Dt} {ρ : Ev} : callX r ρ = noEx r := rfl
end Pm
namespace L2
open PySem PySem.Spec PyProof.Rows
open PySem.AutoSeq1 PySem.SeqAt HT Builtin.List
section
variable {prog : Program} {w : World} {A : Around} {E : Value → Shared → Prop} {s : Shared}
/-- as setItem_slice, the lower bound left out -/
theorem setItem_slice0 {l b sl : Addr} {items new : Array Value} {n n2 : Nat} {vl vu : Value} {c : Nat} {Q : Unit → Shared → Prop}
    (e : s.heap.get? l = some { cls := .type "list", data := .seq items n }) (e2 : s.heap.get? b = some { cls := .type "list", data := .seq new n2 }) (hne : l ≠ b)
    (hs : s.heap.IsSliceOf sl vl vu .none) (pl : IsPart vl none) (pu : IsPart vu (some (c : Int))) (hc : c ≤ items.size)
    (hsz : items.size + new.size ≤ sizeLine) (h : Q () { s with heap := s.heap.update l (Obj.mapSeq fun xs => xs.extract 0 0 ++ new ++ xs.extract c xs.size) }) :
    wpAny (model prog w) A (setItem (.ref l) (.ref sl) (.ref b)) Q E s := by
  have hl : s.heap.IsList l items := PySem.IsL.isList e
  have hb : s.heap.IsList b new := PySem.IsL.isList e2
  obtain ⟨os, hos, hcs, hds⟩ := id hs
  have hTs : s.TypeIs (.ref sl) "slice" := ⟨os, hos, hcs⟩
  have hstep : ¬ ((rawPart none == rawInt 0) = true) := Bool.false_ne_true
  have hsame : Builtin.List.listSameRef (.ref l) (.ref b) = false := by
    unfold Builtin.List.listSameRef
    exact beq_eq_false_iff_ne.mpr hne
  have hmax : (max (0 : Int) (c : Int)).toNat = c := by omega
  have hbd : sliceBounds none (some (c : Int)) none items.size = ((0 : Int), (c : Int), 1) := by
    simp only [sliceBounds, Option.getD_none]
    have h2 : ¬ ((c : Int) < 0) := by omega
    simp only [h2, if_false, show (1 : Int) > 0 by decide, if_true]
    congr 1
    congr 1
    omega
  have hz' : ((fun xs : Array Value => xs.extract 0 0 ++ new ++ xs.extract c xs.size) items).size ≤ sizeLine + 1 := by
    simp only [Array.size_append, Array.size_extract]
    omega
  unfold setItem
  try with_reducible refine wpAny_holding ?_
  first | refine wpAny_bind (wpAny_pure ?_) | skip
  refine wpAny_bind (wpAny_sequenceKey hl.typeIs (by decide) ?_)
  refine wpAny_bind (wpAny_callSpecial?_slot (name := Str.ofString "__setitem__") hl.typeIs slot_list_setitem
    (wpAny_call_entry slot_list_setitem hl.typeIs entry_list_setitem ?_ (args_list_setitem _ _ _)))
  show wpAny _ _ (Builtin.List.listSubscript? (.ref sl) >>= _) _ _ s
  refine wpAny_bind ?_
  unfold Builtin.List.listSubscript?
  refine wpAny_bind (wpAny_specialOf hTs slice_no_index ?_)
  simp only [Option.isNone_none, if_true]
  refine wpAny_pure ?_
  show wpAny _ _ (typeOf (.ref sl) >>= _) _ _ s
  refine wpAny_bind (wpAny_typeOf hTs ?_)
  first
    | rw [if_neg (by decide)]
    | refine PySem.W.KFB.if_not (by decide) ?_
  rw [listSliceParts_eq]
  refine wpAny_bind (wpAny_bind (wpAny_field hos hds (x := .none) rfl (wpAny_bind (wpAny_listPart .none ?_))))
  rw [if_neg hstep]
  refine wpAny_bind (wpAny_field hos hds (x := vl) rfl (wpAny_bind (wpAny_listPart pl ?_)))
  refine wpAny_bind (wpAny_field hos hds (x := vu) rfl (wpAny_bind (wpAny_listPart pu (wpAny_pure ?_))))
  first
    | simp only [hsame, Bool.false_eq_true, if_false]
    | refine PySem.W.KFB.if_not hsame ?_
    | (dsimp only
       rw [if_neg (by rw [hsame]; exact Bool.false_ne_true)])
  refine wpAny_bind (m := Builtin.List.listAllItems (.ref b) "must assign iterable to extended slice") ?_
  unfold Builtin.List.listAllItems
  refine wpAny_bind (wpAny_typeOf hb.typeIs ?_)
  first
    | refine PySem.W.KFB.if_so (by decide) ?_
    | rw [if_pos (by decide)]
    | simp only [beq_self_eq_true, Bool.true_or, if_true]
  unfold Builtin.List.listItems
  refine wpAny_bind (wpAny_seqItems e2 rfl (wpAny_pure ?_))
  refine wpAny_bind (wpAny_bind (wpAny_seqItems e rfl (wpAny_pure ?_)))
  refine wpAny_bind (wpAny_of_eq ((sliceIndices_raw none (some (c : Int)) none items.size (by simp)).trans (congrArg (pure : Int × Int × Int → Sem (Int × Int × Int)) hbd)) ?_)
  show wpAny _ _ (if ((1 : Int) == 1) = true then _ else _) _ _ s
  rw [if_pos (by decide)]
  refine wpAny_bind (wpAny_rule ?_)
  first
    | simp only [notLongL hsz, Bool.false_eq_true, if_false]
    | refine PySem.W.KFB.if_not (notLongL hsz) ?_
  first | refine wpAny_bind (wpAny_pure ?_) | skip
  show wpAny _ _ (updateSeq l (fun xs => xs.extract 0 ((0 : Int)).toNat ++ new ++ xs.extract (max (0 : Int) (c : Int)).toNat xs.size) >>= _) _ _ s
  rw [hmax]
  refine wpAny_bind (wpAny_updateSeq (hz := Nat.le_trans (Nat.le_add_right _ _) hsz) (_hz' := hz') e rfl ?_)
  refine wpAny_bind (wpAny_letGo ?_)
  first
    | exact wpAny_bind (wpAny_pure (wpAny_pure ⟨.none, rfl, wpAny_pure h⟩))
    | exact wpAny_pure ⟨.none, rfl, wpAny_pure h⟩
end
end L2
namespace L2
open PySem PySem.Spec PyProof.Rows
open PySem.AutoSeq1 PySem.SeqAt HT Builtin.List
theorem set_slice0 {X : Cx} {pins : List (Addr × Obj)} {s : Shared} {σ : St} {H : Hp} {l b sl : Addr} {xs ys : List V} {c : Int} {vl vu : Value} {Q : Unit → Shared → Prop} (I : Inv X pins σ H s)
    (hH : H l = some (.lst xs)) (hB : H b = some (.lst ys)) (hne : l ≠ b) (hs : s.heap.IsSliceOf sl vl vu .none) (pl : IsPart vl none) (pu : IsPart vu (some c)) (h0 : 0 ≤ c) (hc : c ≤ xs.length)
    (hz : xs.length + ys.length ≤ sizeLine) (h : ∀ s', Inv X pins σ (upd H l (.lst (ys ++ xs.drop c.toNat))) s' → Q () s') :
    wpAny (model X.prog X.w) X.A (setItem (.ref l) (.ref sl) (.ref b)) Q X.xe s := by
  obtain ⟨z, its, n, r, hl, e⟩ := I.lstM hH
  obtain ⟨z2, its2, n2, r2, hl2, e2⟩ := I.lstM hB
  obtain ⟨c', rfl⟩ := Int.eq_ofNat_of_zero_le h0
  simp only [Int.toNat_natCast] at h
  refine setItem_slice0 (c := c') e e2 hne hs pl pu (by rw [List.size_toArray]; omega) (by rw [List.size_toArray, List.size_toArray]; omega) (h _ ?_)
  refine I.lset (its' := its2 ++ its.drop c') (t' := s.toks) hH e ?_ (Vals.append r2 (r.drop _)) ?_
  · have := splice_eq its its2 0 c'
    rw [List.take_zero, List.nil_append] at this
    exact this
  · rw [List.length_append, List.length_drop]
    omega
end L2
namespace Pm
open PySem PySem.Spec PyProof.Rows L2
open Classical
/-- xs[:c] = ys -/
def tSetSl (K : PySem.W.Frag) (tv to ti : TE) : TS := fun D σ H => tv σ H fun y H1 => to σ H1 fun x H2 => ti σ H2 fun i H3 => ∃ (l b : Addr) (xs ys : List V) (c : Int), x = .ref l ∧ y = .ref b ∧ i = .int c ∧ H3 l = some (.lst xs) ∧ H3 b = some (.lst ys) ∧ l ≠ b ∧ 0 ≤ c ∧ c ≤ xs.length ∧ xs.length + ys.length ≤ sizeLine ∧
  D.nx σ (upd H3 l (.lst (ys ++ xs.drop c.toNat)))
theorem ps_setSl {X : Cx} {o value hi : Expr} {pos pos' p2 : Pos} {tv to ti : TE} (hv : PE X value tv) (ho : PE X o to) (hi' : PE X hi ti) (hs : swapsWith value (some (.Subscript o (.Slice none (some hi) none p2) pos')) pos.line X.env = pure false := by rfl) :
    PS X (.Assign [.Subscript o (.Slice none (some hi) none p2) pos'] value pos) (tSetSl X.K tv to ti) := by
  refine ⟨fun pins s σ H D I h => ?_⟩
  refine wpAny_Assign_Subscript (thn (hv.run pins s σ H _ I h) fun r s1 ⟨y, H1, I1, ry, q1⟩ => thn (ho.run pins s1 σ H1 _ I1 q1) fun u_ s2 ⟨x, H2, I2, rx, q2⟩ => ?_) hs
  refine wpAny_Slice (thn ((po_none (X := X)).run pins s2 σ H2 (fun l H' => l = none ∧ H' = H2) I2 (show (fun l H' => l = none ∧ H' = H2) none H2 from ⟨rfl, rfl⟩)) fun vl s3 ⟨l, H3, I3, pl, q3⟩ => ?_)
  obtain ⟨rfl, rfl⟩ := q3
  rw [evalPart_some]
  refine thn (hi'.run pins s3 σ H3 _ I3 q2) fun vu s4 ⟨iv, H4, I4, riv, l, b, xs, ys, c, ex, ey, ei, h1, h2, hne, h0, hc, hz, fin⟩ => ?_
  subst ex ey ei
  obtain ⟨t, rfl⟩ := riv
  rw [evalPart_none]
  refine wpAny_pure ?_
  have I5 : L2.Inv X pins σ H4 { s4 with heap := s4.heap.push { cls := .type "slice", data := .fields #[vl, Value.int c t, .none] } } := I4.kept (t' := s4.toks) fun b ob q => Heap.get?_push_of_some _ q
  have eu : u_ = Value.ref l := rx
  subst eu
  have er : r = Value.ref b := ry
  subst er
  exact set_slice0 I5 h1 h2 hne (Heap.IsSliceOf.new ..) pl (.int _ _) h0 hc hz fun s' I6 => ⟨σ, _, I6, fin⟩
/-- the pure reading -/
def setSlO (x : Dt × (Dt → Ev)) (y k : Dt) : Option Ev := match x.1, y, k with
  | .lst ds, .lst es, .int c => if 0 ≤ c ∧ c ≤ ds.length ∧ lenSz (ds.length + es.length) = true then some (x.2 (.lst (es ++ ds.drop c.toNat))) else none
  | _, _, _ => none
def someO (rest : Ev → Ot) : Option Ev → Ot
  | some ρ => rest ρ
  | none => .no
def setSlS (Fe : Ev → Rs Dt) (Fp : Ev → Rs (Dt × (Dt → Ev))) (Fi : Ev → Rs Dt) (ρ : Ev) : Ot := bindS (Fe ρ) ρ fun y => bindS (Fp ρ) ρ fun x => bindS (Fi ρ) ρ fun k => someO Ot.nx (setSlO x y k)
section
variable {J : Jc} {Γ : List Mode} {Fe Fi : Ev → Rs Dt} {te ta ti : TE} {Fp : Ev → Rs (Dt × (Dt → Ev))}
theorem Rps.drop' {K : PySem.W.Frag} {ca : Str → Addr} {H : Hp} : ∀ {ds : List Dt} {us : List V} (n : Nat), Rps K ca H ds us → Rps K ca H (ds.drop n) (us.drop n)
  | _, _, 0, h => h
  | [], _, n + 1, h => by cases h; exact .nil
  | d :: ds, _, n + 1, h => by
    cases h with
    | cons h1 h2 => exact Rps.drop' n h2
theorem Rps.app' {K : PySem.W.Frag} {ca : Str → Addr} {H : Hp} : ∀ {ds es : List Dt} {us vs : List V}, Rps K ca H ds us → Rps K ca H es vs → Rps K ca H (ds ++ es) (us ++ vs)
  | [], _, _, _, h, k => by cases h; exact k
  | d :: ds, _, _, _, h, k => by
    cases h with
    | cons h1 h2 => exact .cons h1 (Rps.app' h2 k)
theorem ss_setSl (h : SemE J Γ (.o .F) Fe te) (k : SemP J Γ Fp (.L .F) ta) (l : SemE J Γ .B Fi ti) (hx : Gx J Γ) : SemS J Γ Γ (setSlS Fe Fp Fi) (tSetSl J.K te ta ti) := fun {G0 H0 G H ρ σ D} w p => by
  refine h w ((PostS.bind w hx p).imp (fun y _ q v G1 H1 _ e1 _ o1 => ?_) fun _ q => q)
  have w1 := w.ext e1
  refine k w1 ((PostS.bind w1 hx (PostS.up e1.g q)).imp (fun x _ q v2 G2 H2 e2 f2 => ?_) fun _ q => q)
  have w2 := w1.ext e2
  refine l w2 ((PostS.bind w2 hx (PostS.up e2.g q)).imp (fun i _ q v3 G3 H3 _ e3 _ o3 => ?_) fun _ q => q)
  obtain ⟨xd, xp⟩ := x
  cases o1 with
  | F o1 =>
  cases o3 with
  | int c =>
    cases o1 with
    | @lst b vsb es hb rb =>
      cases xd with
      | lst ds =>
        have q : PostS J G0 H0 G2 Γ D (someO Ot.nx (if 0 ≤ c ∧ c ≤ ds.length ∧ lenSz (ds.length + es.length) = true then some (xp (.lst (es ++ ds.drop c.toNat))) else none)) := q
        by_cases hq : 0 ≤ c ∧ c ≤ ds.length ∧ lenSz (ds.length + es.length) = true
        case neg => rw [if_neg hq] at q; cases q
        rw [if_pos hq] at q
        obtain ⟨a, us, Pin, rfl, hu, own, pr, fin⟩ := f2.chg w2 e3
        have gb : G3 b = some (.lst vsb) := e3.g _ _ (e2.g _ _ hb)
        have hul := own.len.1
        have hvl := rb.length
        refine ⟨a, b, us, vsb, c, rfl, rfl, rfl, hu, e3.gh _ _ gb, ?_, hq.1, by omega, by have := lenSz_le hq.2.2; have := sz1000000 this; omega, ?_⟩
        · intro z
          obtain ⟨P, o, r, k⟩ := f2.ex
          cases o with
          | L k1 k2 k3 k4 =>
            have := e2.g _ _ hb
            rw [← z, k2] at this
            cases this
        refine q.of_nx σ G3 _ e3.g (fin (es ++ ds.drop c.toNat) (vsb ++ us.drop c.toNat) Pno (Rps.own (Rps.app' (rb.mono (e2.g.trans e3.g)) (Rps.drop' _ own.frozen))) fun b z => z.elim)
      | _ => cases q
    | _ => cases xd <;> cases q
  | _ => cases xd <;> cases y <;> cases q
end
end Pm
namespace Pm
open PySem PySem.Spec PyProof.Rows L2
open Classical
/-! ### return [(c, D[c], e) for c in sorted(D)]: the parts of an owned dict of lists move out -/
section
variable {K : PySem.W.Frag} {ca : Str → Addr} {G H G' H' : Hp}
theorem Ows.parts : ∀ {ds : List Dt} {ms : List Mode} {us : List V} {P : Addr → Prop}, Ows K ca G H ms ds us P → ∃ Q : Nat → Addr → Prop, (∀ t d u m, ds[t]? = some d → us[t]? = some u → ms[t]? = some m → Ow K ca G H m d u (Q t)) ∧ (∀ t b, Q t b → P b) ∧ ∀ s t b, s ≠ t → Q s b → ¬ Q t b
  | [], ms, us, P, h => ⟨fun _ => Pno, fun t d u m e => by simp at e, fun _ _ z => z.elim, fun _ _ _ _ z => z.elim⟩
  | d :: ds, ms, us, P, h => by
    cases h with
    | @cons m ms _ _ v vs _ P1 P2 h1 h2 q1 q2 q3 =>
      obtain ⟨Q, a, b, c⟩ := Ows.parts h2
      refine ⟨fun t => match t with
        | 0 => P1
        | t + 1 => Q t, fun t d' u m' e1 e2 e3 => ?_, fun t x z => ?_, fun s t x n z => ?_⟩
      · cases t with
        | zero => cases e1; cases e2; cases e3; exact h1
        | succ t => exact a t d' u m' e1 e2 e3
      · cases t with
        | zero => exact q1 x z
        | succ t => exact q2 x (b t x z)
      · cases s with
        | zero =>
          cases t with
          | zero => exact absurd rfl n
          | succ t => exact fun y => q3 x z (b t x y)
        | succ s =>
          cases t with
          | zero => exact fun y => q3 x y (b s x z)
          | succ t => exact c s t x (fun e => n (by rw [e])) z
theorem lookK_ix {ks : List Key} : ∀ {ds : List Dt} {us : List V} {k : Key} {e : Dt}, lookK ks ds k = some e → ks.length = ds.length → ks.length = us.length → ∃ (t : Nat) (u : V), ks[t]? = some k ∧ ds[t]? = some e ∧ us[t]? = some u ∧ valV (ks.zip us) k = some u := by
  induction ks with
  | nil => intro ds us k e h; cases h
  | cons a ks ih =>
    intro ds us k e h l1 l2
    cases ds with
    | nil => cases l1
    | cons d ds =>
      cases us with
      | nil => cases l2
      | cons u us =>
        by_cases q : a = k
        · unfold lookK at h
          rw [List.zip_cons_cons, List.find?_cons_of_pos (by simpa using q)] at h
          cases h
          exact ⟨0, u, by rw [q]; rfl, rfl, rfl, by rw [List.zip_cons_cons]; exact valV_pos q⟩
        · have h2 : lookK ks ds k = some e := by
            unfold lookK at h ⊢
            rw [List.zip_cons_cons, List.find?_cons_of_neg (by simpa using q)] at h
            exact h
          obtain ⟨t, v, a1, a2, a3, a4⟩ := ih (us := us) h2 (by simpa using l1) (by simpa using l2)
          exact ⟨t + 1, v, a1, a2, a3, by rw [List.zip_cons_cons, valV_neg q]; exact a4⟩
/-- a new tuple of a key, the part there, and a third -/
def MvP (ks : List Key) (ds : List Dt) (us : List V) (y : Dt) (v : V) (H : Hp) : Prop := ∃ (q : Addr) (c : Int) (t : Nat) (u f : V) (es : List Dt) (fd : Dt), v = .ref q ∧ y = .tup [.int c, .lst es, fd] ∧ H q = some (.tup [.int c, u, f]) ∧ ks[t]? = some (Sum.inl c) ∧ us[t]? = some u ∧ ds[t]? = some (.lst es)
theorem MvP.mono {ks : List Key} {ds : List Dt} {us : List V} {y : Dt} {v : V} (h : MvP ks ds us y v H) (s : Same H H') : MvP ks ds us y v H' := by
  obtain ⟨q, c, t, u, f, es, fd, a1, a2, a3, a4⟩ := h
  exact ⟨q, c, t, u, f, es, fd, a1, a2, s _ _ a3, a4⟩
theorem MvP.upd {ks : List Key} {ds : List Dt} {us : List V} {y : Dt} {v : V} {D : Addr} {o : HO} {aV : List V} (h : MvP ks ds us y v H) (hD : H D = some (.lst aV)) : MvP ks ds us y v (L2.upd H D o) := by
  obtain ⟨q, c, t, u, f, es, fd, a1, a2, a3, a4⟩ := h
  refine ⟨q, c, t, u, f, es, fd, a1, a2, ?_, a4⟩
  have n : q ≠ D := fun z => by rw [z, hD] at a3; cases a3
  rw [upd_ne n]
  exact a3
end
def mvFe (j i : Nat) (Fe : Ev → Rs Dt) (ρ : Ev) : Rs Dt := match ρ[i]?, ρ[j]? with
  | some (some (.int c)), some (some (.dic ks ds)) => (match lookK ks ds (Sum.inl c) with
    | some (.lst es) => Fe ρ >>= fun f => .ok (.tup [.int c, .lst es, f])
    | _ => .no)
  | _, _ => .no
section
variable {J : Jc} {Γ Γ' : List Mode} {Fe : Ev → Rs Dt} {te : TE} {G0 H0 G H : Hp} {ρ : Ev} {σ : L2.St} {Q : VK}
theorem mv_elt {i j : Nat} {a : Addr} {ks : List Key} {ds : List Dt} {us : List V} (he : SemE J Γ (.o .F) Fe te) (w : Wd J G0 H0 Γ ρ σ G H) (hj : ρ[j]? = some (some (.dic ks ds))) (sj : σ[j]? = some (some (.ref a))) (ga : G a = some (.dK (ks.zip us))) (l1 : ks.length = ds.length) (l2 : ks.length = us.length) (rps : Rps J.K J.ca G ds us) (hW : ∀ cls d σ H, ¬ J.W cls d σ H)
    (p : ∀ y, mvFe j i Fe ρ = .ok y → ∀ v G' H' P, Ext G H G' H' → Fr G' H H' P → Ow J.K J.ca G' H' (.T [.F, .F, .F]) y v P → MvP ks ds us y v H' → Q v H') (hn : ∃ y, mvFe j i Fe ρ = .ok y) : tTup (tCons (tVar i) (tCons (tDGet (tVar j) (tVar i)) (tCons te tNil))) σ H Q := by
  obtain ⟨y, hy⟩ := hn
  have hp := p y hy
  obtain ⟨Pf, h1, h2, h3⟩ := w.env
  unfold mvFe at hy
  cases q1 : ρ[i]? with
  | none => rw [q1] at hy; cases hy
  | some o =>
  cases o with
  | none => rw [q1] at hy; cases hy
  | some d =>
  rw [q1, hj] at hy
  cases d with
  | int c =>
    cases q2 : lookK ks ds (Sum.inl c) with
    | none => dsimp only at hy; rw [q2] at hy; cases hy
    | some e =>
      dsimp only at hy
      rw [q2] at hy
      cases e with
      | lst es =>
        dsimp only at hy
        cases q3 : Fe ρ with
        | ok fd =>
          rw [q3] at hy
          have ey : y = .tup [.int c, .lst es, fd] := by cases hy; rfl
          subst ey
          obtain ⟨v, m, s1, s2, s3⟩ := h3 i _ q1
          have sv : v = .int c := by
            cases s3 with
            | F r => cases r; rfl
          subst sv
          obtain ⟨t, u, k1, k2, k3, k4⟩ := lookK_ix (us := us) q2 l1 l2
          refine ⟨.int c, s1, .ref a, sj, .int c, s1, a, u, rfl, ?_, ?_⟩
          · have := DGet.kR (H := H) (a := a) (kvs := ks.zip us) (k := Sum.inl c) (.inl (w.gh _ _ ga))
            rw [k4] at this
            exact this
          · refine he w ?_
            rw [q3]
            refine .ok fun f G1 H1 P1 e1 f1 o1 => ⟨show 3 ≤ sizeLine by decide, fun q hq => ?_⟩
            cases o1 with
            | F rf =>
              obtain ⟨u', ku, ru⟩ := rps.get k2
              have : u' = u := by rw [k3] at ku; cases ku; rfl
              subst this
              refine hp (.ref q) G1 _ (fun b => b = q) (e1.upd hq) (fun b hb => ?_) (.T upd_same (e1.gh.free hq) rfl ?_) ⟨q, c, t, u', f, es, fd, rfl, rfl, upd_same, k1, k3, k2⟩
              · rw [hb, upd_same]
                exact ⟨e1.gh.free hq, e1.h.free hq, fun w => by cases w⟩
              · exact .cons (P1 := Pno) (P2 := Pno) (.F (.int c)) (.cons (P1 := Pno) (P2 := Pno) (.F (ru.mono e1.g)) (.cons (P1 := Pno) (P2 := Pno) (.F rf) .nil (fun _ z => z.elim) (fun _ z => z.elim) fun _ z => z.elim) (fun _ z => z.elim) (fun _ z => z.elim) fun _ z => z.elim) (fun _ z => z.elim) (fun _ z => z.elim) fun _ z => z.elim
        | ex c => rw [q3] at hy; cases hy
        | no => rw [q3] at hy; cases hy
      | _ => cases hy
  | _ => cases hy
theorem wipe1 {σ σ2 : L2.St} {i j : Nat} (h : L2.wipe σ2 [i] = L2.wipe σ [i]) (n : j ≠ i) : σ2[j]? = σ[j]? := by
  have h : σ2.set i none = σ.set i none := h
  have a : (σ2.set i none)[j]? = (σ.set i none)[j]? := by rw [h]
  rw [List.getElem?_set_ne (Ne.symm n), List.getElem?_set_ne (Ne.symm n)] at a
  exact a
theorem mv_comp {it : It} {cs : List Dt} {g : TG} {G1 H1 : Hp} {i j : Nat} {a : Addr} {ks : List Key} {ds : List Dt} {us : List V} (hg : SemG J.nw Γ [i] (nameG i) g) (he : SemE J.nw Γ (.o .F) Fe te) (w : Wd J G0 H0 Γ ρ σ G H) (e1 : Ext G H G1 H1) (wk : WalkX J.K J.ca it G1 H1 cs) (n : j ≠ i)
    (hj : ρ[j]? = some (some (.dic ks ds))) (sj : σ[j]? = some (some (.ref a))) (ga : G a = some (.dK (ks.zip us))) (l1 : ks.length = ds.length) (l2 : ks.length = us.length) (rps : Rps J.K J.ca G ds us) {total : List Dt} (c : cs.length ≤ 1000000) (hn : compL (nameG i) yesT (mvFe j i Fe) (wipeE ρ [i]) cs = .ok total)
    (fin : ∀ (D : Addr) (G' H' : Hp) (aV : List V) (P : Addr → Prop), Ext G1 H1 G' H' → H' D = some (.lst aV) → G' D = none → H1 D = none → Ows J.K J.ca G' H' (List.replicate total.length (.T [.F, .F, .F])) total aV P → (∀ b, P b → G' b = none ∧ H1 b = none ∧ H' b ≠ none ∧ b ≠ D) → (∀ (k : Nat) (y : Dt) (v : V), total[k]? = some y → aV[k]? = some v → MvP ks ds us y v H') → Q (.ref D) H') : tLc (fun _ H R => R it H) g tYes (tTup (tCons (tVar i) (tCons (tDGet (tVar j) (tVar i)) (tCons te tNil)))) [i] σ H1 Q := by
  intro D hD
  let St : Nat → Hp → Prop := fun k Hi => ∃ (G2 : Hp) (aD : List Dt) (aV : List V) (P : Addr → Prop) (ys : List Dt), Ext G1 H1 G2 Hi ∧ Hi D = some (.lst aV) ∧ G2 D = none ∧ Ows J.K J.ca G2 Hi (List.replicate aD.length (.T [.F, .F, .F])) aD aV P ∧ (∀ b, P b → G2 b = none ∧ H1 b = none ∧ Hi b ≠ none ∧ b ≠ D) ∧
    aD.length ≤ k ∧ compL (nameG i) yesT (mvFe j i Fe) (wipeE ρ [i]) (cs.drop k) = .ok ys ∧ aD ++ ys = total ∧ ∀ (k : Nat) (y : Dt) (v : V), aD[k]? = some y → aV[k]? = some v → MvP ks ds us y v Hi
  refine ⟨fun k n Hi => n = cs.length - k ∧ k ≤ cs.length ∧ St k Hi, ⟨cs.length, by simp, Nat.zero_le _, G1, [], [], Pno, total, ?_, upd_same, e1.gh.free hD, .nil, fun _ z => z.elim, Nat.le_refl _, by simpa using hn, rfl, fun k y v h => by simp at h⟩, ?_⟩
  · exact (Ext.refl e1.gh).mut hD (e1.gh.free hD)
  rintro k n' Hi ⟨rfl, hi, G2, aD, aV, P, ys, E, hDi, gD, own, pr, la, hc, tot, phi⟩
  by_cases hlt : k < cs.length
  case neg =>
    have ei : k = cs.length := by omega
    subst ei
    refine .inl ⟨wk.stop G2 Hi E, ?_⟩
    have z : compL (nameG i) yesT (mvFe j i Fe) (wipeE ρ [i]) (cs.drop cs.length) = .ok [] := by rw [List.drop_length]; rfl
    rw [z] at hc
    cases hc
    rw [List.append_nil] at tot
    subst tot
    exact fin D G2 Hi aV P E hDi gD hD own pr phi
  obtain ⟨go, step⟩ := wk.go k cs[k] G2 Hi (by simp [hlt]) E
  refine .inr ⟨go, fun H' => ∃ m', m' < cs.length - k ∧ (m' = cs.length - (k + 1) ∧ k + 1 ≤ cs.length ∧ St (k + 1) H'), fun H' z => z, fun x H3 y => ?_⟩
  obtain ⟨G3, e3, rx⟩ := step x H3 y
  have hdrop : cs.drop k = cs[k] :: cs.drop (k + 1) := List.drop_eq_getElem_cons hlt
  rw [hdrop] at hc
  have hc : (mvFe j i Fe ((wipeE ρ [i]).set i (some cs[k])) >>= fun y => compL (nameG i) yesT (mvFe j i Fe) (wipeE ρ [i]) (cs.drop (k + 1)) >>= fun ys => .ok (y :: ys)) = .ok ys := hc
  have w3 : Wd J.nw G0 H0 Γ (wipeE ρ [i]) (L2.wipe σ [i]) G3 H3 := ((w.ext e1).ext (E.trans e3)).nw.wipe [i] rfl
  refine hg w3 rx (show nameG i cs[k] (wipeE ρ [i]) = some _ from rfl) fun σ2 hw w4 => ⟨hw.trans wipe_wipe, ?_⟩
  have hw2 := hw.trans wipe_wipe
  have E3 : Ext G1 H1 G3 H3 := E.trans e3
  have carry : ∀ {G5 H5 : Hp}, Ext G2 Hi G5 H5 → Ows J.K J.ca G5 H5 (List.replicate aD.length (.T [.F, .F, .F])) aD aV P ∧ (∀ b, P b → G5 b = none ∧ H1 b = none ∧ H5 b ≠ none ∧ b ≠ D) := fun {G5 H5} e5 =>
    ⟨own.carry e5.g fun b hb => ⟨e5.h.at (pr b hb).2.2.1, by rw [e5.base b (pr b hb).2.2.1]; exact (pr b hb).1⟩, fun b hb => ⟨by rw [e5.base b (pr b hb).2.2.1]; exact (pr b hb).1, (pr b hb).2.1, e5.h.nn (pr b hb).2.2.1, (pr b hb).2.2.2⟩⟩
  have hDi0 : Hi D ≠ none := by rw [hDi]; exact fun z => by cases z
  unfold tYes
  dsimp only
  rw [if_pos rfl]
  obtain ⟨yD, hy, hc⟩ := bind_ok hc
  obtain ⟨ys2, hys, hc⟩ := bind_ok hc
  cases hc
  have hj2 : ((wipeE ρ [i]).set i (some cs[k]))[j]? = some (some (.dic ks ds)) := by
    rw [List.getElem?_set_ne (Ne.symm n)]
    show (ρ.set i none)[j]? = _
    rw [List.getElem?_set_ne (Ne.symm n)]
    exact hj
  have ga3 : G3 a = some (.dK (ks.zip us)) := E3.g _ _ (e1.g _ _ ga)
  refine mv_elt (us := us) he w4 hj2 (by rw [wipe1 hw2 n]; exact sj) ga3 l1 l2 (rps.mono (e1.g.trans E3.g)) (fun _ _ _ _ z => z) (fun y1 hy1 v G5 H5 P5 e5 f5 o5 ph => ?_) ⟨yD, hy⟩
  have : y1 = yD := by rw [hy] at hy1; cases hy1; rfl
  subst this
  have e25 := e3.trans e5
  obtain ⟨o6, p6⟩ := carry e25
  have hD5 : H5 D = some (.lst aV) := e25.h _ _ hDi
  have gD5 : G5 D = none := by rw [e25.base D hDi0]; exact gD
  refine ⟨aV, hD5, ?_, cs.length - (k + 1), by omega, rfl, hlt, G5, aD ++ [y1], aV ++ [v], fun b => P b ∨ P5 b, ys2, (E.trans e25).mut hD gD5, upd_same, gD5, ?_, fun b hb => ?_, by rw [List.length_append, List.length_singleton]; omega, hys, by rw [List.append_assoc]; exact tot, ?_⟩
  · rw [← own.len.1]
    exact Nat.lt_of_lt_of_le (Nat.lt_of_le_of_lt la hlt) (sz1000000 c)
  · rw [List.length_append, List.length_singleton, List.replicate_succ']
    have nD5 : ∀ b, P5 b → b ≠ D := fun b hb z => by
      have := (f5 b hb).2.1
      rw [z, e3.h _ _ hDi] at this
      cases this
    refine Ows.append (P1 := P) (P2 := P5) (o6.carry (Same.refl _) fun b hb => ⟨upd_ne (p6 b hb).2.2.2, (p6 b hb).1⟩) (.cons (P1 := P5) (P2 := Pno) (o5.carry (Same.refl _) fun b hb => ⟨upd_ne (nD5 b hb), (f5 b hb).1⟩) .nil (fun _ z => z) (fun _ z => z.elim) (fun _ _ z => z)) (fun _ => .inl) (fun _ => .inr) fun b h1 h2 => ?_
    exact (pr b h1).2.2.1 (e3.h.free (f5 b h2).2.1)
  · rcases hb with hb | hb
    · obtain ⟨a1, a2, a3, a4⟩ := p6 b hb
      exact ⟨a1, a2, by rw [upd_ne a4]; exact a3, a4⟩
    · have nb : b ≠ D := fun z => by
        have := (f5 b hb).2.1
        rw [z, e3.h _ _ hDi] at this
        cases this
      exact ⟨(f5 b hb).1, E3.h.free (f5 b hb).2.1, by rw [upd_ne nb]; exact (f5 b hb).2.2, nb⟩
  · intro k' y' v' h1 h2
    have al := own.len.1
    rcases Nat.lt_or_ge k' aD.length with z | z
    · rw [List.getElem?_append_left z] at h1
      rw [List.getElem?_append_left (by omega)] at h2
      exact ((phi k' y' v' h1 h2).mono e25.h).upd hD5
    · rw [List.getElem?_append_right z] at h1
      rw [List.getElem?_append_right (by omega)] at h2
      have kz : k' - aD.length = 0 := by
        have := (List.getElem?_eq_some_iff.mp h1).1
        simp at this
        omega
      rw [kz] at h1
      rw [← al, kz] at h2
      cases h1
      cases h2
      exact ph.upd hD5
end
/-- what may move: codes apart, the rest scalars -/
def mvOk1 : Dt → Bool
  | .tup [.int _, .lst es, f] => es.all scal && scal f
  | _ => false
def mvC : Dt → Int
  | .tup (.int c :: _) => c
  | _ => 0
def mvOk (ys : List Dt) : Bool := ys.all mvOk1 && decide (ys.map mvC).Nodup
section
variable {K : PySem.W.Frag} {ca : Str → Addr} {G G0 G3 H H' : Hp}
theorem mv_part {Q1 : Addr → Prop} {es : List Dt} {u : V} (o : Ow K ca G H (.L .F) (.lst es) u Q1) (hs : es.all scal = true) (s : ∀ b, Q1 b → H' b = H b) (g0 : ∀ b, Q1 b → G0 b = none) : Ow K ca G0 H' (.L .F) (.lst es) u Q1 := by
  cases o with
  | @L _ a vs _ _ h1 h2 h3 h4 => exact .L (by rw [s a h3]; exact h1) (g0 a h3) h3 (Rps.own (Rps.scal hs h4.frozen))
theorem mv_own {Q : Nat → Addr → Prop} {ks : List Key} {ds : List Dt} {us : List V} (hQ : ∀ t es u, ds[t]? = some (.lst es) → us[t]? = some u → es.all scal = true → Ow K ca G0 H' (.L .F) (.lst es) u (Q t)) (hq : ∀ s t b, s ≠ t → Q s b → ¬ Q t b) :
    ∀ {ys : List Dt} {vs : List V} {P : Addr → Prop}, Ows K ca G3 H' (List.replicate ys.length (.T [.F, .F, .F])) ys vs P → (∀ b, P b → G0 b = none ∧ ∀ t, ¬ Q t b) → (∀ (k : Nat) (y : Dt) (v : V), ys[k]? = some y → vs[k]? = some v → MvP ks ds us y v H') → mvOk ys = true →
    Ows K ca G0 H' (List.replicate ys.length (.T [.F, .L .F, .F])) ys vs (fun b => P b ∨ ∃ t, (∃ c, ks[t]? = some (Sum.inl c) ∧ c ∈ ys.map mvC) ∧ Q t b)
  | [], vs, P, h, hp, ph, ok => by
    cases h
    exact .nil
  | y :: ys, vs, P, h, hp, ph, ok => by
    cases h with
    | @cons _ _ _ _ v vs _ P1 P2 h1 h2 q1 q2 q3 =>
      unfold mvOk at ok
      rw [Bool.and_eq_true, List.all_cons, Bool.and_eq_true, decide_eq_true_eq, List.map_cons, List.nodup_cons] at ok
      obtain ⟨⟨ok1, ok2⟩, nd1, nd2⟩ := ok
      have rest := mv_own hQ hq h2 (fun b hb => hp b (q2 b hb)) (fun k y v e1 e2 => ph (k + 1) y v e1 e2) (by unfold mvOk; rw [ok2, decide_eq_true nd2]; rfl)
      obtain ⟨q, c, t, u, f, es, fd, rfl, rfl, a3, a4, a5, a6⟩ := ph 0 y v rfl rfl
      unfold mvOk1 at ok1
      rw [Bool.and_eq_true] at ok1
      have pt := hQ t es u a6 a5 ok1.1
      cases h1 with
      | @T _ _ ws _ _ k1 k2 k3 k4 =>
        rw [a3] at k1
        cases k1
        have rf : Rp K ca G0 fd f := by
          cases k4 with
          | cons _ r2 _ _ _ =>
            cases r2 with
            | cons _ r3 _ _ _ =>
              cases r3 with
              | cons r4 _ _ _ _ =>
                cases r4 with
                | F r4 => exact scal_rp ok1.2 r4
        have nq : ¬ Q t q := (hp q (q1 q k3)).2 t
        show Ows K ca G0 H' (.T [.F, .L .F, .F] :: List.replicate ys.length (.T [.F, .L .F, .F])) _ _ _
        refine .cons (P1 := fun b => b = q ∨ Q t b) (.T a3 (hp q (q1 q k3)).1 (.inl rfl) ?_) rest (fun b hb => ?_) (fun b hb => ?_) (fun b hb z => ?_)
        · refine .cons (P1 := Pno) (P2 := Q t) (.F (.int c)) (.cons (P1 := Q t) (P2 := Pno) pt (.cons (P1 := Pno) (P2 := Pno) (.F rf) .nil (fun _ z => z.elim) (fun _ z => z.elim) fun _ z => z.elim) (fun _ z => z) (fun _ z => z.elim) fun _ _ z => z) (fun _ z => z.elim) (fun b hb => ⟨.inr hb, fun z => nq (z ▸ hb)⟩) fun _ z => z.elim
        · rcases hb with rfl | hb
          · exact .inl (q1 _ k3)
          · exact .inr ⟨t, ⟨c, a4, List.mem_cons_self⟩, hb⟩
        · rcases hb with hb | ⟨t', ⟨c', e1, e2⟩, hb⟩
          · exact .inl (q2 b hb)
          · exact .inr ⟨t', ⟨c', e1, List.mem_cons_of_mem _ e2⟩, hb⟩
        · rcases hb with rfl | hb
          · rcases z with z | ⟨t', _, z⟩
            · exact q3 _ k3 z
            · exact (hp _ (q1 _ k3)).2 t' z
          · rcases z with z | ⟨t', ⟨c', e1, e2⟩, z⟩
            · exact (hp b (q2 b z)).2 t hb
            · by_cases n : t = t'
              · subst n
                rw [a4] at e1
                cases e1
                exact nd1 e2
              · exact hq t t' b n hb z
end
def mvR (Fi : Ev → Rs (List Dt)) (j i : Nat) (Fe : Ev → Rs Dt) (ρ : Ev) : Rs Dt := match ρ[j]? with
  | some (some (.dic _ _)) => noEx (Fi ρ) >>= fun cs => if lenSz cs.length = true then noEx (compL (nameG i) yesT (mvFe j i Fe) (wipeE ρ [i]) cs) >>= fun ys => if mvOk ys = true then .ok (.lst ys) else .no else .no
  | _ => .no
def retMv (Fi : Ev → Rs (List Dt)) (j i : Nat) (Fe : Ev → Rs Dt) (ρ : Ev) : Ot := match mvR Fi j i Fe ρ with
  | .ok d => .rt d
  | _ => .no
section
variable {J : Jc} {Γ Γ' : List Mode} {Fe : Ev → Rs Dt} {te : TE} {Fi : Ev → Rs (List Dt)} {wi : TI} {g : TG} {G0 H0 G H : Hp} {ρ : Ev} {σ : L2.St} {D : Ends}
theorem wd_frz {i : Nat} {Pf : Nat → Addr → Prop} (w : Wd J G0 H0 Γ ρ σ G H) (h1 : ∀ i j a, i ≠ j → Pf i a → ¬ Pf j a) (h2 : ∀ i a, Pf i a → G a = none ∧ H0 a = none ∧ H a ≠ none)
    (h3 : ∀ i d, ρ[i]? = some (some d) → ∃ v m, σ[i]? = some (some v) ∧ Γ[i]? = some m ∧ Ow J.K J.ca G H m d v (Pf i)) : Same G (fun b => if Pf i b then H b else G b) ∧ Wd J G0 H0 (Γ.set i .F) ρ σ (fun b => if Pf i b then H b else G b) H := by
  have sg : Same G (fun b => if Pf i b then H b else G b) := fun a u q => by
    show (if Pf i a then H a else G a) = some u
    by_cases z : Pf i a
    · rw [if_pos z]; exact w.gh a u q
    · rw [if_neg z]; exact q
  refine ⟨sg, ⟨⟨w.x.g.trans sg, w.x.h, fun a u q => ?_, fun a q => ?_⟩, by rw [List.length_set]; exact w.lg, w.lr, ⟨fun j a => j ≠ i ∧ Pf j a, fun j k a q r s => h1 j k a q r.2 s.2, fun j a q => ?_, fun j d q => ?_⟩, w.pn⟩⟩
  · have q : (if Pf i a then H a else G a) = some u := q
    by_cases z : Pf i a
    · rw [if_pos z] at q; exact q
    · rw [if_neg z] at q; exact w.gh a u q
  · show (if Pf i a then H a else G a) = G0 a
    rw [if_neg fun z => q (h2 i a z).2.1]
    exact w.x.base a q
  · obtain ⟨q0, q⟩ := q
    refine ⟨?_, (h2 j a q).2⟩
    show (if Pf i a then H a else G a) = none
    rw [if_neg (h1 j i a q0 q)]
    exact (h2 j a q).1
  · obtain ⟨v, m, s1, s2, s3⟩ := h3 j d q
    by_cases hj : j = i
    · subst hj
      refine ⟨v, .F, s1, List.getElem?_set_self (List.getElem?_eq_some_iff.mp s2).1, .F (s3.freeze sg fun b hb => if_pos hb)⟩
    · refine ⟨v, m, s1, by rw [List.getElem?_set_ne (Ne.symm hj)]; exact s2, (s3.carry sg fun b hb => ⟨rfl, ?_⟩).weaken fun b hb => ⟨hj, hb⟩⟩
      show (if Pf i b then H b else G b) = none
      rw [if_neg (h1 j i b hj hb)]
      exact (h2 j b hb).1
theorem ss_retMv {i j : Nat} (hm : Γ[j]? = some (.K (.L .F))) (hr : J.mr = .L (.T [.F, .L .F, .F])) (hi : SemIX J (Γ.set j .F) Fi wi) (hg : SemG J.nw (Γ.set j .F) [i] (nameG i) g) (he : SemE J.nw (Γ.set j .F) (.o .F) Fe te) (n : j ≠ i) : SemS J Γ Γ' (retMv Fi j i Fe) (tRet (tLc wi g tYes (tTup (tCons (tVar i) (tCons (tDGet (tVar j) (tVar i)) (tCons te tNil)))) [i])) := fun {G0 H0 G H ρ σ D} w p => by
  unfold retMv at p
  cases hF : mvR Fi j i Fe ρ with
  | ex c => rw [hF] at p; cases p
  | no => rw [hF] at p; cases p
  | ok d =>
  rw [hF] at p
  have p := p.of_rt
  unfold mvR at hF
  cases hj : ρ[j]? with
  | none => rw [hj] at hF; cases hF
  | some o =>
  cases o with
  | none => rw [hj] at hF; cases hF
  | some dd =>
  rw [hj] at hF
  cases dd with
  | dic ks ds =>
    dsimp only at hF
    obtain ⟨cs, hcs, hF⟩ := bind_ok hF
    have hcs := noEx_ok hcs
    by_cases c : lenSz cs.length = true
    case neg => rw [if_neg c] at hF; cases hF
    rw [if_pos c] at hF
    have c := lenSz_le c
    obtain ⟨ys, hn, hF⟩ := bind_ok hF
    have hn := noEx_ok hn
    by_cases ok : mvOk ys = true
    case neg => rw [if_neg ok] at hF; cases hF
    rw [if_pos ok] at hF
    cases hF
    obtain ⟨Pf, h1, h2, h3⟩ := w.env
    obtain ⟨sg, wf⟩ := wd_frz (i := j) w h1 h2 h3
    obtain ⟨v, m, s1, s2, s3⟩ := h3 j _ hj
    rw [hm] at s2
    cases s2
    cases s3 with
    | @K _ a _ us _ _ k1 k2 k3 k4 k5 =>
      obtain ⟨Q, qa, qb, qc⟩ := k5.parts
      have hQj : ∀ t b, Q t b → Pf j b := fun t b z => (qb t b z).1
      have ga : (fun b => if Pf j b then H b else G b) a = some (.dK (ks.zip us)) := by
        show (if Pf j a then H a else G a) = _
        rw [if_pos k3]; exact k1
      have rps : Rps J.K J.ca (fun b => if Pf j b then H b else G b) ds us := k5.freeze sg fun b hb => if_pos hb.1
      have l1 : ks.length = ds.length := by rw [k4]; exact k5.len.1.symm
      show wi σ H _
      refine hi wf ?_
      rw [hcs]
      refine .ok fun it G2 H2 e2 wk => ?_
      refine mv_comp (total := ys) hg he wf e2 wk n hj s1 ga l1 k4 rps c hn fun D' G' H' aV P E hD gD h2D own pr phi => ?_
      have fr : ∀ b, H2 b = none → H b = none := fun b z => e2.h.free z
      have g0 : ∀ b, H b = none → G0 b = none ∧ H0 b = none := fun b z => ⟨(w.x.g.trans w.gh).free z, w.x.h.free z⟩
      have sh : Same H H' := e2.h.trans E.h
      refine p (.ref D') G0 H' (fun b => b = D' ∨ (P b ∨ ∃ t, (∃ c, ks[t]? = some (Sum.inl c) ∧ c ∈ ys.map mvC) ∧ Q t b)) ⟨Same.refl _, w.x.h.trans sh, (w.x.g.trans w.gh).trans sh, fun _ _ => rfl⟩ (fun b hb => ?_) ?_
      · rcases hb with rfl | hb | ⟨t, _, hb⟩
        · obtain ⟨z1, z2⟩ := g0 _ (fr _ h2D)
          exact ⟨z1, z2, by rw [hD]; exact fun z => by cases z⟩
        · obtain ⟨z1, z2⟩ := g0 _ (fr _ (pr b hb).2.1)
          exact ⟨z1, z2, (pr b hb).2.2.1⟩
        · obtain ⟨z1, z2, z3⟩ := h2 j b (hQj t b hb)
          exact ⟨w.x.g.free z1, z2, sh.nn z3⟩
      · rw [hr]
        refine .L hD (g0 _ (fr _ h2D)).1 (.inl rfl) ?_
        refine (mv_own (G0 := G0) (Q := Q) (ks := ks) (ds := ds) (us := us) (fun t es u e1 e2' hs => ?_) qc own (fun b hb => ⟨(g0 _ (fr _ (pr b hb).2.1)).1, fun t z => (h2 j b (hQj t b z)).2.2 (fr _ (pr b hb).2.1)⟩) phi ok).weaken fun b hb => ⟨.inr hb, ?_⟩
        · refine mv_part (qa t _ _ _ e1 e2' ?_) hs (fun b hb => sh.at (h2 j b (hQj t b hb)).2.2) fun b hb => w.x.g.free (h2 j b (hQj t b hb)).1
          have lt : t < ds.length := (List.getElem?_eq_some_iff.mp e1).1
          rw [List.getElem?_replicate, if_pos lt]
        · rcases hb with hb | ⟨t, _, hb⟩
          · exact (pr b hb).2.2.2
          · exact fun z => (h2 j b (hQj t b hb)).2.2 (by rw [z]; exact fr _ h2D)
  | _ => cases hF
end
end Pm
namespace Pm
open PySem PySem.Spec PyProof.Rows L2 TL
open Classical
/-! ### texts -/
theorem pe_globStr {X : Cx} {x : Str} {z : Str} {pos : Pos} (h : ∃ t, X.mg x = some (.str z t)) (hg : Gl X x := by rfl) (hd : (x == ("__debug__" : Str)) = false := by decide) : PE X (.Name x pos) (tC (.str z)) := by
  obtain ⟨t, h⟩ := h
  exact pe_glob (v := .str z) hg h ⟨t, rfl⟩ hd
section
variable {J : Jc} {Γ : List Mode} {F Fa Fb : Ev → Rs Dt} {Fs : List (Ev → Rs Dt)} {te ta tb : TE} {tr : TA} {G0 H0 G H G' H' : Hp} {ρ : Ev} {σ : L2.St}
/-! one sign in a text -/
def inSD : Dt → Dt → Rs Dt
  | .str x, .str z => (match x.cps.toList with
    | [c] => .ok (.bl (decide (c ∈ z.cps.toList)))
    | _ => .no)
  | _, _ => .no
def ninSD : Dt → Dt → Rs Dt
  | .str x, .str z => (match x.cps.toList with
    | [c] => .ok (.bl (!decide (c ∈ z.cps.toList)))
    | _ => .no)
  | _, _ => .no
def inSE := op2E inSD
def ninSE := op2E ninSD
abbrev rInS : R2 := fun x y H Q => ∃ (c : Nat) (z : Str), x = .str ⟨#[c]⟩ ∧ y = .str z ∧ Q (.bl (decide (c ∈ z.cps.toList))) H
abbrev rNinS : R2 := fun x y H Q => ∃ (c : Nat) (z : Str), x = .str ⟨#[c]⟩ ∧ y = .str z ∧ Q (.bl (!decide (c ∈ z.cps.toList))) H
theorem one_sign {x : Str} {c : Nat} (h : x.cps.toList = [c]) : x = ⟨#[c]⟩ := TL.ext_tl (by show x.cps.toList = _; rw [h])
theorem se_inS (ha : SemE J Γ .B Fa ta) (hb : SemE J Γ .B Fb tb) : SemE J Γ (.o .F) (inSE Fa Fb) (tOp rInS ta tb) :=
  se_op2 (fun H a b d x y Q ra rb q k => by
    cases ra with
    | str x =>
      cases rb with
      | str z =>
        have q : (match x.cps.toList with | [c] => Rs.ok (Dt.bl (decide (c ∈ z.cps.toList))) | _ => .no) = .ok d := q
        split at q
        · rename_i c e
          cases q
          exact ⟨c, z, by rw [one_sign e], rfl, k _ rfl fun _ => .bl _⟩
        · cases q
      | _ => cases q
    | _ => cases rb <;> cases q) (fun a b c => by
      unfold inSD
      split
      · split <;> intro q <;> cases q
      · intro q; cases q) ha hb
theorem se_ninS (ha : SemE J Γ .B Fa ta) (hb : SemE J Γ .B Fb tb) : SemE J Γ (.o .F) (ninSE Fa Fb) (tOp rNinS ta tb) :=
  se_op2 (fun H a b d x y Q ra rb q k => by
    cases ra with
    | str x =>
      cases rb with
      | str z =>
        have q : (match x.cps.toList with | [c] => Rs.ok (Dt.bl (!decide (c ∈ z.cps.toList))) | _ => .no) = .ok d := q
        split at q
        · rename_i c e
          cases q
          exact ⟨c, z, by rw [one_sign e], rfl, k _ rfl fun _ => .bl _⟩
        · cases q
      | _ => cases q
    | _ => cases rb <;> cases q) (fun a b c => by
      unfold ninSD
      split
      · split <;> intro q <;> cases q
      · intro q; cases q) ha hb
/-! the signs of a text, walked -/
def signsD (x : Str) : List Dt := x.cps.toList.map fun c => Dt.str ⟨#[c]⟩
def strI (F : Ev → Rs Dt) (ρ : Ev) : Rs (List Dt) := F ρ >>= fun d => match d with
  | .str x => .ok (signsD x)
  | _ => .no
theorem walk_str {K : PySem.W.Frag} {ca : Str → Addr} (x : Str) : Walk K ca (Its x) G (signsD x) := by
  have hl : (signsD x).length = x.cps.size := by unfold signsD; rw [List.length_map, Array.length_toList]
  refine ⟨fun i d G1 H1 e g1 g2 => ?_, fun G1 H1 g1 g2 => by rw [hl]; exact Nat.le_refl _⟩
  have hi : i < x.cps.size := by have := (List.getElem?_eq_some_iff.mp e).1; rw [hl] at this; exact this
  refine ⟨hi, fun v H2 y => ?_⟩
  obtain ⟨y1, c, y2, y3⟩ := y
  subst y1 y3
  have z : d = .str ⟨#[c]⟩ := by
    unfold signsD at e
    rw [List.getElem?_map, Array.getElem?_toList, y2] at e
    exact (Option.some.inj e).symm
  subst z
  exact ⟨G1, Ext.refl g2, .str _⟩
theorem si_str (h : SemE J Γ .B F te) : SemI J Γ (strI F) (iStr te) := fun {G0 H0 G H ρ σ R} w p => by
  refine h w (p.bind.imp (fun d _ q v G1 H1 _ e1 _ r1 => ?_) fun _ q => q)
  cases r1 with
  | str x => exact ⟨x, rfl, Rs.Post.of_ok q _ G1 H1 e1 (walk_str x)⟩
  | _ => cases q
/-! str(int), int(text) -/
@[irreducible] def numSz (i : Int) : Bool := decide (i.natAbs.log2 < 1920)
theorem numSz_ok {i : Int} (h : numSz i = true) : i.natAbs.log2 < 1920 := by unfold numSz at h; exact of_decide_eq_true h
def strD : Dt → Rs Dt
  | .int i => if numSz i = true then .ok (.str (toString i)) else .no
  | _ => .no
def strE := op1E strD
abbrev rStr1 : List V → Hp → VK → Prop := fun xs H Q => ∃ i, xs = [.int i] ∧ i.natAbs.log2 < 1920 ∧ Q (.str (toString i)) H
theorem se_str1 (ha : SemE J Γ .B Fa ta) : SemE J Γ (.o .F) (strE Fa) (tCB rStr1 (tCons ta tNil)) :=
  se_cb1 (fun H a d x Q ra q k => by
    cases ra with
    | int i =>
      have q : (if numSz i = true then Rs.ok (Dt.str (toString i)) else .no) = .ok d := q
      by_cases c : numSz i = true
      · rw [if_pos c] at q
        cases q
        exact ⟨i, rfl, numSz_ok c, k _ rfl fun _ => .str _⟩
      · rw [if_neg c] at q; cases q
    | _ => cases q) (fun a c => by
      unfold strD
      split
      · split <;> intro q <;> cases q
      · intro q; cases q) ha
@[irreducible] def txtSz (x : Str) : Bool := decide (x.length ≤ 640)
theorem txtSz_ok {x : Str} (h : txtSz x = true) : x.length ≤ 640 := by unfold txtSz at h; exact of_decide_eq_true h
@[irreducible] def txtNum (x : Str) : Option Int := PySem.intText? x
theorem txtNum_ok {x : Str} {n : Int} (h : txtNum x = some n) : PySem.intText? x = some n := by unfold txtNum at h; exact h
def intTD : Dt → Rs Dt
  | .str x => if txtSz x = true then (match txtNum x with
    | some n => .ok (.int n)
    | none => .no) else .no
  | _ => .no
def intTE := op1E intTD
abbrev rIntT : List V → Hp → VK → Prop := fun xs H Q => ∃ a n, xs = [.str a] ∧ PySem.intText? a = some n ∧ a.length ≤ 640 ∧ Q (.int n) H
theorem se_intT (ha : SemE J Γ .B Fa ta) : SemE J Γ (.o .F) (intTE Fa) (tCB rIntT (tCons ta tNil)) :=
  se_cb1 (fun H a d x Q ra q k => by
    cases ra with
    | str z =>
      have q : (if txtSz z = true then (match txtNum z with | some n => Rs.ok (Dt.int n) | none => .no) else .no) = .ok d := q
      by_cases c : txtSz z = true
      · rw [if_pos c] at q
        cases e : txtNum z with
        | none => rw [e] at q; cases q
        | some n =>
          rw [e] at q
          cases q
          exact ⟨z, n, rfl, txtNum_ok e, txtSz_ok c, k _ rfl fun _ => .int _⟩
      · rw [if_neg c] at q; cases q
    | _ => cases q) (fun a c => by
      unfold intTD
      split
      · split
        · split <;> intro q <;> cases q
        · intro q; cases q
      · intro q; cases q) ha
/-! methods of texts -/
def strsOf : List Dt → Option (List Str)
  | [] => some []
  | .str x :: ds => (strsOf ds).map (x :: ·)
  | _ => none
theorem rps_strs {K : PySem.W.Frag} {ca : Str → Addr} : ∀ {ds : List Dt} {ys : List Str} {vs : List V}, strsOf ds = some ys → Rps K ca H ds vs → vs = ys.map V.str
  | [], ys, vs, h, r => by cases h; cases r; rfl
  | d :: ds, ys, vs, h, r => by
    cases r with
    | cons r1 r2 =>
      cases d with
      | str b =>
        cases q : strsOf ds with
        | none => simp [strsOf, q] at h
        | some cs =>
          have e : b :: cs = ys := by simpa [strsOf, q] using h
          subst e
          cases r1
          rw [rps_strs q r2]; rfl
      | _ => simp [strsOf] at h
theorem strsOf_map (ys : List Str) : strsOf (ys.map Dt.str) = some ys := by
  induction ys with
  | nil => rfl
  | cons b bs ih => rw [List.map_cons, strsOf, ih]; rfl
theorem rps_strs_of {K : PySem.W.Frag} {ca : Str → Addr} (ys : List Str) : Rps K ca H (ys.map Dt.str) (ys.map V.str) := by
  induction ys with
  | nil => exact .nil
  | cons b bs ih => exact .cons (.str _) ih
@[irreducible] def joinSz (a : Str) (ys : List Str) : Bool := decide ((ys.map (·.length)).sum + ys.length * a.length ≤ 1000000)
theorem joinSz_ok {a : Str} {ys : List Str} (h : joinSz a ys = true) : (ys.map (·.length)).sum + ys.length * a.length ≤ 16777216 := by
  unfold joinSz at h
  have := of_decide_eq_true h
  omega
def strOf : Dt → Rs Str
  | .str x => .ok x
  | _ => .no
/-- a method of a text, one argument -/
def m1E (g : Str → Dt → Rs Dt) (Fa Fb : Ev → Rs Dt) (ρ : Ev) : Rs Dt := Fa ρ >>= fun a => strOf a >>= fun x => Fb ρ >>= fun b => g x b
theorem se_m1 {g : Str → Dt → Rs Dt} {m mo : EM} {r : V → List V → Hp → VK → Prop} (ha : SemE J Γ .B Fa ta) (hb : SemE J Γ m Fb tb)
    (hr : ∀ (x : Str) (b : Dt) (v : V) (G H G2 H2 : Hp) (P : Addr → Prop) (Q : VK), Ext G H G2 H2 → Res J.K J.ca G2 H2 m b v P →
      Rs.Post (fun d => ∀ v G' H' P, Ext G H G' H' → Fr G' H H' P → Res J.K J.ca G' H' mo d v P → Q v H') (fun c => True) (g x b) → r (.str x) [v] H2 Q) (hn : ∀ x b c, g x b ≠ .ex c) :
    SemE J Γ mo (m1E g Fa Fb) (tM1 r ta tb) := fun {G0 H0 G H ρ σ Q} w p => by
  refine ha w (p.bind.imp (fun a _ p1 x G1 H1 _ e1 _ ra => ?_) fun _ q => q)
  cases ra with
  | str x =>
    refine ⟨⟨x, rfl⟩, ?_⟩
    refine hb (w.ext e1) ((Rs.Post.bind (r := Fb ρ) p1).imp (fun b _ p2 y G2 H2 P e2 _ rb => ?_) fun _ q H' dx s => q H' dx (e1.h.trans s))
    refine hr x b y G H G2 H2 P Q (e1.trans e2) rb ?_
    cases q : g x b with
    | ok d => rw [q] at p2; cases p2 with | ok p2 => exact .ok p2
    | ex c => exact absurd q (hn x b c)
    | no => rw [q] at p2; cases p2
  | _ => cases p1
def joinSD (x : Str) (ds : List Dt) : Rs Dt := match strsOf ds with
  | some ys => if joinSz x ys = true then .ok (.str (Txt.join x ys)) else .no
  | none => .no
def joinD (x : Str) (b : Dt) : Rs Dt := match seqD b with
  | some ds => joinSD x ds
  | none => .no
def joinE := m1E joinD
abbrev rJoin (K : PySem.W.Frag) : V → List V → Hp → VK → Prop := fun x xs H Q => ∃ a p, ∃ ys : List Str, x = .str a ∧ xs = [.ref p] ∧ (SqL K H p (ys.map V.str) ∨ SqT K H p (ys.map V.str)) ∧
      (ys.map (·.length)).sum + ys.length * a.length ≤ 16777216 ∧ Q (.str (Txt.join a ys)) H
theorem se_join (ha : SemE J Γ .B Fa ta) (hb : SemE J Γ .S Fb tb) : SemE J Γ (.o .F) (joinE Fa Fb) (tM1 (rJoin J.K) ta tb) :=
  se_m1 ha hb (fun x b v G H G2 H2 P Q e2 rb p2 => by
    unfold joinD at p2
    cases z : seqD b with
    | none => rw [z] at p2; cases p2
    | some ds =>
      rw [z] at p2
      have p2 : Rs.Post _ _ (joinSD x ds) := p2
      obtain ⟨l, vs, rfl, s, r⟩ := S_seq rb z
      unfold joinSD at p2
      cases c : strsOf ds with
      | none => rw [c] at p2; cases p2
      | some ys =>
        rw [c] at p2
        have p2 : Rs.Post _ _ (if joinSz x ys = true then Rs.ok (Dt.str (Txt.join x ys)) else .no) := p2
        by_cases k : joinSz x ys = true
        · rw [if_pos k] at p2
          have e := rps_strs c r
          subst e
          exact ⟨x, l, ys, rfl, rfl, s, joinSz_ok k, p2.of_ok _ G2 H2 Pno e2 Fr.no (.F (.str _))⟩
        · rw [if_neg k] at p2; cases p2) (fun x b c => by
    unfold joinD joinSD
    split
    · split
      · split <;> intro q <;> cases q
      · intro q; cases q
    · intro q; cases q)
@[irreducible] def txt0 (x : Str) : Bool := x.length == 0
def splitD (x : Str) : Dt → Rs Dt
  | .str y => if (strSz x && !txt0 y) = true then .ok (.lst ((Txt.split x y).map Dt.str)) else .no
  | _ => .no
def splitE := m1E splitD
abbrev rSplit : V → List V → Hp → VK → Prop := fun x xs H Q => ∃ a b, x = .str a ∧ xs = [.str b] ∧ (b.length == 0) = false ∧ a.length + 2 ≤ sizeLine ∧ rNewStrs (Txt.split a b) H Q
theorem split_sz {x y : Str} (k : (strSz x && !txt0 y) = true) : x.length ≤ 1000000 ∧ (y.length == 0) = false := by
  rw [Bool.and_eq_true] at k
  refine ⟨strSz_ok k.1, ?_⟩
  have := k.2
  unfold txt0 at this
  simpa using this
theorem se_split (ha : SemE J Γ .B Fa ta) (hb : SemE J Γ .B Fb tb) : SemE J Γ (.o (.L .F)) (splitE Fa Fb) (tM1 rSplit ta tb) :=
  se_m1 ha hb (fun x b v G H G2 H2 P Q e2 rb p2 => by
    cases rb with
    | str y =>
      have p2 : Rs.Post _ _ (if (strSz x && !txt0 y) = true then Rs.ok (Dt.lst ((Txt.split x y).map Dt.str)) else .no) := p2
      by_cases k : (strSz x && !txt0 y) = true
      · rw [if_pos k] at p2
        have k := split_sz k
        refine ⟨x, y, rfl, rfl, k.2, by rw [sizeLine]; omega, fun l hl => ?_⟩
        obtain ⟨e3, f3, o3⟩ := new_lst (K := J.K) (ca := J.ca) e2.gh hl (rps_strs_of (Txt.split x y))
        exact p2.of_ok (.ref l) _ _ _ (e2.trans e3) (fun b hb => ⟨(f3 b hb).1, e2.h.free (f3 b hb).2.1, (f3 b hb).2.2⟩) o3
      · rw [if_neg k] at p2; cases p2
    | _ => cases p2) (fun x b c => by
    unfold splitD
    split
    · split <;> intro q <;> cases q
    · intro q; cases q)
def partD (x : Str) : Dt → Rs Dt
  | .str y => if (strSz x && !txt0 y) = true then .ok (.tup [.str (Txt.partition x y).1, .str (Txt.partition x y).2.1, .str (Txt.partition x y).2.2]) else .no
  | _ => .no
def partE := m1E partD
abbrev rPart : V → List V → Hp → VK → Prop := fun x xs H Q => ∃ a b, x = .str a ∧ xs = [.str b] ∧ (b.length == 0) = false ∧ a.length ≤ sizeLine ∧
      ∀ p, H p = none → Q (.ref p) (upd H p (.tup [.str (Txt.partition a b).1, .str (Txt.partition a b).2.1, .str (Txt.partition a b).2.2]))
theorem se_part (ha : SemE J Γ .B Fa ta) (hb : SemE J Γ .B Fb tb) : SemE J Γ (.o .F) (partE Fa Fb) (tM1 rPart ta tb) :=
  se_m1 ha hb (fun x b v G H G2 H2 P Q e2 rb p2 => by
    cases rb with
    | str y =>
      have p2 : Rs.Post _ _ (if (strSz x && !txt0 y) = true then Rs.ok (Dt.tup [.str (Txt.partition x y).1, .str (Txt.partition x y).2.1, .str (Txt.partition x y).2.2]) else .no) := p2
      by_cases k : (strSz x && !txt0 y) = true
      · rw [if_pos k] at p2
        have k := split_sz k
        refine ⟨x, y, rfl, rfl, k.2, by rw [sizeLine]; omega, fun l hl => ?_⟩
        obtain ⟨e3, o3⟩ := new_tup (K := J.K) (ca := J.ca) e2.gh hl (.cons (.str (Txt.partition x y).1) (.cons (.str (Txt.partition x y).2.1) (.cons (.str (Txt.partition x y).2.2) .nil)))
        exact p2.of_ok _ _ _ Pno (e2.trans e3) Fr.no (.F o3)
      · rw [if_neg k] at p2; cases p2
    | _ => cases p2) (fun x b c => by
    unfold partD
    split
    · split <;> intro q <;> cases q
    · intro q; cases q)
def swD (x : Str) : Dt → Rs Dt
  | .str y => .ok (.bl (Txt.startswith x y))
  | _ => .no
def swE := m1E swD
abbrev rSw : V → List V → Hp → VK → Prop := fun x xs H Q => ∃ a b, x = .str a ∧ xs = [.str b] ∧ Q (.bl (Txt.startswith a b)) H
theorem pe_sw {X : Cx} {o e : Expr} {to te : TE} {apos pos : Pos} (ho : PE X o to) (he : PE X e te) (hs : starEach [e] X.env = [(false, eval e X.env)] := by rfl) (hbase : attributeBase o "startswith" X.env (eval o X.env) = eval o X.env := by rfl) (hline : (apos.endLine == pos.line) = true := by rfl) :
    PE X (.Call (.Attribute o "startswith" apos) [e] [] pos) (tM1 rSw to te) :=
  pe_m1 F.slot_str_startswith F.type_str_startswith mt_startswith ho he hs hbase hline
theorem se_sw (ha : SemE J Γ .B Fa ta) (hb : SemE J Γ .B Fb tb) : SemE J Γ (.o .F) (swE Fa Fb) (tM1 rSw ta tb) :=
  se_m1 ha hb (fun x b v G H G2 H2 P Q e2 rb p2 => by
    cases rb with
    | str y => exact ⟨x, y, rfl, rfl, p2.of_ok _ G2 H2 Pno e2 Fr.no (.F (.bl _))⟩
    | _ => cases p2) (fun x b c => by
    unfold swD
    split <;> intro q <;> cases q)
/-! range with a step -/
def stepL (lo c : Int) (n : Nat) : List Dt := (List.range n).map fun i => Dt.int (lo + (i : Nat) * c)
def stepN (i j c : Int) : Nat := (Builtin.Range.rangeSize i j c).toNat
def rng3I (Fs : List (Ev → Rs Dt)) (ρ : Ev) : Rs (List Dt) := argsE Fs ρ >>= fun ds => match ds with
  | [.int i, .int j, .int c] => if (intSz i && intSz j && intSz c && decide (0 < c)) = true then .ok (stepL i c (stepN i j c)) else .no
  | _ => .no
theorem walk_step {K : PySem.W.Frag} {ca : Str → Addr} (lo c : Int) (n : Nat) : Walk K ca (Itc lo c n) G (stepL lo c n) := by
  have hl : (stepL lo c n).length = n := by unfold stepL; rw [List.length_map, List.length_range]
  refine ⟨fun i d G1 H1 e g1 g2 => ?_, fun G1 H1 g1 g2 => by rw [hl]; exact Nat.le_refl _⟩
  have hi : i < n := by have := (List.getElem?_eq_some_iff.mp e).1; rw [hl] at this; exact this
  refine ⟨hi, fun x H2 y => ?_⟩
  obtain ⟨y1, y2⟩ := y
  subst y1 y2
  have z : d = .int (lo + (i : Nat) * c) := by
    unfold stepL at e
    rw [List.getElem?_map, List.getElem?_range hi] at e
    exact (Option.some.inj e).symm
  subst z
  exact ⟨G1, Ext.refl g2, .int _⟩
theorem step_small {i j c : Int} (hi : -1000000000 ≤ i ∧ i ≤ 1000000000) (hj : -1000000000 ≤ j ∧ j ≤ 1000000000) (hc : c ≤ 1000000000) (h0 : 0 < c) : RgC i j c (stepN i j c) := by
  have z := PyProof.Rows.rangeSize_toNat i j c
  have z2 := PyProof.Rows.rangeSize_toNat_le i j c
  refine ⟨by omega, by omega, ?_, by rw [stepN]; exact z⟩
  unfold Builtin.Range.small
  generalize Builtin.Range.rangeSize i j c = n at z z2
  simp only [Builtin.Range.rangeFitsLong, Bool.and_eq_true, Bool.or_eq_true, decide_eq_true_eq, beq_iff_eq, if_pos (show c > 0 from h0)]
  omega
theorem si_rng3 (h : SemBs J Γ Fs tr) : SemI J Γ (rng3I Fs) (iRng3 tr) := fun {G0 H0 G H ρ σ R} w p => by
  refine h w (p.bind.imp (fun ds _ q vs G1 H1 e1 r1 => ?_) fun _ q => q)
  split at q
  · rename_i i j c hq
    cases r1 with
    | cons r1 r2 =>
      obtain ⟨v, u, rfl, r, r'⟩ := r2.two
      cases r1
      cases r
      cases r'
      by_cases k : (intSz i && intSz j && intSz c && decide (0 < c)) = true
      · rw [if_pos k] at q
        rw [Bool.and_eq_true, Bool.and_eq_true, Bool.and_eq_true] at k
        exact ⟨i, j, c, _, rfl, step_small (intSz_ok k.1.1.1) (intSz_ok k.1.1.2) (intSz_ok k.1.2).2 (of_decide_eq_true k.2), q.of_ok _ G1 H1 e1 (walk_step i c _)⟩
      · rw [if_neg k] at q; cases q
  · cases q
/-! text * int -/
def repSt (x : Str) (n : Nat) : Str := ⟨((List.replicate n x.cps.toList).flatten).toArray⟩
@[irreducible] def repSz (x : Str) (n : Int) : Bool := decide (0 ≤ n ∧ n ≤ 1000 ∧ x.length ≤ 1000)
theorem repSz_ok {x : Str} {n : Int} (h : repSz x n = true) : 0 ≤ n ∧ n ≤ 1000 ∧ x.length ≤ 1000 := by unfold repSz at h; exact of_decide_eq_true h
theorem fold_rep (a : Array Nat) : ∀ (n : Nat) (b : Array Nat), ((List.replicate n a).foldl (· ++ ·) b).toList = b.toList ++ (List.replicate n a.toList).flatten
  | 0, b => by simp
  | n + 1, b => by
    rw [List.replicate_succ, List.foldl_cons, fold_rep a n, List.replicate_succ, List.flatten_cons, Array.toList_append, List.append_assoc]
abbrev rMulS : R2 := fun x y H Q => ∃ (z : Str) (n : Int), x = .str z ∧ y = .int n ∧ repSz z n = true ∧ Q (.str (repSt z n.toNat)) H
theorem rep_len (x : Str) (n : Nat) : (repSt x n).length = n * x.length := by
  show (((List.replicate n x.cps.toList).flatten).toArray).size = _
  rw [List.size_toArray, List.length_flatten]
  simp
  rfl
theorem op_mulS {X : Cx} : OpR X (binaryOp .Mult) rMulS := by
  intro pins s σ H x y v u Q I rx ry h
  obtain ⟨z, n, rfl, rfl, hz, q⟩ := h
  obtain ⟨t, rfl⟩ := rx
  obtain ⟨t', rfl⟩ := ry
  have hz := repSz_ok hz
  have hm : z.length * n.toNat ≤ 1000 * 1000 := Nat.mul_le_mul hz.2.2 (by omega)
  refine PySem.P.mul_str ?_ ?_ ?_ ?_
  · have h2 : ¬ n ≥ 2 ^ 63 := by omega
    have h1 : ¬ n < -(2 ^ 63 : Int) := by omega
    rw [decide_eq_false h2, decide_eq_false h1]; rfl
  · intro h1 _
    have h3 : (1 : Int) ≤ n := by omega
    have h4 : (2 ^ 63 - 1 : Int) / 1000 ≤ (2 ^ 63 - 1) / n := by
      refine Int.le_ediv_of_mul_le (by omega) ?_
      have : (2 ^ 63 - 1 : Int) / 1000 * n ≤ (2 ^ 63 - 1 : Int) / 1000 * 1000 := Int.mul_le_mul_of_nonneg_left hz.2.1 (by decide)
      omega
    have h5 : (1000 : Int) ≤ (2 ^ 63 - 1 : Int) / 1000 := by decide
    have h6 := hz.2.2
    omega
  · intro _ _
    unfold Builtin.Str.tooLong
    rw [sizeLine]
    exact decide_eq_false (by omega)
  · by_cases h1 : n < 1
    · rw [if_pos h1]
      have e : repSt z n.toNat = Str.empty := by
        rw [show n.toNat = 0 by omega]; rfl
      rw [e] at q
      exact ⟨by decide, .str _, H, I.tok _, ⟨_, rfl⟩, q⟩
    · rw [if_neg h1]
      by_cases h2 : (n == 1 || z.length == 0) = true
      · rw [if_pos h2]
        have e : repSt z n.toNat = z := by
          refine TL.ext_tl ?_
          show (List.replicate n.toNat z.cps.toList).flatten = z.cps.toList
          rw [Bool.or_eq_true] at h2
          rcases h2 with h2 | h2
          · have : n = 1 := by simpa using h2
            subst this
            simp
          · have : z.cps.toList = [] := (TL.len0_tl z).mp (by simpa using h2)
            rw [this]
            simp
        rw [e] at q
        exact ⟨.str z, H, I, ⟨t, rfl⟩, q⟩
      · rw [if_neg h2]
        have e : repSt z n.toNat = ⟨(List.replicate n.toNat z.cps).foldl (· ++ ·) #[]⟩ := by
          refine TL.ext_tl ?_
          show (List.replicate n.toNat z.cps.toList).flatten = ((List.replicate n.toNat z.cps).foldl (· ++ ·) #[]).toList
          rw [fold_rep]
          simp
        rw [← e]
        refine ⟨?_, .str _, H, I.tok _, ⟨_, rfl⟩, q⟩
        rw [rep_len, sizeLine, Nat.mul_comm]
        omega
def mulSD : Dt → Dt → Rs Dt
  | .str x, .int n => if repSz x n = true then .ok (.str (repSt x n.toNat)) else .no
  | _, _ => .no
def mulSE := op2E mulSD
theorem se_mulS (ha : SemE J Γ .B Fa ta) (hb : SemE J Γ .B Fb tb) : SemE J Γ (.o .F) (mulSE Fa Fb) (tOp rMulS ta tb) :=
  se_op2 (fun H a b d x y Q ra rb q k => by
    cases ra with
    | str z =>
      cases rb with
      | int n =>
        have q : (if repSz z n = true then Rs.ok (Dt.str (repSt z n.toNat)) else .no) = .ok d := q
        by_cases c : repSz z n = true
        · rw [if_pos c] at q
          cases q
          exact ⟨z, n, rfl, rfl, c, k _ rfl fun _ => .str _⟩
        · rw [if_neg c] at q; cases q
      | _ => cases q
    | _ => cases rb <;> cases q) (fun a b c => by
      unfold mulSD
      split
      · split <;> intro q <;> cases q
      · intro q; cases q) ha hb
end
end Pm
namespace Pm
open PySem PySem.Spec PyProof.Rows L2
/-! ### the head's Hook: facts, defs, one more Bool -/
def obX (facts : List He.Fa) (defs : List He.DefD) (more : PySem.W.Frag → Bool) (g : Addr → Option Obj) (n : Nat) : He.AlD × Bool :=
  (He.obsD facts defs (He.frG g (He.asD g n)), more (He.frG g (He.asD g n)))
def SaysX (facts : List He.Fa) (defs : List He.DefD) (more : PySem.W.Frag → Bool) (K : PySem.W.Frag) : Prop := He.SaysD facts defs K ∧ more K = true
def hookX (n : Nat) (facts : List He.Fa) (defs : List He.DefD) (more : PySem.W.Frag → Bool) : PySem.W.Hook where
  α := He.AlD × Bool
  obs := fun st => obX facts defs more st.heap.get? n
  val := fun _ => (He.valD defs, true)
  says := fun _ hp => ∃ K : PySem.W.Frag, K.In hp ∧ SaysX facts defs more K
  of := fun _ _ eq => ⟨_, He.frG_in, congrArg Prod.fst eq, congrArg Prod.snd eq⟩
  keeps := fun _ _ _ ⟨K, hIn, says⟩ kept => ⟨K, hIn.keeps kept, says⟩
theorem obX_eq {n : Nat} {facts : List He.Fa} {defs : List He.DefD} {more : PySem.W.Frag → Bool} {g : Addr → Option Obj} {st : Shared} (h : ∀ a, g a = st.heap.get? a) : obX facts defs more g n = (hookX n facts defs more).obs st := by
  have e : g = st.heap.get? := funext h
  subst e
  rfl
/-! ### the law's end -/
theorem walkX {l : PySem.W.OpenLaw} {n k : Nat} {q : Program} {loose : List Str} {XP : (Str → Option Value) → Heap → Prop} {YP : World → Heap → Prop} {d : DefRec} {x : Str} {Fn : List Dt → Rs Dt}
    (hn : l.most = some n) (hsz : n ≤ sizeLine) (hdf : d.params.defaults = []) (hr : Room k callerA)
    (hF : ∀ ns : List Int, ns.length ≤ n → Fn [.scr (ns.map Dt.int)] = .ok (.bl true))
    (F : ∀ (w : World) (mg : Str → Option Value) (fa : Addr) (h : Heap), YP w h → h.Ns mainGlobals mg → mg d.name = some (.ref fa) →
      ∃ (K : PySem.W.Frag) (fd : FuncData) (ca : Str → Addr), K.In h ∧ (∀ (s : Shared) (u : Value), BindsTo s fd ⟨[u], []⟩ [(x, u)]) ∧
        ∀ base : Heap, FnOk l.prog w K mg base (L2.CX l.prog w) k fa fd [x] (spM K ca 1 .F Fn)) :
    PySem.W.WalkO q loose XP YP l.row.toRowW d [] (fun f vs => PySem.call f vs) := by
  refine Att.attach_call hn hdf fun w s0 s1 mg mb fa o pm cd doc a vs ns G Y ho hd hcd hmg hobj hints hlen hg => ?_
  obtain ⟨K, fd, ca, KX, hb, ok⟩ := F w mg fa _ Y G.T.g hmg
  have size := Nat.le_trans hlen hsz
  refine law_call KX G.T.g G.T.b G.T.builtins G.T.nolimit hg hobj hints size hr (fun base _ _ => ok base) hb (fun H hO hS => ?_) fun H e s' z => ?_
  · have rs : ∀ ms : List Int, Rps K ca H (ms.map Dt.int) (ms.map V.int) := fun ms => by
      induction ms with
      | nil => exact .nil
      | cons m ms ih => exact .cons (.int m) ih
    refine ⟨rfl, H, [.scr (ns.map Dt.int)], Same.refl H, .cons (.scr hS (rs ns)) .nil, ?_⟩
    rw [hF ns hlen]
    exact .ok fun v G2 H2 P2 _ _ o2 => by
      cases o2 with
      | F o2 => cases o2; rfl
  · obtain ⟨_, _, _, _, _, _, _, _, _, _, _, _, no⟩ := z
    exact no
section
/-! a def's result -/
theorem v_def {np nl : Nat} {m : Mode} {F : Ev → Ot} {ds : List Dt} (h : ds.length = np) : defF np nl m F ds = outF m (F (ds.map some ++ List.replicate (nl - np) none)) := if_pos h
theorem v_init {C : Str} {np nl : Nat} {F : Ev → Ot} {ds : List Dt} (h : ds.length + 1 = np) : initF C np nl F ds = outI (F (some (.ins C [] []) :: ds.map some ++ List.replicate (nl - np) none)) := if_pos h
end
end Pm
namespace Pm
open PySem PySem.Spec L2
/-! ### reckoning with what the defs compute, no program in sight -/
section
variable {ρ : Ev} {d : Dt} {i j : Nat} {Fa Fb Fc Fe : Ev → Rs Dt} {Fs : List (Ev → Rs Dt)} {Ft Fu : Ev → Rs Bool} {F1 F2 F3 rest : Ev → Ot} {Post : Ot → Prop} {FG : Dt → Ev → Option Ev} {Fi : Ev → Rs (List Dt)}
theorem v_var0 : varE 0 (some d :: ρ) = .ok d := rfl
theorem v_varS {x : Option Dt} : varE (i + 1) (x :: ρ) = varE i ρ := rfl
theorem v_con : conE d ρ = .ok d := rfl
theorem v_add : addE Fa Fb ρ = (Fa ρ >>= fun a => Fb ρ >>= fun b => i2 addI a b) := rfl
theorem v_sub : subE Fa Fb ρ = (Fa ρ >>= fun a => Fb ρ >>= fun b => i2 subI a b) := rfl
theorem v_mul : mulE Fa Fb ρ = (Fa ρ >>= fun a => Fb ρ >>= fun b => i2 mulI a b) := rfl
theorem v_div : divE Fa Fb ρ = (Fa ρ >>= fun a => Fb ρ >>= fun b => i2 divI a b) := rfl
theorem v_mod : modE Fa Fb ρ = (Fa ρ >>= fun a => Fb ρ >>= fun b => i2 modI a b) := rfl
theorem v_pow : powE Fa Fb ρ = (Fa ρ >>= fun a => Fb ρ >>= fun b => i2 powI a b) := rfl
theorem v_shl : shlE Fa Fb ρ = (Fa ρ >>= fun a => Fb ρ >>= fun b => i2 shlI a b) := rfl
theorem v_lt : ltE Fa Fb ρ = (Fa ρ >>= fun a => Fb ρ >>= fun b => i2 ltI a b) := rfl
theorem v_le : leE Fa Fb ρ = (Fa ρ >>= fun a => Fb ρ >>= fun b => i2 leI a b) := rfl
theorem v_gt : gtE Fa Fb ρ = (Fa ρ >>= fun a => Fb ρ >>= fun b => i2 gtI a b) := rfl
theorem v_ge : geE Fa Fb ρ = (Fa ρ >>= fun a => Fb ρ >>= fun b => i2 geI a b) := rfl
theorem v_eq : eqE Fa Fb ρ = (Fa ρ >>= fun a => Fb ρ >>= fun b => eqD a b) := rfl
theorem v_ne : neE Fa Fb ρ = (Fa ρ >>= fun a => Fb ρ >>= fun b => neD a b) := rfl
theorem v_in : inE Fa Fb ρ = (Fa ρ >>= fun a => Fb ρ >>= fun b => memD false a b) := rfl
theorem v_nin : ninE Fa Fb ρ = (Fa ρ >>= fun a => Fb ρ >>= fun b => memD true a b) := rfl
theorem v_ix : ixE Fa Fb ρ = (Fa ρ >>= fun a => Fb ρ >>= fun b => ixD a b) := rfl
theorem v_plus : plusE Fa Fb ρ = (Fa ρ >>= fun a => Fb ρ >>= fun b => plusD a b) := rfl
theorem v_cat : catE Fa Fb ρ = (Fa ρ >>= fun a => Fb ρ >>= fun b => catD a b) := rfl
theorem v_rep : repE Fa Fb ρ = (Fa ρ >>= fun a => Fb ρ >>= fun b => repD a b) := rfl
theorem v_isN : isNE Fa ρ = (Fa ρ >>= fun a => .ok (.bl (isNonD a))) := rfl
theorem v_notN : notNE Fa ρ = (Fa ρ >>= fun a => .ok (.bl (!isNonD a))) := rfl
theorem v_len : lenE Fa ρ = (Fa ρ >>= lenD) := rfl
theorem v_neg : negE Fa ρ = (Fa ρ >>= negD) := rfl
theorem v_isi {c : Ty} : isiE c Fa ρ = (Fa ρ >>= isiD c) := rfl
theorem v_list : listE Fa ρ = (Fa ρ >>= listD) := rfl
theorem v_tuple : tupleE Fa ρ = (Fa ρ >>= tupleD) := rfl
theorem v_tupleL : tupleLE Fa ρ = (Fa ρ >>= tupleLD) := rfl
theorem v_fld {C f : Str} : fldE C f Fa ρ = (Fa ρ >>= fldD C f) := rfl
theorem v_fldI {C f : Str} : fldIE C f j i ρ = (varE i ρ >>= fldID C f j) := rfl
theorem v_all : allE Fa ρ = (Fa ρ >>= allD) := rfl
theorem v_any : anyE Fa ρ = (Fa ρ >>= anyD) := rfl
theorem v_sum : sumE Fa ρ = (Fa ρ >>= sumD) := rfl
theorem v_max2 : max2E Fa Fb ρ = (Fa ρ >>= fun a => Fb ρ >>= fun b => i2 (fun i j => .ok (.int (if j > i then j else i))) a b) := rfl
theorem v_min2 : min2E Fa Fb ρ = (Fa ρ >>= fun a => Fb ρ >>= fun b => i2 (fun i j => .ok (.int (if j < i then j else i))) a b) := rfl
theorem v_i2 {f : Int → Int → Rs Dt} {a b : Int} : i2 f (.int a) (.int b) = f a b := rfl
theorem v_addI {a b : Int} : addI a b = .ok (.int (a + b)) := rfl
theorem v_subI {a b : Int} : subI a b = .ok (.int (a - b)) := rfl
theorem v_mulL {a b : Int} (h : smallI a = true) : mulI a b = .ok (.int (a * b)) := by unfold mulI; rw [h]; rfl
theorem v_mulR {a b : Int} (h : smallI b = true) : mulI a b = .ok (.int (a * b)) := by unfold mulI; rw [h, Bool.or_true]; rfl
theorem divOk_of {b : Int} (h : 0 < b) (h2 : b < 1000000000000000000000000000000000000000000000000000000000000) : divOk b = true := by
  unfold divOk
  have : b.natAbs < 2 ^ 200 := Nat.lt_trans (show b.natAbs < 1000000000000000000000000000000000000000000000000000000000000 by omega) (by decide)
  rw [decide_eq_true h, decide_eq_true this]
  rfl
theorem v_divI {a b : Int} (h : divOk b = true) : divI a b = .ok (.int (a / b)) := by unfold divI; rw [if_pos h]
theorem v_modI {a b : Int} (h : 0 < b) : modI a b = .ok (.int (a % b)) := by unfold modI; rw [if_pos (decide_eq_true h)]
theorem v_ltI {a b : Int} : ltI a b = .ok (.bl (decide (a < b))) := rfl
theorem v_leI {a b : Int} : leI a b = .ok (.bl (decide (a ≤ b))) := rfl
theorem v_gtI {a b : Int} : gtI a b = .ok (.bl (decide (b < a))) := rfl
theorem v_geI {a b : Int} : geI a b = .ok (.bl (decide (b ≤ a))) := rfl
theorem v_negD {a : Int} : negD (.int a) = .ok (.int (-a)) := rfl
theorem deq_int {a b : Int} : deq (.int a) (.int b) = decide (a = b) := rfl
theorem v_eqI {a b : Int} : eqD (.int a) (.int b) = .ok (.bl (decide (a = b))) := rfl
theorem v_neI {a b : Int} : neD (.int a) (.int b) = .ok (.bl (!decide (a = b))) := rfl
theorem v_eqB {a b : Bool} : eqD (.bl a) (.bl b) = .ok (.bl (a == b)) := by cases a <;> cases b <;> rfl
theorem v_neB {a b : Bool} : neD (.bl a) (.bl b) = .ok (.bl (!(a == b))) := by cases a <;> cases b <;> rfl
theorem v_lenL {ds : List Dt} : lenD (.lst ds) = .ok (.int ds.length) := rfl
theorem v_lenC {ds : List Dt} : lenD (.scr ds) = .ok (.int ds.length) := rfl
theorem v_lenT {ds : List Dt} : lenD (.tup ds) = .ok (.int ds.length) := rfl
theorem v_ixL {ds : List Dt} {k : Int} (h : atI ds k = some d) : ixD (.lst ds) (.int k) = .ok d := by show (match atI ds k with | some d => (Rs.ok d : Rs Dt) | none => .no) = _; rw [h]
theorem v_ixC {ds : List Dt} {k : Int} (h : atI ds k = some d) : ixD (.scr ds) (.int k) = .ok d := by show (match atI ds k with | some d => (Rs.ok d : Rs Dt) | none => .no) = _; rw [h]
theorem v_ixT {ds : List Dt} {k : Int} (h : atI ds k = some d) : ixD (.tup ds) (.int k) = .ok d := by show (match atI ds k with | some d => (Rs.ok d : Rs Dt) | none => .no) = _; rw [h]
theorem atI_nat {α : Type} {xs : List α} {x : α} {k : Nat} (h : xs[k]? = some x) : atI xs (k : Int) = some x := by
  have hk := (List.getElem?_eq_some_iff.mp h).1
  have e : ixN xs.length (k : Int) = some k := by
    unfold ixN
    first | simp; omega | simp [hk]
  unfold atI
  rw [e]
  exact h
theorem atI_int {α : Type} {xs : List α} {x : α} {k : Int} (h0 : 0 ≤ k) (h : xs[k.toNat]? = some x) : atI xs k = some x := by
  have := atI_nat h
  rwa [Int.toNat_of_nonneg h0] at this
theorem v_listL {ds : List Dt} : listD (.lst ds) = .ok (.lst ds) := rfl
theorem v_listC {ds : List Dt} : listD (.scr ds) = .ok (.lst ds) := rfl
theorem v_listT {ds : List Dt} : listD (.tup ds) = .ok (.lst ds) := rfl
theorem v_tupL {ds : List Dt} : tupleD (.lst ds) = .ok (.tup ds) := rfl
theorem v_tupC {ds : List Dt} : tupleD (.scr ds) = .ok (.tup ds) := rfl
theorem v_tupT {ds : List Dt} : tupleD (.tup ds) = .ok (.tup ds) := rfl
theorem v_tupLL {ds : List Dt} : tupleLD (.lst ds) = .ok (.tup ds) := rfl
theorem v_plusI {a b : Int} : plusD (.int a) (.int b) = .ok (.int (a + b)) := rfl
theorem v_plusL {a b : List Dt} (h : lenSz (a.length + b.length) = true) : plusD (.lst a) (.lst b) = .ok (.lst (a ++ b)) := if_pos h
theorem v_plusT {a b : List Dt} (h : lenSz (a.length + b.length) = true) : plusD (.tup a) (.tup b) = .ok (.tup (a ++ b)) := if_pos h
theorem v_catL {a b : List Dt} (h : lenSz (a.length + b.length) = true) : catD (.lst a) (.lst b) = .ok (.lst (a ++ b)) := if_pos h
theorem v_slc {Fl Fh : Ev → Rs (Option Int)} : slcE Fa Fl Fh ρ = (Fa ρ >>= fun d => Fl ρ >>= fun l => Fh ρ >>= fun u => cutD d l u) := rfl
theorem v_slcL {Fl Fh : Ev → Rs (Option Int)} : slcLE Fa Fl Fh ρ = (Fa ρ >>= fun d => Fl ρ >>= fun l => Fh ρ >>= fun u => cutLD d l u) := rfl
theorem v_noPart : noPart ρ = .ok none := rfl
theorem v_partO : partO Fa ρ = (Fa ρ >>= asI) := rfl
theorem v_asI {a : Int} : asI (.int a) = .ok (some a) := rfl
theorem v_cutL {ds : List Dt} {lo hi : Option Int} : cutD (.lst ds) lo hi = .ok (.lst (cutL ds lo hi)) := rfl
theorem v_cutC {ds : List Dt} {lo hi : Option Int} : cutD (.scr ds) lo hi = .ok (.lst (cutL ds lo hi)) := rfl
theorem v_cutT {ds : List Dt} {lo hi : Option Int} : cutD (.tup ds) lo hi = .ok (.tup (cutL ds lo hi)) := rfl
theorem v_cutLL {ds : List Dt} {lo hi : Option Int} : cutLD (.lst ds) lo hi = .ok (.lst (cutL ds lo hi)) := rfl
theorem v_cutLC {ds : List Dt} {lo hi : Option Int} : cutLD (.scr ds) lo hi = .ok (.lst (cutL ds lo hi)) := rfl
/-! tests -/
theorem v_boolT : boolT Fa ρ = (Fa ρ >>= asB) := rfl
theorem v_notT : notT Ft ρ = (Ft ρ >>= fun b => .ok (!b)) := rfl
theorem v_andT : andT Ft Fu ρ = (Ft ρ >>= fun b => if b = true then Fu ρ else .ok false) := rfl
theorem v_orT : orT Ft Fu ρ = (Ft ρ >>= fun b => if b = true then .ok true else Fu ρ) := rfl
theorem v_yes : yesT ρ = .ok true := rfl
theorem v_andE : andE Fa Fb ρ = (Fa ρ >>= fun a => asB a >>= fun b => if b = true then Fb ρ else .ok (.bl false)) := rfl
theorem v_orE : orE Fa Fb ρ = (Fa ρ >>= fun a => asB a >>= fun b => if b = true then .ok (.bl true) else Fb ρ) := rfl
theorem v_notE : notE Fa ρ = (Fa ρ >>= fun a => asB a >>= fun b => .ok (.bl (!b))) := rfl
theorem v_ifE : ifE Ft Fa Fb ρ = (Ft ρ >>= fun b => if b = true then Fa ρ else Fb ρ) := rfl
theorem v_andOk {b c : Bool} : (if b = true then (Rs.ok c : Rs Bool) else .ok false) = .ok (b && c) := by cases b <;> rfl
theorem v_orOk {b c : Bool} : (if b = true then (Rs.ok true : Rs Bool) else .ok c) = .ok (b || c) := by cases b <;> rfl
theorem v_andOkE {b c : Bool} : (if b = true then (Rs.ok (.bl c) : Rs Dt) else .ok (.bl false)) = .ok (.bl (b && c)) := by cases b <;> rfl
theorem v_orOkE {b c : Bool} : (if b = true then (Rs.ok (.bl true) : Rs Dt) else .ok (.bl c)) = .ok (.bl (b || c)) := by cases b <;> rfl
theorem v_isB {b : Bool} : isiD .bool (.bl b) = .ok (.bl true) := rfl
theorem filter_none {α : Type} {p : α → Bool} {xs : List α} : decide (((xs.filter p).length : Int) = 0) = xs.all fun x => !p x := by
  induction xs with
  | nil => rfl
  | cons x xs ih =>
    cases q : p x with
    | true =>
      rw [List.filter_cons_of_pos q, List.all_cons, q, decide_eq_false (by rw [List.length_cons]; omega)]
      rfl
    | false =>
      rw [List.filter_cons_of_neg (by simp [q]), List.all_cons, q, ih]
      rfl
theorem v_asB {b : Bool} : asB (.bl b) = .ok b := rfl
/-! arguments, displays, calls -/
theorem v_args0 : argsE [] ρ = .ok [] := rfl
theorem v_args1 : argsE (Fa :: Fs) ρ = (Fa ρ >>= fun d => argsE Fs ρ >>= fun ds => .ok (d :: ds)) := rfl
theorem v_tup : tupE Fs ρ = (argsE Fs ρ >>= fun ds => .ok (.tup ds)) := rfl
theorem v_lst : lstE Fs ρ = (argsE Fs ρ >>= fun ds => .ok (.lst ds)) := rfl
theorem v_call {Fn : List Dt → Rs Dt} : callE Fn Fs ρ = (argsE Fs ρ >>= Fn) := rfl
theorem v_callB {Fn : List Dt → Rs Dt} : callBE Fn Fs ρ = (argsE Fs ρ >>= fun ds => scalR (Fn ds)) := rfl
theorem v_meth {C m : Str} {Fn : List Dt → Rs Dt} : methE C m Fn Fa Fs ρ = (Fa ρ >>= fun s => noMeth C m s >>= fun _ => argsE Fs ρ >>= fun ds => Fn (s :: ds)) := rfl
theorem v_methB {C m : Str} {Fn : List Dt → Rs Dt} : methBE C m Fn Fa Fs ρ = (Fa ρ >>= fun s => noMeth C m s >>= fun _ => argsE Fs ρ >>= fun ds => scalR (Fn (s :: ds))) := rfl
theorem v_scal : scalR (.ok d) = if scal d = true then .ok d else .no := rfl
theorem v_scalI {a : Int} : scal (.int a) = true := rfl
theorem v_scalB {a : Bool} : scal (.bl a) = true := rfl
theorem v_scalS {a : Str} : scal (.str a) = true := rfl
theorem v_scalN : scal .non = true := rfl
/-! what is walked -/
def rngD (ds : List Dt) : Rs (List Dt) := match ds with
  | [.int j] => if intSz j = true then .ok (rangeL 0 j.toNat) else .no
  | [.int i, .int j] => if (intSz i && intSz j) = true then .ok (rangeL i (j - i).toNat) else .no
  | _ => .no
theorem v_rng1 : rng1I [Fa] ρ = (Fa ρ >>= fun a => rngD [a]) := by
  unfold rng1I
  rw [v_args1]
  cases Fa ρ with
  | ok a => cases a <;> rfl
  | ex c => rfl
  | no => rfl
theorem v_rng2 : rng2I [Fa, Fb] ρ = (Fa ρ >>= fun a => Fb ρ >>= fun b => rngD [a, b]) := by
  unfold rng2I
  rw [v_args1, v_args1]
  cases Fa ρ with
  | ok a =>
    cases Fb ρ with
    | ok b => cases a <;> cases b <;> rfl
    | ex c => rfl
    | no => rfl
  | ex c => rfl
  | no => rfl
theorem v_rngD1 {a : Int} (h : intSz a = true) : rngD [.int a] = .ok (rangeL 0 a.toNat) := if_pos h
theorem v_rngD2 {a b : Int} (h : (intSz a && intSz b) = true) : rngD [.int a, .int b] = .ok (rangeL a (b - a).toNat) := if_pos h
def seqID (d : Dt) : Rs (List Dt) := match d with
  | .lst ds => .ok ds
  | .scr ds => .ok ds
  | .tup ds => .ok ds
  | _ => .no
/-- a tuple or a list -/
def sqD (b : Bool) (ds : List Dt) : Dt := if b = true then .tup ds else .lst ds
def tupID (d : Dt) : Rs (List Dt) := match d with
  | .tup ds => .ok ds
  | _ => .no
theorem v_seqI : seqI Fa ρ = (Fa ρ >>= seqID) := rfl
theorem v_tupI : tupI Fa ρ = (Fa ρ >>= tupID) := rfl
theorem v_seqL {ds : List Dt} : seqID (.lst ds) = .ok ds := rfl
theorem v_seqC {ds : List Dt} : seqID (.scr ds) = .ok ds := rfl
theorem v_seqT {ds : List Dt} : seqID (.tup ds) = .ok ds := rfl
theorem v_seqQ {b : Bool} {ds : List Dt} : seqID (sqD b ds) = .ok ds := by cases b <;> rfl
theorem v_lenQ {b : Bool} {ds : List Dt} : lenD (sqD b ds) = .ok (.int ds.length) := by cases b <;> rfl
theorem v_tupQ {b : Bool} {ds : List Dt} : tupleD (sqD b ds) = .ok (.tup ds) := by cases b <;> rfl
theorem v_ixQ {b : Bool} {ds : List Dt} {k : Int} (h : atI ds k = some d) : ixD (sqD b ds) (.int k) = .ok d := by
  cases b
  · exact v_ixL h
  · exact v_ixT h
theorem v_tupID {ds : List Dt} : tupID (.tup ds) = .ok ds := rfl
def zipD (ds : List Dt) : Rs (List Dt) := match ds with
  | [.lst a, .lst b] => .ok (zipL a b)
  | [.tup a, .tup b] => .ok (zipL a b)
  | _ => .no
theorem v_zipI : zipI Fs ρ = (argsE Fs ρ >>= zipD) := rfl
theorem v_zipL {a b : List Dt} : zipD [.lst a, .lst b] = .ok (zipL a b) := rfl
theorem v_zipT {a b : List Dt} : zipD [.tup a, .tup b] = .ok (zipL a b) := rfl
def enumD (ds : List Dt) : Rs (List Dt) := match ds with
  | [.lst a] => .ok (enumL 0 a)
  | [.scr a] => .ok (enumL 0 a)
  | _ => .no
theorem v_enumI : enumI Fs ρ = (argsE Fs ρ >>= enumD) := rfl
theorem v_enumL {a : List Dt} : enumD [.lst a] = .ok (enumL 0 a) := rfl
theorem v_enumC {a : List Dt} : enumD [.scr a] = .ok (enumL 0 a) := rfl
def revD (d : Dt) : Rs (List Dt) := match d with
  | .lst ds => .ok ds.reverse
  | .tup ds => .ok ds.reverse
  | _ => .no
theorem v_revI : revI Fa ρ = (Fa ρ >>= revD) := rfl
theorem v_revL {a : List Dt} : revD (.lst a) = .ok a.reverse := rfl
theorem v_revT {a : List Dt} : revD (.tup a) = .ok a.reverse := rfl
/-! comprehensions -/
def compR (FG : Dt → Ev → Option Ev) (Ft : Ev → Rs Bool) (Fe : Ev → Rs Dt) (ρ : Ev) (ds : List Dt) : Rs Dt := if lenSz ds.length = true then noEx (compL FG Ft Fe ρ ds) >>= fun ys => .ok (.lst ys) else .no
theorem v_comp {vs : List Nat} : compE Fi vs FG Ft Fe ρ = (Fi ρ >>= fun ds => compR FG Ft Fe (wipeE ρ vs) ds) := rfl
theorem v_wipe0 : wipeE ρ [] = ρ := rfl
theorem v_wipe1 {v : Nat} {vs : List Nat} : wipeE ρ (v :: vs) = (wipeE ρ vs).set v none := rfl
theorem compL_filter {α : Type} {g f : α → Dt} {p : α → Bool} : ∀ {xs : List α}, (∀ x, x ∈ xs → ∃ ρ1, FG (g x) ρ = some ρ1 ∧ Ft ρ1 = .ok (p x) ∧ (p x = true → Fe ρ1 = .ok (f x))) → compL FG Ft Fe ρ (xs.map g) = .ok ((xs.filter p).map f)
  | [], _ => rfl
  | x :: xs, h => by
    obtain ⟨ρ1, h1, h2, h3⟩ := h x List.mem_cons_self
    have ih := compL_filter (xs := xs) fun y hy => h y (List.mem_cons_of_mem _ hy)
    rw [List.map_cons]
    unfold compL
    simp only [h1, h2, ok_bind]
    cases q : p x with
    | true =>
      rw [if_pos rfl, h3 q, ok_bind, ih, ok_bind, List.filter_cons_of_pos q, List.map_cons]
    | false =>
      rw [if_neg (by simp), ih, List.filter_cons_of_neg (by simp [q])]
theorem comp_filter {α : Type} {g f : α → Dt} {p : α → Bool} {xs : List α} (hl : lenSz xs.length = true) (h : ∀ x, x ∈ xs → ∃ ρ1, FG (g x) ρ = some ρ1 ∧ Ft ρ1 = .ok (p x) ∧ (p x = true → Fe ρ1 = .ok (f x))) : compR FG Ft Fe ρ (xs.map g) = .ok (.lst ((xs.filter p).map f)) := by
  unfold compR
  rw [List.length_map, if_pos hl, compL_filter h]
  rfl
theorem comp_map {α : Type} {g f : α → Dt} {xs : List α} (hl : lenSz xs.length = true) (h : ∀ x, x ∈ xs → ∃ ρ1, FG (g x) ρ = some ρ1 ∧ Fe ρ1 = .ok (f x)) : compR FG yesT Fe ρ (xs.map g) = .ok (.lst (xs.map f)) := by
  have := comp_filter (Ft := yesT) (p := fun _ => true) hl fun x hx => by
    obtain ⟨ρ1, h1, h2⟩ := h x hx
    exact ⟨ρ1, h1, rfl, fun _ => h2⟩
  rw [this, List.filter_eq_self.mpr fun _ _ => rfl]
theorem compL_ex {α β : Type} {g : α → Dt} {f : β → Dt} {Q : α → β → Prop} : ∀ {xs : List α}, (∀ x, x ∈ xs → ∃ ρ1 b, FG (g x) ρ = some ρ1 ∧ Fe ρ1 = .ok (f b) ∧ Q x b) → ∃ bs : List β, bs.length = xs.length ∧ (∀ (i : Nat) (x : α) (b : β), xs[i]? = some x → bs[i]? = some b → Q x b) ∧ compL FG yesT Fe ρ (xs.map g) = .ok (bs.map f)
  | [], _ => ⟨[], rfl, fun _ _ _ h _ => by simp at h, rfl⟩
  | x :: xs, h => by
    obtain ⟨ρ1, b, h1, h2, h3⟩ := h x List.mem_cons_self
    obtain ⟨bs, q1, q2, q3⟩ := compL_ex (xs := xs) fun y hy => h y (List.mem_cons_of_mem _ hy)
    refine ⟨b :: bs, by rw [List.length_cons, List.length_cons, q1], fun i y c hx hb => ?_, ?_⟩
    · cases i with
      | zero =>
        have e1 : x = y := by simpa using hx
        have e2 : b = c := by simpa using hb
        subst e1 e2
        exact h3
      | succ i => exact q2 i y c (by simpa using hx) (by simpa using hb)
    · rw [List.map_cons]
      unfold compL
      simp only [h1, v_yes, ok_bind, if_true, h2, q3]
      rfl
theorem comp_ex {α β : Type} {g : α → Dt} {f : β → Dt} {Q : α → β → Prop} {xs : List α} (hl : lenSz xs.length = true) (h : ∀ x, x ∈ xs → ∃ ρ1 b, FG (g x) ρ = some ρ1 ∧ Fe ρ1 = .ok (f b) ∧ Q x b) : ∃ bs : List β, bs.length = xs.length ∧ (∀ (i : Nat) (x : α) (b : β), xs[i]? = some x → bs[i]? = some b → Q x b) ∧ compR FG yesT Fe ρ (xs.map g) = .ok (.lst (bs.map f)) := by
  obtain ⟨bs, q1, q2, q3⟩ := compL_ex h
  refine ⟨bs, q1, q2, ?_⟩
  unfold compR
  rw [List.length_map, if_pos hl, q3]
  rfl
theorem lenSz_of {n : Nat} (h : n ≤ 1000000) : lenSz n = true := by
  unfold lenSz
  exact decide_eq_true h
theorem intSz_of {a : Int} (h : -1000000000 ≤ a) (h2 : a ≤ 1000000000) : intSz a = true := by
  unfold intSz
  exact decide_eq_true ⟨h, h2⟩
theorem smallI_of {a : Int} (h : -9000000000000000000 ≤ a) (h2 : a ≤ 9000000000000000000) : smallI a = true := by
  unfold smallI
  rw [Bool.and_eq_true]
  exact ⟨decide_eq_true (by omega), decide_eq_true (by omega)⟩
theorem at_map {α β : Type} {f : α → β} {xs : List α} {k : Nat} {x : α} (h : xs[k]? = some x) : (xs.map f)[k]? = some (f x) := by rw [List.getElem?_map, h]; rfl
theorem of_at_map {α β : Type} {f : α → β} {xs : List α} {k : Nat} {y : β} (h : (xs.map f)[k]? = some y) : ∃ x, xs[k]? = some x ∧ y = f x := by
  rw [List.getElem?_map] at h
  cases e : xs[k]? with
  | none => rw [e] at h; cases h
  | some x => rw [e] at h; exact ⟨x, rfl, (Option.some.inj h).symm⟩
theorem at_of_lt {α : Type} {xs : List α} {k : Nat} (h : k < xs.length) : ∃ x, xs[k]? = some x ∧ x ∈ xs := ⟨xs[k], List.getElem?_eq_getElem h, List.getElem_mem h⟩
theorem lt_of_at {α : Type} {xs : List α} {k : Nat} {x : α} (h : xs[k]? = some x) : k < xs.length := (List.getElem?_eq_some_iff.mp h).1
theorem rangeL_at {lo : Int} {n k : Nat} {d : Dt} (h : (rangeL lo n)[k]? = some d) : k < n ∧ d = .int (lo + (k : Nat)) := by
  obtain ⟨x, h1, h2⟩ := of_at_map h
  have hk : k < n := by have := (List.getElem?_eq_some_iff.mp h1).1; simpa using this
  rw [List.getElem?_range hk] at h1
  cases h1
  exact ⟨hk, h2⟩
theorem rangeL0_at {n k : Nat} {d : Dt} (h : (rangeL 0 n)[k]? = some d) : k < n ∧ d = .int (k : Nat) := by
  obtain ⟨h1, h2⟩ := rangeL_at h
  rw [Int.zero_add] at h2
  exact ⟨h1, h2⟩
theorem rangeL0_map {n : Nat} : rangeL 0 n = (List.range n).map fun i => Dt.int (i : Nat) := by
  unfold rangeL
  congr 1
  funext i
  rw [Int.zero_add]
theorem rangeL_len {lo : Int} {n : Nat} : (rangeL lo n).length = n := by unfold rangeL; rw [List.length_map, List.length_range]
/-! statements -/
theorem v_assoc : seqS (seqS F1 F2) F3 ρ = seqS F1 (seqS F2 F3) ρ := by
  unfold seqS
  cases F1 ρ <;> rfl
theorem v_nx : seqS nextS rest ρ = rest ρ := rfl
theorem v_end : nextS ρ = .nx ρ := rfl
theorem bindS_seq {α : Type} {r : Rs α} {k : α → Ot} : (match bindS r ρ k with
  | .nx ρ1 => rest ρ1
  | o => o) = bindS r ρ fun a => match k a with
  | .nx ρ1 => rest ρ1
  | o => o := by
  cases r <;> rfl
theorem v_asg : seqS (asgS i Fe) rest ρ = bindS (Fe ρ) ρ fun d => rest (ρ.set i (some d)) := bindS_seq
theorem v_drop : seqS (dropS Fe) rest ρ = bindS (Fe ρ) ρ fun _ => rest ρ := bindS_seq
theorem v_ret : seqS (retS Fe) rest ρ = bindS (Fe ρ) ρ fun d => .rt d := bindS_seq
theorem v_retN : seqS retN rest ρ = .rt .non := rfl
theorem v_raise {c : Str} : seqS (raiS c) rest ρ = .ex (c, none) ρ := rfl
theorem v_brk : seqS brkS rest ρ = .bk ρ := rfl
theorem v_cnt : seqS cntS rest ρ = .ct ρ := rfl
def iteS (b : Bool) (F1 F2 rest : Ev → Ot) (ρ : Ev) : Ot := if b = true then seqS F1 rest ρ else seqS F2 rest ρ
theorem v_if : seqS (ifS Ft F1 F2) rest ρ = bindS (Ft ρ) ρ fun b => iteS b F1 F2 rest ρ := by
  refine bindS_seq.trans ?_
  cases Ft ρ with
  | ok b => cases b <;> rfl
  | _ => rfl
theorem v_iteT : iteS true F1 F2 rest ρ = seqS F1 rest ρ := rfl
theorem v_iteF : iteS false F1 F2 rest ρ = seqS F2 rest ρ := rfl
theorem wp_ite {b : Bool} (h : b = true → Post (seqS F1 rest ρ)) (k : b = false → Post (seqS F2 rest ρ)) : Post (iteS b F1 F2 rest ρ) := by
  cases b with
  | true => exact h rfl
  | false => exact k rfl
def JoinP (Post : Ot → Prop) (I : Ev → Prop) (o : Ot) : Prop := match o with
  | .nx ρ2 => I ρ2
  | .no => False
  | o => Post o
theorem wp_join {b : Bool} (I : Ev → Prop) (h : b = true → JoinP Post I (F1 ρ)) (k : b = false → JoinP Post I (F2 ρ)) (hk : ∀ ρ', I ρ' → Post (rest ρ')) : Post (iteS b F1 F2 rest ρ) := by
  have go : ∀ F : Ev → Ot, JoinP Post I (F ρ) → Post (seqS F rest ρ) := fun F z => by
    unfold seqS
    cases q : F ρ with
    | nx r => rw [q] at z; exact hk r z
    | rt r => rw [q] at z; exact z
    | bk r => rw [q] at z; exact z
    | ct r => rw [q] at z; exact z
    | ex c r => rw [q] at z; exact z
    | no => rw [q] at z; exact z.elim
  cases b with
  | true => exact go _ (h rfl)
  | false => exact go _ (k rfl)
def asgR (FG : Dt → Ev → Option Ev) (rest : Ev → Ot) (ρ : Ev) (d : Dt) : Ot := match FG d ρ with
  | some ρ' => rest ρ'
  | none => .no
theorem v_asgG : seqS (asgG FG Fe) rest ρ = bindS (Fe ρ) ρ fun d => asgR FG rest ρ d := by
  refine bindS_seq.trans ?_
  congr 1
  funext d
  unfold asgR
  cases FG d ρ <;> rfl
theorem v_asgR {ρ' : Ev} (h : FG d ρ = some ρ') : asgR FG rest ρ d = rest ρ' := by unfold asgR; rw [h]
theorem v_nameG : nameG i d ρ = some (ρ.set i (some d)) := rfl
theorem v_tupG {n : Nat} {fs : List Dt → Ev → Option Ev} {ds : List Dt} (h : ds.length = n) : tupG n fs (.tup ds) ρ = fs ds ρ := if_pos h
theorem v_consG {f : Dt → Ev → Option Ev} {fs : List Dt → Ev → Option Ev} {ds : List Dt} : consG f fs (d :: ds) ρ = (f d ρ).bind fun ρ1 => fs ds ρ1 := rfl
theorem v_nilG : nilG [] ρ = some ρ := rfl
theorem v_newF {C f : Str} {ns : List Str} {ds : List Dt} (hf : fix f ns = none) (hl : ns.length < 100) : seqS (newF C f 0 Fe) rest (some (.ins C ns ds) :: ρ) = bindS (Fe (some (.ins C ns ds) :: ρ)) (some (.ins C ns ds) :: ρ) fun y => rest (some (.ins C (ns ++ [f]) (ds ++ [y])) :: ρ) := by
  have e : newF C f 0 Fe (some (.ins C ns ds) :: ρ) = bindS (Fe (some (.ins C ns ds) :: ρ)) (some (.ins C ns ds) :: ρ) fun y => .nx (some (.ins C (ns ++ [f]) (ds ++ [y])) :: ρ) := by
    show (if C = C then newF0 f 0 Fe (some (.ins C ns ds) :: ρ) else .no) = _
    rw [if_pos rfl]
    unfold newF0
    congr 1
    funext y
    show (if fix f ns = none ∧ ns.length < 100 then Ot.nx _ else .no) = _
    rw [if_pos ⟨hf, hl⟩]
    rfl
  unfold seqS
  rw [e]
  exact bindS_seq
theorem v_outI {d : Dt} : outI (.nx (some d :: ρ)) = .ok d := rfl
theorem v_outIX {c : Xn} : outI (.ex c ρ) = .ex c := rfl
def tryR (subs : List (Str × Bool)) (Fh rest : Ev → Ot) (o : Ot) : Ot := match o with
  | .ex c ρ' => (match subs.lookup c.1 with
    | some true => seqS (fun r => noX (Fh r)) rest ρ'
    | some false => .ex c ρ'
    | none => .no)
  | .nx ρ' => rest ρ'
  | o => o
theorem v_try {subs : List (Str × Bool)} {Fb Fh : Ev → Ot} : seqS (tryS subs Fb Fh) rest ρ = tryR subs Fh rest (Fb ρ) := by
  show (match tryS subs Fb Fh ρ with
    | .nx ρ1 => rest ρ1
    | o => o) = _
  unfold tryS tryR
  cases Fb ρ with
  | ex c r =>
    show (match (match subs.lookup c.1 with
      | some true => noX (Fh r)
      | some false => .ex c r
      | none => .no) with
      | .nx ρ1 => rest ρ1
      | o => o) = (match subs.lookup c.1 with
      | some true => seqS (fun r => noX (Fh r)) rest r
      | some false => .ex c r
      | none => .no)
    cases subs.lookup c.1 with
    | none => rfl
    | some b => cases b <;> rfl
  | _ => rfl
theorem v_tryN {subs : List (Str × Bool)} {Fh : Ev → Ot} : tryR subs Fh rest (.nx ρ) = rest ρ := rfl
theorem v_tryT {subs : List (Str × Bool)} {Fh : Ev → Ot} {c : Xn} (h : subs.lookup c.1 = some true) : tryR subs Fh rest (.ex c ρ) = seqS (fun r => noX (Fh r)) rest ρ := by
  unfold tryR
  simp only [h]
theorem v_tryF {subs : List (Str × Bool)} {Fh : Ev → Ot} {c : Xn} (h : subs.lookup c.1 = some false) : tryR subs Fh rest (.ex c ρ) = .ex c ρ := by
  unfold tryR
  simp only [h]
theorem v_tryRt {subs : List (Str × Bool)} {Fh : Ev → Ot} : tryR subs Fh rest (.rt d) = .rt d := rfl
/-! places -/
def appR (rest : Ev → Ot) (y : Dt) (x : Dt × (Dt → Ev)) : Ot := match x.1 with
  | .lst ds => if lenSz ds.length = true then rest (x.2 (.lst (ds ++ [y]))) else .no
  | _ => .no
theorem v_app {Fp : Ev → Rs (Dt × (Dt → Ev))} : seqS (appS Fp Fe) rest ρ = bindS (Fp ρ) ρ fun x => bindS (lstOf x.1) ρ fun _ => bindS (Fe ρ) ρ fun y => appR rest y x := by
  refine bindS_seq.trans ?_
  congr 1
  funext x
  obtain ⟨a, p⟩ := x
  cases a with
  | lst ds =>
    show (match bindS (Fe ρ) ρ (fun y => if lenSz ds.length = true then Ot.nx (p (.lst (ds ++ [y]))) else .no) with
      | .nx ρ1 => rest ρ1
      | o => o) = _
    rw [bindS_seq]
    show _ = bindS (Fe ρ) ρ fun y => appR rest y (.lst ds, p)
    congr 1
    funext y
    show _ = if lenSz ds.length = true then rest (p (.lst (ds ++ [y]))) else .no
    cases lenSz ds.length <;> rfl
  | _ => rfl
theorem v_lstOf {ds : List Dt} : lstOf (.lst ds) = .ok ds := rfl
theorem v_appR {ds : List Dt} {p : Dt → Ev} {y : Dt} (h : lenSz ds.length = true) : appR rest y (.lst ds, p) = rest (p (.lst (ds ++ [y]))) := if_pos h
theorem v_varP {x : Option Dt} (h : ρ[i]? = some (some d)) : varP i ρ = .ok (d, fun x => ρ.set i (some x)) := by unfold varP; rw [h]
theorem v_varP0 : varP 0 (some d :: ρ) = .ok (d, fun x => some x :: ρ) := rfl
theorem v_varPS {y : Option Dt} : varP (i + 1) (y :: ρ) = (varP i ρ >>= fun p => .ok (p.1, fun x => y :: p.2 x)) := by
  unfold varP
  rw [List.getElem?_cons_succ]
  cases ρ[i]? with
  | none => rfl
  | some o => cases o <;> rfl
def setR (rest : Ev → Ot) (y : Dt) (x : Dt × (Dt → Ev)) (k : Dt) : Ot := match x.1, k with
  | .lst ds, .int i => (match ixN ds.length i with
    | some j => rest (x.2 (.lst (ds.set j y)))
    | none => .no)
  | _, _ => .no
theorem v_set {Fp : Ev → Rs (Dt × (Dt → Ev))} : seqS (setS Fe Fp Fa) rest ρ = bindS (Fe ρ) ρ fun y => bindS (Fp ρ) ρ fun x => bindS (Fa ρ) ρ fun k => setR rest y x k := by
  refine bindS_seq.trans ?_
  congr 1
  funext y
  rw [bindS_seq]
  congr 1
  funext x
  rw [bindS_seq]
  congr 1
  funext k
  obtain ⟨a, p⟩ := x
  cases a with
  | lst ds =>
    cases k with
    | int n =>
      show _ = (match ixN ds.length n with
        | some j => rest (p (.lst (ds.set j y)))
        | none => .no)
      show (match (match ixN ds.length n with
        | some j => Ot.nx (p (.lst (ds.set j y)))
        | none => .no) with
        | .nx ρ1 => rest ρ1
        | o => o) = _
      cases ixN ds.length n <;> rfl
    | _ => rfl
  | _ => cases k <;> rfl
theorem v_setR {ds : List Dt} {p : Dt → Ev} {y : Dt} {k : Nat} (h : k < ds.length) : setR rest y (.lst ds, p) (.int (k : Int)) = rest (p (.lst (ds.set k y))) := by
  have e : ixN ds.length (k : Int) = some k := by
    unfold ixN
    first | simp; omega | simp [h]
  show (match ixN ds.length (k : Int) with
    | some j => rest (p (.lst (ds.set j y)))
    | none => .no) = _
  rw [e]
/-! loops -/
def forR (FG : Dt → Ev → Option Ev) (Fb rest : Ev → Ot) (ds : List Dt) (ρ : Ev) : Ot := match forL FG Fb ds ρ with
  | .nx ρ1 => rest ρ1
  | o => o
theorem v_for : seqS (forS Fi FG F1) rest ρ = bindS (Fi ρ) ρ fun ds => forR FG F1 rest ds ρ := bindS_seq
def LoopP (Post : Ot → Prop) (rest : Ev → Ot) (I : Ev → Prop) (o : Ot) : Prop := match o with
  | .nx ρ2 => I ρ2
  | .ct ρ2 => I ρ2
  | .bk ρ2 => Post (rest ρ2)
  | .no => False
  | o => Post o
theorem forR_cons {ds : List Dt} {ρ1 : Ev} (h1 : FG d ρ = some ρ1) : forR FG F1 rest (d :: ds) ρ = (match F1 ρ1 with
  | .nx r => forR FG F1 rest ds r
  | .ct r => forR FG F1 rest ds r
  | .bk r => rest r
  | o => o) := by
  unfold forR
  simp only [forL, h1]
  cases F1 ρ1 <;> rfl
theorem wp_for {ds : List Dt} (I : Nat → Ev → Prop) (h0 : I 0 ρ) (hs : ∀ n d ρ, ds[n]? = some d → I n ρ → ∃ ρ1, FG d ρ = some ρ1 ∧ LoopP Post rest (I (n + 1)) (F1 ρ1)) (hk : ∀ ρ', I ds.length ρ' → Post (rest ρ')) : Post (forR FG F1 rest ds ρ) := by
  have main : ∀ (es : List Dt) (n : Nat) (ρ : Ev), ds.drop n = es → n ≤ ds.length → I n ρ → Post (forR FG F1 rest es ρ) := by
    intro es
    induction es with
    | nil =>
      intro n ρ hd hn hI
      have : n = ds.length := by
        have := congrArg List.length hd
        rw [List.length_drop] at this
        simp at this
        omega
      subst this
      exact hk ρ hI
    | cons e es ih =>
      intro n ρ hd hn hI
      have hlt : n < ds.length := by
        have := congrArg List.length hd
        rw [List.length_drop] at this
        simp at this
        omega
      have hd2 := List.drop_eq_getElem_cons hlt
      rw [hd] at hd2
      have he : ds[n]? = some e := by
        rw [List.getElem?_eq_getElem hlt]
        exact congrArg some (List.cons.inj hd2).1.symm
      obtain ⟨ρ1, h1, h2⟩ := hs n e ρ he hI
      have nxt := fun ρ2 (q : I (n + 1) ρ2) => ih (n + 1) ρ2 (List.cons.inj hd2).2.symm hlt q
      rw [forR_cons h1]
      cases q : F1 ρ1 with
      | nx r => rw [q] at h2; exact nxt r h2
      | ct r => rw [q] at h2; exact nxt r h2
      | bk r => rw [q] at h2; exact h2
      | rt r => rw [q] at h2; exact h2
      | ex c r => rw [q] at h2; exact h2
      | no => rw [q] at h2; exact h2.elim
  exact main ds 0 ρ rfl (Nat.zero_le _) h0
theorem wp_comp1 {α β : Type} {ds : List Dt} {ρ' : Ev} {k : Dt → Ot} (xs : List α) (g : α → Dt) (f : β → Dt) (Q : α → β → Prop) (hd : ds = xs.map g) (hl : lenSz xs.length = true) (h : ∀ x, x ∈ xs → ∃ ρ1 b, FG (g x) ρ = some ρ1 ∧ Fe ρ1 = .ok (f b) ∧ Q x b)
    (hk : ∀ bs : List β, bs.length = xs.length → (∀ (i : Nat) (x : α) (b : β), xs[i]? = some x → bs[i]? = some b → Q x b) → Post (k (.lst (bs.map f)))) : Post (bindS (compR FG yesT Fe ρ ds) ρ' k) := by
  obtain ⟨bs, h1, h2, h3⟩ := comp_ex hl h
  rw [hd, h3]
  exact hk bs h1 h2
theorem wp_comp2 {α β : Type} {ds : List Dt} {ρ' : Ev} {γ : Type} {f2 : Dt → Rs γ} {k : γ → Ot} (xs : List α) (g : α → Dt) (f : β → Dt) (Q : α → β → Prop) (hd : ds = xs.map g) (hl : lenSz xs.length = true) (h : ∀ x, x ∈ xs → ∃ ρ1 b, FG (g x) ρ = some ρ1 ∧ Fe ρ1 = .ok (f b) ∧ Q x b)
    (hk : ∀ bs : List β, bs.length = xs.length → (∀ (i : Nat) (x : α) (b : β), xs[i]? = some x → bs[i]? = some b → Q x b) → Post (bindS (f2 (.lst (bs.map f))) ρ' k)) : Post (bindS (compR FG yesT Fe ρ ds >>= f2) ρ' k) := by
  obtain ⟨bs, h1, h2, h3⟩ := comp_ex hl h
  rw [hd, h3]
  exact hk bs h1 h2
theorem all_of {α β : Type} {xs : List α} {bs : List β} {Q : α → β → Prop} {R : β → Prop} (hl : bs.length = xs.length) (h : ∀ (i : Nat) (x : α) (b : β), xs[i]? = some x → bs[i]? = some b → Q x b) (hr : ∀ x b, Q x b → R b) : ∀ b ∈ bs, R b := fun b hb => by
  obtain ⟨i, hi, rfl⟩ := List.mem_iff_getElem.mp hb
  exact hr _ _ (h i _ _ (List.getElem?_eq_getElem (by rw [← hl]; exact hi)) (List.getElem?_eq_getElem hi))
theorem rangeL_map {lo : Int} {n : Nat} : rangeL lo n = (List.range n).map fun i => Dt.int (lo + (i : Nat)) := rfl
theorem bindS_ex {α : Type} {c : Xn} {k : α → Ot} : bindS (.ex c) ρ k = .ex c ρ := rfl
theorem v_outR {m : Mode} : outF m (.rt d) = .ok d := rfl
theorem v_outX {m : Mode} {c : Xn} : outF m (.ex c ρ) = .ex c := rfl
theorem v_outN : outF .F (.nx ρ) = .ok .non := rfl
end
theorem sIx_nat {len : Nat} {dflt : Nat} (k : Nat) : HT.sIx len dflt (some (k : Int)) = min k len := by
  unfold HT.sIx
  simp
  omega
theorem cut_take {α : Type} {xs : List α} (k : Nat) : cutL xs none (some (k : Int)) = xs.take k := by
  unfold cutL
  rw [sIx_nat]
  show (xs.drop 0).take (min k xs.length - 0) = _
  rw [List.drop_zero, Nat.sub_zero, ← List.take_take, List.take_length]
theorem cut_drop {α : Type} {xs : List α} (k : Nat) : cutL xs (some (k : Int)) none = xs.drop k := by
  unfold cutL
  rw [sIx_nat]
  show (xs.drop (min k xs.length)).take (xs.length - min k xs.length) = _
  rw [List.take_of_length_le (by rw [List.length_drop]; exact Nat.le_refl _)]
  by_cases h : k ≤ xs.length
  · rw [Nat.min_eq_left h]
  · rw [Nat.min_eq_right (by omega), List.drop_length, List.drop_of_length_le (by omega)]
theorem zipL_map {α β : Type} {f : α → Dt} {g : β → Dt} : ∀ {as : List α} {bs : List β}, zipL (as.map f) (bs.map g) = (as.zip bs).map fun q => .tup [f q.1, g q.2]
  | [], _ => rfl
  | a :: as, [] => rfl
  | a :: as, b :: bs => by
    rw [List.map_cons, List.map_cons, zipL, zipL_map, List.zip_cons_cons, List.map_cons]
theorem v_allL {bs : List Bool} : allD (.lst (bs.map Dt.bl)) = .ok (.bl (bs.all id)) := by
  show (match blsOf (bs.map Dt.bl) with | some bs => Rs.ok (Dt.bl (bs.all id)) | none => .no) = _
  rw [blsOf_map]
theorem v_anyL {bs : List Bool} : anyD (.lst (bs.map Dt.bl)) = .ok (.bl (bs.any id)) := by
  show (match blsOf (bs.map Dt.bl) with | some bs => Rs.ok (Dt.bl (bs.any id)) | none => .no) = _
  rw [blsOf_map]
theorem v_sumL {bs : List Int} : sumD (.lst (bs.map Dt.int)) = .ok (.int bs.sum) := by
  show (match intsOf (bs.map Dt.int) with | some bs => Rs.ok (Dt.int bs.sum) | none => .no) = _
  rw [intsOf_map]
theorem ix_ints {vs : List Int} {k : Int} (h0 : 0 ≤ k) (h1 : k < vs.length) : ∃ v, v ∈ vs ∧ atI (vs.map Dt.int) k = some (.int v) := by
  obtain ⟨v, hv, hm⟩ := at_of_lt (xs := vs) (k := k.toNat) (by omega)
  exact ⟨v, hm, atI_int h0 (at_map hv)⟩
theorem v_eqS {a b : Str} (ha : eqOK (.str a) = true) (hb : eqOK (.str b) = true) : eqD (.str a) (.str b) = .ok (.bl (decide (a = b))) := by
  unfold eqD
  rw [ha, hb]
  rfl
theorem v_neS {a b : Str} (ha : eqOK (.str a) = true) (hb : eqOK (.str b) = true) : neD (.str a) (.str b) = .ok (.bl (!decide (a = b))) := by
  unfold neD
  rw [ha, hb]
  rfl
theorem v_isI {a : Int} : isiD .int (.int a) = .ok (.bl true) := rfl
theorem v_isIB {a : Int} : isiD .bool (.int a) = .ok (.bl false) := rfl
section
variable {ρ : Ev} {d : Dt} {Fa Fb : Ev → Rs Dt}
theorem v_divmod : divmodE Fa Fb ρ = (Fa ρ >>= fun a => Fb ρ >>= fun b => dvmD a b) := rfl
theorem dvmOk_of {b : Int} (h : 0 < b) (h2 : b < 1073741824) : dvmOk b = true := by
  unfold dvmOk
  rw [decide_eq_true h, decide_eq_true h2]
  rfl
theorem v_dvm {i j : Int} (h : dvmOk j = true) : dvmD (.int i) (.int j) = .ok (.tup [.int (i / j), .int (i % j)]) := if_pos h
theorem v_tupRev : tupRevE Fa ρ = (Fa ρ >>= trevD) := rfl
theorem v_trev {ds : List Dt} : trevD (.lst ds) = .ok (.tup ds.reverse) := rfl
theorem v_lrev : lrevE Fa ρ = (Fa ρ >>= lrevD) := rfl
theorem v_lrevL {ds : List Dt} : lrevD (.lst ds) = .ok (.lst ds.reverse) := rfl
theorem v_dnew : dnewE ρ = .ok (.dic [] []) := rfl
theorem v_dnewT : dnewTE ρ = .ok (.dit [] []) := rfl
theorem v_din {neg : Bool} : dinE neg Fa Fb ρ = (Fa ρ >>= fun k => Fb ρ >>= fun d => dgetD d k >>= fun o => .ok (.bl (if neg = true then !o.isSome else o.isSome))) := rfl
theorem v_dget : dgetE Fa Fb ρ = (Fa ρ >>= fun d => Fb ρ >>= fun k => dgetD d k >>= fun o => match o with | some e => .ok e | none => .no) := rfl
theorem v_scalE : scalE Fa ρ = (Fa ρ >>= fun d => if scal d = true then .ok d else .no) := rfl
theorem v_dlen : dlenE Fa ρ = (Fa ρ >>= dlenD) := rfl
theorem v_dlenT : dlenTE Fa ρ = (Fa ρ >>= dlenTD) := rfl
theorem v_dlenD {ks : List Key} {ds : List Dt} : dlenD (.dic ks ds) = .ok (.int ks.length) := rfl
theorem v_dlenTD {ks : List (List Key)} {ds : List Dt} : dlenTD (.dit ks ds) = .ok (.int ks.length) := rfl
theorem v_dgetT {ks : List (List Key)} {ds : List Dt} {k : Dt} {x : List Key} (h : keyD k = some (.inr x)) : dgetD (.dit ks ds) k = .ok (lookK ks ds x) := by
  unfold dgetD
  rw [h]
theorem v_dgetI {ks : List Key} {ds : List Dt} {i : Int} : dgetD (.dic ks ds) (.int i) = .ok (lookK ks ds (.inl i)) := rfl
theorem v_dgetS {ks : List Key} {ds : List Dt} {x : Str} : dgetD (.dic ks ds) (.str x) = .ok (lookK ks ds (.inr x)) := rfl
def dputR (rest : Ev → Ot) (y : Dt) (x : Dt × (Dt → Ev)) (k : Dt) : Ot := match dputD x.1 k y with
  | some d => rest (x.2 d)
  | none => .no
theorem v_dput {Fp : Ev → Rs (Dt × (Dt → Ev))} {Fk : Ev → Rs Dt} {rest : Ev → Ot} : seqS (dputS Fa Fp Fk) rest ρ = bindS (Fa ρ) ρ fun y => bindS (Fp ρ) ρ fun x => bindS (Fk ρ) ρ fun k => dputR rest y x k := by
  refine bindS_seq.trans ?_
  congr 1
  funext y
  rw [bindS_seq]
  congr 1
  funext x
  rw [bindS_seq]
  congr 1
  funext k
  unfold dputR
  cases dputD x.1 k y <;> rfl
theorem v_dputT {rest : Ev → Ot} {ks : List (List Key)} {ds : List Dt} {p : Dt → Ev} {y k : Dt} {x : List Key} (hk : keyD k = some (.inr x)) (h : lenSz ks.length = true) : dputR rest y (.dit ks ds, p) k = rest (p (.dit (putKs ks x) (putDs ks ds x y))) := by
  unfold dputR dputD
  simp only [hk, h, if_true]
theorem v_dputI {rest : Ev → Ot} {ks : List Key} {ds : List Dt} {p : Dt → Ev} {y : Dt} {i : Int} (h : lenSz ks.length = true) : dputR rest y (.dic ks ds, p) (.int i) = rest (p (.dic (putKs ks (.inl i)) (putDs ks ds (.inl i) y))) := by
  unfold dputR dputD
  simp only [keyD, h, if_true]
theorem lookK_none {κ α : Type} [DecidableEq κ] {k : κ} : ∀ {ks : List κ} {ds : List α}, hasK ks k = false → lookK ks ds k = none
  | [], _, _ => rfl
  | _ :: _, [], _ => rfl
  | a :: ks, d :: ds, h => by
    have h : (decide (a = k) || hasK ks k) = false := h
    rw [Bool.or_eq_false_iff] at h
    have ih := lookK_none (ks := ks) (ds := ds) h.2
    unfold lookK at ih ⊢
    rw [List.zip_cons_cons, List.find?_cons_of_neg (by simpa using of_decide_eq_false h.1)]
    exact ih
theorem keyD_ints (ws : List Int) : keyD (.tup (ws.map Dt.int)) = some (.inr (ws.map Sum.inl)) := by
  have : flatKs (ws.map Dt.int) = some (ws.map Sum.inl) := by
    induction ws with
    | nil => rfl
    | cons w ws ih => rw [List.map_cons, flatKs, ih]; rfl
  show (flatKs (ws.map Dt.int)).map (Sum.inr : List Key → Key ⊕ List Key) = _
  rw [this]
  rfl
end
end Pm
namespace Pm
open PySem PySem.Spec L2
/-! ### reckoning, with conditions that omega shows -/
section
variable {ρ : Ev} {d a b c : Dt} {i j : Nat} {Fa Fb Fc Fe : Ev → Rs Dt} {Fs : List (Ev → Rs Dt)} {Ft Fu : Ev → Rs Bool} {F1 F2 F3 rest : Ev → Ot} {Post : Ot → Prop} {FG : Dt → Ev → Option Ev} {Fi : Ev → Rs (List Dt)} {ds es : List Dt} {vs : List Nat}
theorem v_fgt : fgtS vs F1 ρ = F1 (wipeE ρ vs) := rfl
def optR {α : Type} (o : Option α) : Rs α := match o with
  | some x => .ok x
  | none => .no
theorem x_optS {α : Type} {x : α} : optR (some x) = .ok x := rfl
theorem atI_natO {α : Type} {xs : List α} {k : Nat} : atI xs (k : Int) = xs[k]? := by
  cases h : xs[k]? with
  | some x => exact atI_nat h
  | none =>
    have hk : xs.length ≤ k := List.getElem?_eq_none_iff.mp h
    have e : ixN xs.length (k : Int) = none := by
      unfold ixN
      first | simp; omega | simp [hk]
    unfold atI
    rw [e]
    rfl
theorem atI_intO {α : Type} {xs : List α} {k : Int} (h : 0 ≤ k) : atI xs k = xs[k.toNat]? := by
  have := atI_natO (xs := xs) (k := k.toNat)
  rwa [Int.toNat_of_nonneg h] at this
theorem atI_last {α : Type} {xs : List α} : atI xs (-1) = xs.getLast? := by
  have e : ixN xs.length (-1) = if xs.length = 0 then none else some (xs.length - 1) := by
    unfold ixN
    by_cases h : xs.length = 0
    · rw [if_pos h]
      first | simp [h] | simp; omega
    · rw [if_neg h]
      first | simp; omega | simp [h]
  unfold atI
  rw [e]
  by_cases h : xs.length = 0
  · rw [if_pos h]
    have : xs = [] := List.eq_nil_of_length_eq_zero h
    subst this
    rfl
  · rw [if_neg h, List.getLast?_eq_getElem?]
    rfl
theorem x_ixL : ixD (.lst ds) (.int k) = optR (atI ds k) := by
  show (match atI ds k with | some d => (Rs.ok d : Rs Dt) | none => .no) = _
  cases atI ds k <;> rfl
theorem x_ixT {k : Int} : ixD (.tup ds) (.int k) = optR (atI ds k) := by
  show (match atI ds k with | some d => (Rs.ok d : Rs Dt) | none => .no) = _
  cases atI ds k <;> rfl
theorem x_ixC {k : Int} : ixD (.scr ds) (.int k) = optR (atI ds k) := by
  show (match atI ds k with | some d => (Rs.ok d : Rs Dt) | none => .no) = _
  cases atI ds k <;> rfl
theorem x_ixLn {k : Nat} : ixD (.lst ds) (.int (k : Nat)) = optR ds[k]? := by rw [x_ixL, atI_natO]
theorem x_ixTn {k : Nat} : ixD (.tup ds) (.int (k : Nat)) = optR ds[k]? := by rw [x_ixT, atI_natO]
theorem x_ixCn {k : Nat} : ixD (.scr ds) (.int (k : Nat)) = optR ds[k]? := by rw [x_ixC, atI_natO]
theorem x_ixLm : ixD (.lst ds) (.int (-1)) = optR ds.getLast? := by rw [x_ixL, atI_last]
theorem x_ixTm : ixD (.tup ds) (.int (-1)) = optR ds.getLast? := by rw [x_ixT, atI_last]
theorem x_ixLi {k : Int} (h : 0 ≤ k) : ixD (.lst ds) (.int k) = optR ds[k.toNat]? := by rw [x_ixL, atI_intO h]
theorem x_ixTi {k : Int} (h : 0 ≤ k) : ixD (.tup ds) (.int k) = optR ds[k.toNat]? := by rw [x_ixT, atI_intO h]
theorem x_ixCi {k : Int} (h : 0 ≤ k) : ixD (.scr ds) (.int k) = optR ds[k.toNat]? := by rw [x_ixC, atI_intO h]
theorem x_t0 : ixD (.tup (a :: ds)) (.int 0) = .ok a := v_ixT (atI_nat (k := 0) rfl)
theorem x_t1 : ixD (.tup (a :: b :: ds)) (.int 1) = .ok b := v_ixT (atI_nat (k := 1) rfl)
theorem x_t2 : ixD (.tup (a :: b :: c :: ds)) (.int 2) = .ok c := v_ixT (atI_nat (k := 2) rfl)
theorem x_t3 : ixD (.tup (a :: b :: c :: d :: ds)) (.int 3) = .ok d := v_ixT (atI_nat (k := 3) rfl)
theorem x_l0 : ixD (.lst (a :: ds)) (.int 0) = .ok a := v_ixL (atI_nat (k := 0) rfl)
theorem x_mulA {x y : Int} (h1 : -9000000000000000000 ≤ x) (h2 : x ≤ 9000000000000000000) : mulI x y = .ok (.int (x * y)) := v_mulL (smallI_of h1 h2)
theorem x_mulB {x y : Int} (h1 : -9000000000000000000 ≤ y) (h2 : y ≤ 9000000000000000000) : mulI x y = .ok (.int (x * y)) := v_mulR (smallI_of h1 h2)
theorem x_divA {x y : Int} (h1 : 0 < y) (h2 : y < 1000000000000000000000000000000000000000000000000000000000000) : divI x y = .ok (.int (x / y)) := v_divI (divOk_of h1 h2)
theorem x_dvmA {x y : Int} (h1 : 0 < y) (h2 : y < 1073741824) : dvmD (.int x) (.int y) = .ok (.tup [.int (x / y), .int (x % y)]) := v_dvm (dvmOk_of h1 h2)
theorem x_modA {x y : Int} (h1 : 0 < y) : modI x y = .ok (.int (x % y)) := v_modI h1
theorem x_appA {p : Dt → Ev} {y : Dt} (h : ds.length ≤ 1000000) : appR rest y (.lst ds, p) = rest (p (.lst (ds ++ [y]))) := v_appR (lenSz_of h)
theorem x_setA {p : Dt → Ev} {y : Dt} {k : Nat} (h : k < ds.length) : setR rest y (.lst ds, p) (.int (k : Nat)) = rest (p (.lst (ds.set k y))) := v_setR h
theorem x_rngA1 {x : Int} (h : -1000000000 ≤ x) (h2 : x ≤ 1000000000) : rngD [.int x] = .ok (rangeL 0 x.toNat) := v_rngD1 (intSz_of h h2)
theorem x_rngA2 {x y : Int} (h : -1000000000 ≤ x) (h2 : x ≤ 1000000000) (h3 : -1000000000 ≤ y) (h4 : y ≤ 1000000000) : rngD [.int x, .int y] = .ok (rangeL x (y - x).toNat) := v_rngD2 (by rw [intSz_of h h2, intSz_of h3 h4]; rfl)
theorem x_plusA (h : ds.length + es.length ≤ 1000000) : plusD (.lst ds) (.lst es) = .ok (.lst (ds ++ es)) := v_plusL (lenSz_of h)
theorem x_plusT (h : ds.length + es.length ≤ 1000000) : plusD (.tup ds) (.tup es) = .ok (.tup (ds ++ es)) := v_plusT (lenSz_of h)
theorem x_catA (h : ds.length + es.length ≤ 1000000) : catD (.lst ds) (.lst es) = .ok (.lst (ds ++ es)) := v_catL (lenSz_of h)
section
variable {ρ : Ev} {d : Dt} {i j : Nat} {m : Mode} {Fa Fb Fe : Ev → Rs Dt} {Fs : List (Ev → Rs Dt)} {rest : Ev → Ot} {Fn : List Dt → Rs Dt} {Fp : Ev → Rs (Dt × (Dt → Ev))} {ds : List Dt}
theorem v_ltT : ltTE Fa Fb ρ = (Fa ρ >>= fun a => Fb ρ >>= fun b => tupLtD a b) := rfl
theorem v_gtT : gtTE Fa Fb ρ = (Fa ρ >>= fun a => Fb ρ >>= fun b => tupLtD b a) := rfl
theorem v_sortN : sortNE Fa ρ = (Fa ρ >>= sortND) := rfl
theorem v_sortI : sortIE Fa ρ = (Fa ρ >>= sortID) := rfl
theorem v_sortP : sortPE Fa ρ = (Fa ρ >>= sortPD) := rfl
theorem v_int1 : intE Fa ρ = (Fa ρ >>= intD) := rfl
theorem v_intI {a : Int} : intD (.int a) = .ok (.int a) := rfl
theorem v_intB {b : Bool} : intD (.bl b) = .ok (.int (if b = true then 1 else 0)) := rfl
theorem v_bm1 {g : List Dt → Dt → Rs Dt} : bm1E g Fa Fb ρ = (Fa ρ >>= fun a => lstOf a >>= fun ds => Fb ρ >>= fun b => g ds b) := rfl
theorem v_index : indexE Fa Fb ρ = (Fa ρ >>= fun a => lstOf a >>= fun ds => Fb ρ >>= fun b => indexD ds b) := rfl
theorem v_count : countE Fa Fb ρ = (Fa ρ >>= fun a => lstOf a >>= fun ds => Fb ρ >>= fun b => countD ds b) := rfl
theorem v_isCE {C : Str} : isCE C Fa ρ = (Fa ρ >>= isCD C) := rfl
theorem v_isBE {c : Bool} : isBE c Fa ρ = (Fa ρ >>= isBD c) := rfl
theorem v_isxT {tabs : List (List (Str × Bool))} {c : Str} : isxTE tabs c ρ = (match tabs.mapM fun t => t.lookup c with
  | some bs => .ok (.bl (bs.any id))
  | none => .no) := rfl
/-! try .. except X as n -/
def clrR (i : Nat) (rest : Ev → Ot) (o : Ot) : Ot := match o with
  | .nx ρ => rest (ρ.set i none)
  | .bk ρ => .bk (ρ.set i none)
  | .ct ρ => .ct (ρ.set i none)
  | .rt d => .rt d
  | _ => .no
def tryAR (i : Nat) (subs : List (Str × Bool)) (Fh : Str → Ev → Ot) (rest : Ev → Ot) (o : Ot) : Ot := match o with
  | .ex c ρ' => (match subs.lookup c.1 with
    | some true => (match c.2 with
      | none => clrR i rest (Fh c.1 (ρ'.set i none))
      | some _ => .no)
    | some false => .ex c ρ'
    | none => .no)
  | .nx ρ' => rest ρ'
  | o => o
theorem v_tryA {i : Nat} {subs : List (Str × Bool)} {Fb : Ev → Ot} {Fh : Str → Ev → Ot} : seqS (tryA i subs Fb Fh) rest ρ = tryAR i subs Fh rest (Fb ρ) := by
  show (match tryA i subs Fb Fh ρ with
    | .nx ρ1 => rest ρ1
    | o => o) = _
  unfold tryA tryAR
  cases Fb ρ with
  | ex c r =>
    obtain ⟨c1, c2⟩ := c
    dsimp only
    cases subs.lookup c1 with
    | none => rfl
    | some b =>
      cases b with
      | false => rfl
      | true =>
        cases c2 with
        | some _ => rfl
        | none =>
          dsimp only
          cases Fh c1 (r.set i none) <;> rfl
  | _ => rfl
theorem v_tryAN {i : Nat} {subs : List (Str × Bool)} {Fh : Str → Ev → Ot} : tryAR i subs Fh rest (.nx ρ) = rest ρ := rfl
theorem v_tryART {i : Nat} {subs : List (Str × Bool)} {Fh : Str → Ev → Ot} : tryAR i subs Fh rest (.rt d) = .rt d := rfl
theorem x_tryA {i : Nat} {subs : List (Str × Bool)} {Fh : Str → Ev → Ot} {c : Str} (h : subs.lookup c = some true) : tryAR i subs Fh rest (.ex (c, none) ρ) = clrR i rest (Fh c (ρ.set i none)) := by
  unfold tryAR
  simp only [h]
theorem v_clrN {i : Nat} : clrR i rest (.nx ρ) = rest (ρ.set i none) := rfl
theorem v_clrRt {i : Nat} : clrR i rest (.rt d) = .rt d := rfl
theorem isx_of {tab : List (Str × Bool)} {c : Str} {b : Bool} (h : tab.lookup c = some b) : isxE tab c ρ = .ok (.bl b) := by
  unfold isxE
  rw [h]
theorem isxT_of {tabs : List (List (Str × Bool))} {c : Str} {bs : List Bool} (h : (tabs.mapM fun t => t.lookup c) = some bs) : isxTE tabs c ρ = .ok (.bl (bs.any id)) := by
  rw [v_isxT, h]
def noXR (rest : Ev → Ot) (o : Ot) : Ot := match noX o with
  | .nx ρ1 => rest ρ1
  | o => o
theorem x_tryT {subs : List (Str × Bool)} {Fh : Ev → Ot} {c : Str} (h : subs.lookup c = some true) : tryR subs Fh rest (.ex (c, none) ρ) = noXR rest (Fh ρ) := v_tryT h
theorem x_tryF {subs : List (Str × Bool)} {Fh : Ev → Ot} {c : Str} (h : subs.lookup c = some false) : tryR subs Fh rest (.ex (c, none) ρ) = .ex (c, none) ρ := v_tryF h
theorem v_noXN : noXR rest (.nx ρ) = rest ρ := rfl
theorem v_noXRt : noXR rest (.rt d) = .rt d := rfl
theorem v_fgtSeq : seqS (fgtS vs F1) rest ρ = seqS F1 rest (wipeE ρ vs) := rfl
theorem v_inDt : inDE Fa Fb ρ = (Fa ρ >>= fun a => Fb ρ >>= fun b => inDD a b) := rfl
theorem v_callL : callLE m Fn Fs ρ = (argsE Fs ρ >>= fun ds => leafR m (Fn ds)) := rfl
theorem v_methL {C mm : Str} : methLE m C mm Fn Fa Fs ρ = (Fa ρ >>= fun s => noMeth C mm s >>= fun _ => argsE Fs ρ >>= fun ds => leafR m (Fn (s :: ds))) := rfl
theorem v_leafR : leafR m (.ok d) = if leafOk m d = true then .ok d else .no := rfl
theorem v_pop : seqS (popS Fp Fe) rest ρ = bindS (Fp ρ) ρ fun x => bindS (lstOf x.1) ρ fun ds => bindS (Fe ρ) ρ fun k => bindS (popD ds k) ρ fun y => rest (x.2 (.lst y.2)) := by
  refine bindS_seq.trans ?_
  congr 1; funext x
  rw [bindS_seq]
  congr 1; funext ds
  rw [bindS_seq]
  congr 1; funext k
  rw [bindS_seq]
theorem v_asgPop : seqS (asgPopS i Fp Fe) rest ρ = bindS (Fp ρ) ρ fun x => bindS (lstOf x.1) ρ fun ds => bindS (Fe ρ) ρ fun k => bindS (popD ds k) ρ fun y => rest ((x.2 (.lst y.2)).set i (some y.1)) := by
  refine bindS_seq.trans ?_
  congr 1; funext x
  rw [bindS_seq]
  congr 1; funext ds
  rw [bindS_seq]
  congr 1; funext k
  rw [bindS_seq]
def appPopR (rest : Ev → Ot) (b : Bool) (ρ1 : Ev) : Ot := if b = true then rest ρ1 else .no
theorem v_appPop : seqS (appPopS Fp j Fe) rest ρ = bindS (Fp ρ) ρ fun x => bindS (lstOf x.1) ρ fun ds => bindS (varE j ρ) ρ fun q => bindS (lstOf q) ρ fun xs => bindS (Fe ρ) ρ fun k => bindS (popD xs k) ρ fun y =>
  bindS (varE j (x.2 (.lst (ds ++ [y.1])))) ρ fun q2 => bindS (lstOf q2) ρ fun xs2 => bindS (popD xs2 k) ρ fun y2 => appPopR rest (lenSz ds.length && decide (xs2.length = xs.length)) ((x.2 (.lst (ds ++ [y.1]))).set j (some (.lst y2.2))) := by
  refine bindS_seq.trans ?_
  congr 1; funext x
  rw [bindS_seq]
  congr 1; funext ds
  rw [bindS_seq]
  congr 1; funext q
  rw [bindS_seq]
  congr 1; funext xs
  rw [bindS_seq]
  congr 1; funext k
  rw [bindS_seq]
  congr 1; funext y
  rw [bindS_seq]
  congr 1; funext q2
  rw [bindS_seq]
  congr 1; funext xs2
  rw [bindS_seq]
  congr 1; funext y2
  unfold appPopR
  cases lenSz ds.length && decide (xs2.length = xs.length) <;> rfl
theorem x_appPop {n : Nat} {ρ1 : Ev} (h : n ≤ 1000000) : appPopR rest (lenSz n && true) ρ1 = rest ρ1 := by
  unfold appPopR
  rw [lenSz_of h]
  rfl
theorem x_appPop2 {n : Nat} {ρ1 : Ev} (h : n ≤ 1000000) : appPopR rest (lenSz n) ρ1 = rest ρ1 := by
  unfold appPopR
  rw [lenSz_of h]
  rfl
theorem x_pop {k : Int} {y : Dt} (h0 : 0 ≤ k) (h1 : k ≤ 1000000000) (h : ds[k.toNat]? = some y) : popD ds (.int k) = .ok (y, ds.eraseIdx k.toNat) := by
  have hk := (List.getElem?_eq_some_iff.mp h).1
  have e : ixN ds.length k = some k.toNat := by
    unfold ixN
    rw [if_pos h0, if_pos (by omega)]
  show (match ixN ds.length k with
    | some j => (match ds[j]? with
      | some y => if intSz k = true then Rs.ok (y, ds.eraseIdx j) else .no
      | none => .no)
    | none => .no) = _
  rw [e]
  simp only [h]
  rw [if_pos (intSz_of (by omega) h1)]
theorem x_pop_map {α : Type} {g : α → Dt} {xs : List α} {k : Int} {y : α} (h0 : 0 ≤ k) (h1 : k ≤ 1000000000) (h : xs[k.toNat]? = some y) : popD (xs.map g) (.int k) = .ok (g y, (xs.eraseIdx k.toNat).map g) := by
  have e : ∀ (xs : List α) (k : Nat), (xs.map g).eraseIdx k = (xs.eraseIdx k).map g := fun xs => by
    induction xs with
    | nil => intro k; simp
    | cons x xs ih =>
      intro k
      cases k with
      | zero => simp
      | succ k => simp [ih]
  rw [x_pop h0 h1 (at_map h), e]
end
section
variable {ρ : Ev} {Fa : Ev → Rs Dt}
def lrngD (d : Dt) : Rs Dt := match d with
  | .int j => if intSz j = true then (if lenSz j.toNat = true then .ok (.lst (rangeL 0 j.toNat)) else .no) else .no
  | _ => .no
theorem v_lrng1 : lrng1E Fa ρ = (Fa ρ >>= lrngD) := rfl
theorem x_lrng {j : Int} (h : -1000000 ≤ j) (h2 : j ≤ 1000000) : lrngD (.int j) = .ok (.lst (rangeL 0 j.toNat)) := (if_pos (intSz_of (by omega) (by omega))).trans (if_pos (lenSz_of (by omega)))
end
/-! ### places -/
section
variable {ρ : Ev} {d e : Dt} {i j k : Nat} {Fi : Ev → Rs Dt} {Fp : Ev → Rs (Dt × (Dt → Ev))} {ds es : List Dt} {put : Dt → Ev} {C f : Str}
def ixPR (x : Dt × (Dt → Ev)) (k : Dt) : Rs (Dt × (Dt → Ev)) := match x.1, k with
  | .lst ds, .int i => (match ixN ds.length i with
    | some j => (match ds[j]? with
      | some e => .ok (e, fun y => x.2 (.lst (ds.set j y)))
      | none => .no)
    | none => .no)
  | _, _ => .no
theorem v_ixP : ixP Fp Fi ρ = (Fp ρ >>= fun x => Fi ρ >>= fun k => ixPR x k) := rfl
theorem x_ixPn (h : ds[k]? = some e) : ixPR (.lst ds, put) (.int (k : Nat)) = .ok (e, fun y => put (.lst (ds.set k y))) := by
  have hk := (List.getElem?_eq_some_iff.mp h).1
  have e1 : ixN ds.length (k : Int) = some k := by
    unfold ixN
    rw [if_pos (by omega), if_pos (by omega), Int.toNat_natCast]
  show (match ixN ds.length (k : Int) with
    | some j => (match ds[j]? with
      | some e => Rs.ok (e, fun y => put (.lst (ds.set j y)))
      | none => .no)
    | none => .no) = _
  rw [e1]
  simp only [h]
theorem x_ixPi {x : Int} (h0 : 0 ≤ x) (h : ds[x.toNat]? = some e) : ixPR (.lst ds, put) (.int x) = .ok (e, fun y => put (.lst (ds.set x.toNat y))) := by
  have := x_ixPn (put := put) h
  rwa [Int.toNat_of_nonneg h0] at this
theorem x_ixPl : ixPR (.lst (es ++ [e]), put) (.int (-1)) = .ok (e, fun y => put (.lst (es ++ [y]))) := by
  have e1 : ixN (es ++ [e]).length (-1) = some es.length := by
    unfold ixN
    rw [if_neg (by decide), if_pos (by rw [List.length_append, List.length_singleton]; omega), List.length_append, List.length_singleton]
    congr 1
    omega
  show (match ixN (es ++ [e]).length (-1) with
    | some j => (match (es ++ [e])[j]? with
      | some e' => Rs.ok (e', fun y => put (.lst ((es ++ [e]).set j y)))
      | none => .no)
    | none => .no) = _
  rw [e1]
  simp
def tixR (j : Nat) (x : Dt × (Dt → Ev)) : Rs (Dt × (Dt → Ev)) := match x.1 with
  | .tup ds => (match ds[j]? with
    | some e => .ok (e, fun y => x.2 (.tup (ds.set j y)))
    | none => .no)
  | _ => .no
theorem v_tixP : tixP j Fp ρ = (Fp ρ >>= tixR j) := rfl
theorem x_tix0 {a b : Dt} : tixR 0 (.tup [a, b], put) = .ok (a, fun y => put (.tup [y, b])) := rfl
theorem x_tix1 {a b : Dt} : tixR 1 (.tup [a, b], put) = .ok (b, fun y => put (.tup [a, y])) := rfl
def fldPR (C f : Str) (j : Nat) (x : Dt × (Dt → Ev)) : Rs (Dt × (Dt → Ev)) := match x.1 with
  | .ins C' ns ds => if C' = C ∧ fix f ns = some j then (match ds[j]? with
    | some e => .ok (e, fun y => x.2 (.ins C' ns (ds.set j y)))
    | none => .no) else .no
  | _ => .no
theorem v_fldP : fldP C f j Fp ρ = (Fp ρ >>= fldPR C f j) := rfl
theorem x_fldP {ns : List Str} (hf : fix f ns = some j) (hd : ds[j]? = some d) : fldPR C f j (.ins C ns ds, put) = .ok (d, fun y => put (.ins C ns (ds.set j y))) := by
  show (if C = C ∧ fix f ns = some j then (match ds[j]? with
    | some e => Rs.ok (e, fun y => put (.ins C ns (ds.set j y)))
    | none => .no) else .no) = _
  rw [if_pos ⟨rfl, hf⟩]
  simp only [hd]
end
/-! ### more changes of lists -/
section
variable {ρ : Ev} {d e : Dt} {Fe : Ev → Rs Dt} {Fs : List (Ev → Rs Dt)} {rest : Ev → Ot} {Fp : Ev → Rs (Dt × (Dt → Ev))} {ds es : List Dt} {put : Dt → Ev} {f : List Dt → List Dt}
def chgR (rest : Ev → Ot) (put : Dt → Ev) (o : Option (List Dt)) : Ot := match o with
  | some es => rest (put (.lst es))
  | none => .no
theorem v_ext : seqS (extS Fp Fe) rest ρ = bindS (Fp ρ) ρ fun x => bindS (lstOf x.1) ρ fun ds => bindS (Fe ρ) ρ fun e => chgR rest x.2 (extD ds e) := by
  refine bindS_seq.trans ?_
  congr 1; funext x
  obtain ⟨a, p⟩ := x
  cases a with
  | lst ds =>
    refine bindS_seq.trans ?_
    show _ = bindS (Fe ρ) ρ fun e => chgR rest p (extD ds e)
    congr 1; funext e
    unfold chgR
    cases extD ds e <;> rfl
  | _ => rfl
theorem x_ext (h : ds.length + es.length ≤ 1000000) : chgR rest put (extD ds (.lst es)) = rest (put (.lst (ds ++ es))) := by
  show chgR rest put (if lenSz (ds.length + es.length) = true then some (ds ++ es) else none) = _
  rw [if_pos (lenSz_of h)]
  rfl
theorem v_ins : seqS (insS Fp Fs) rest ρ = bindS (Fp ρ) ρ fun x => bindS (lstOf x.1) ρ fun ds => bindS (argsE Fs ρ) ρ fun as => chgR rest x.2 (insD ds as) := by
  refine bindS_seq.trans ?_
  congr 1; funext x
  obtain ⟨a, p⟩ := x
  cases a with
  | lst ds =>
    refine bindS_seq.trans ?_
    show _ = bindS (argsE Fs ρ) ρ fun as => chgR rest p (insD ds as)
    congr 1; funext e
    unfold chgR
    cases insD ds e <;> rfl
  | _ => rfl
theorem x_ins {i : Int} (h : ds.length ≤ 1000000) (h0 : 0 ≤ i) (h1 : i ≤ 1000000000) : chgR rest put (insD ds [.int i, e]) = rest (put (.lst (ds.take i.toNat ++ [e] ++ ds.drop i.toNat))) := by
  show chgR rest put (if (lenSz ds.length && (decide (0 ≤ i) && intSz i)) = true then some (ds.take i.toNat ++ [e] ++ ds.drop i.toNat) else none) = _
  rw [if_pos (by rw [lenSz_of h, decide_eq_true h0, intSz_of (by omega) h1]; rfl)]
  rfl
theorem v_chg0 : seqS (chg0S f Fp) rest ρ = bindS (Fp ρ) ρ fun x => bindS (lstOf x.1) ρ fun ds => rest (x.2 (.lst (f ds))) := by
  refine bindS_seq.trans ?_
  congr 1; funext x
  obtain ⟨a, p⟩ := x
  cases a <;> rfl
end
/-! ### fields -/
theorem fldID_of {C f : Str} {j : Nat} {ns : List Str} {ds : List Dt} {d : Dt} (hf : fix f ns = some j) (hd : ds[j]? = some d) : fldID C f j (.ins C ns ds) = .ok d := by
  show (if C = C then (if fix f ns = some j then (match ds[j]? with | some e => Rs.ok e | none => .no) else .no) else .no) = _
  rw [if_pos rfl, if_pos hf]
  simp only [hd]
theorem fldD_of {C f : Str} {j : Nat} {ns : List Str} {ds : List Dt} {d : Dt} (hf : fix f ns = some j) (hd : ds[j]? = some d) : fldD C f (.ins C ns ds) = .ok d := by
  show (if C = C then (match fix f ns with
      | some j => (match ds[j]? with | some e => Rs.ok e | none => .no)
      | none => .no) else .no) = _
  rw [if_pos rfl, hf]
  simp only [hd]
theorem noMeth_of {C m : Str} {ns : List Str} {ds : List Dt} (hf : fix m ns = none) : noMeth C m (.ins C ns ds) = .ok (.ins C ns ds) := if_pos ⟨rfl, hf⟩
theorem x_nnN : isNonD .non = true := rfl
theorem x_nnT {ds : List Dt} : isNonD (.tup ds) = false := rfl
theorem x_nnL {ds : List Dt} : isNonD (.lst ds) = false := rfl
theorem x_nnI {i : Int} : isNonD (.int i) = false := rfl
theorem x_nnS {s : Str} : isNonD (.str s) = false := rfl
theorem x_nnB {b : Bool} : isNonD (.bl b) = false := rfl
theorem x_tyT {ds : List Dt} : isiD .tuple (.tup ds) = .ok (.bl true) := rfl
theorem x_tyTL {ds : List Dt} : isiD .tuple (.lst ds) = .ok (.bl false) := rfl
theorem x_tyL {ds : List Dt} : isiD .list (.lst ds) = .ok (.bl true) := rfl
theorem x_tyLT {ds : List Dt} : isiD .list (.tup ds) = .ok (.bl false) := rfl
theorem x_tyS {s : Str} : isiD .str (.str s) = .ok (.bl true) := rfl
/-! ### lists without doubles -/
theorem nodup_len {α : Type} [DecidableEq α] : ∀ {s t : List α}, s.Nodup → (∀ x ∈ s, x ∈ t) → s.length ≤ t.length
  | [], _, _, _ => Nat.zero_le _
  | x :: s, t, hn, h => by
    rw [List.nodup_cons] at hn
    have hx := h x List.mem_cons_self
    have p := List.perm_cons_erase hx
    have := nodup_len (s := s) (t := t.erase x) hn.2 fun y hy => by
      have m := p.mem_iff.mp (h y (List.mem_cons_of_mem _ hy))
      rcases List.mem_cons.mp m with e | m
      · exact absurd (e ▸ hy) hn.1
      · exact m
    rw [p.length_eq, List.length_cons, List.length_cons]
    omega
theorem nodup_perm {α : Type} [DecidableEq α] : ∀ {s t : List α}, s.Nodup → (∀ x ∈ s, x ∈ t) → t.length ≤ s.length → s.Perm t
  | [], t, _, _, hl => by
    have : t = [] := List.eq_nil_of_length_eq_zero (by simpa using hl)
    rw [this]
  | x :: s, t, hn, h, hl => by
    rw [List.nodup_cons] at hn
    have hx := h x List.mem_cons_self
    have p := List.perm_cons_erase hx
    have := nodup_perm (s := s) (t := t.erase x) hn.2 (fun y hy => by
      have m := p.mem_iff.mp (h y (List.mem_cons_of_mem _ hy))
      rcases List.mem_cons.mp m with e | m
      · exact absurd (e ▸ hy) hn.1
      · exact m) (by
      have := p.length_eq
      rw [List.length_cons] at this hl
      omega)
    exact (this.cons x).trans p.symm
/-! ### dicts of ints -/
section
variable {α : Type} {kv : List (Int × α)} {f : α → Dt} {x : Int} {a : α} {rest : Ev → Ot} {p : Dt → Ev}
def dicI (kv : List (Int × α)) (f : α → Dt) : Dt := .dic (kv.map fun q => Sum.inl q.1) (kv.map fun q => f q.2)
theorem lookK_kv : ∀ kv : List (Int × α), lookK (kv.map fun q => (Sum.inl q.1 : Key)) (kv.map fun q => f q.2) (.inl x) = (kv.lookup x).map f
  | [] => rfl
  | q :: kv => by
    have ih := lookK_kv kv
    unfold lookK at ih ⊢
    rw [List.map_cons, List.map_cons, List.zip_cons_cons]
    by_cases e : q.1 = x
    · rw [List.find?_cons_of_pos (by simp [e])]
      rw [List.lookup, show (x == q.1) = true by simp [e]]
      rfl
    · rw [List.find?_cons_of_neg (by simp [e]), ih, List.lookup, show (x == q.1) = false by simp; exact fun z => e z.symm]
theorem x_dget : dgetD (dicI kv f) (.int x) = .ok ((kv.lookup x).map f) := by
  show Rs.ok (lookK _ _ (Sum.inl x : Key)) = _
  rw [lookK_kv]
theorem hasK_kv : ∀ kv : List (Int × α), hasK (kv.map fun q => (Sum.inl q.1 : Key)) (.inl x) = (kv.lookup x).isSome
  | [] => rfl
  | q :: kv => by
    have ih := hasK_kv kv
    unfold hasK at ih ⊢
    rw [List.map_cons, List.any_cons, ih, List.lookup]
    by_cases e : q.1 = x
    · rw [show (x == q.1) = true by simp [e]]
      simp [e]
    · rw [show (x == q.1) = false by simp; exact fun z => e z.symm]
      simp [e]
theorem x_dputN (h : kv.lookup x = none) (hl : kv.length ≤ 1000000) : dputR rest (f a) (dicI kv f, p) (.int x) = rest (p (dicI (kv ++ [(x, a)]) f)) := by
  unfold dicI
  rw [v_dputI (lenSz_of (by rw [List.length_map]; exact hl))]
  have hk : hasK (kv.map fun q => (Sum.inl q.1 : Key)) (.inl x) = false := by rw [hasK_kv, h]; rfl
  unfold putKs putDs
  rw [hk, if_neg (by simp), if_neg (by simp), List.map_append, List.map_append]
  rfl
theorem dicI_nil : Dt.dic [] [] = dicI ([] : List (Int × α)) f := rfl
theorem x_dlen : dlenD (dicI kv f) = .ok (.int kv.length) := by
  show Rs.ok (Dt.int ((kv.map _).length : Nat)) = _
  rw [List.length_map]
theorem lookup_none : ∀ {kv : List (Int × α)}, x ∉ kv.map (·.1) → kv.lookup x = none
  | [], _ => rfl
  | q :: kv, h => by
    rw [List.map_cons, List.mem_cons, not_or] at h
    rw [List.lookup, show (x == q.1) = false by simp; exact h.1]
    exact lookup_none h.2
theorem lookup_some : ∀ {kv : List (Int × α)}, x ∈ kv.map (·.1) → ∃ a, kv.lookup x = some a
  | [], h => by simp at h
  | q :: kv, h => by
    rw [List.map_cons, List.mem_cons] at h
    rw [List.lookup]
    cases e : x == q.1 with
    | true => exact ⟨_, rfl⟩
    | false =>
      refine lookup_some (h.resolve_left fun z => ?_)
      rw [z] at e
      simp at e
theorem lookup_mem : ∀ {kv : List (Int × α)} {a : α}, kv.lookup x = some a → (x, a) ∈ kv
  | [], _, h => by cases h
  | q :: kv, a, h => by
    rw [List.lookup] at h
    cases e : x == q.1 with
    | true =>
      rw [e] at h
      have : x = q.1 := by simpa using e
      rw [this, ← Option.some.inj h]
      exact List.mem_cons_self
    | false =>
      rw [e] at h
      exact List.mem_cons_of_mem _ (lookup_mem h)
theorem lookup_of_mem : ∀ {kv : List (Int × α)} {a : α}, (kv.map (·.1)).Nodup → (x, a) ∈ kv → kv.lookup x = some a
  | [], _, _, h => by simp at h
  | q :: kv, a, hn, h => by
    rw [List.map_cons, List.nodup_cons] at hn
    rw [List.lookup]
    rcases List.mem_cons.mp h with h | h
    · rw [← h]; simp
    · have : x ≠ q.1 := fun z => hn.1 (by rw [← z]; exact List.mem_map.mpr ⟨_, h, rfl⟩)
      rw [show (x == q.1) = false by simp; exact this]
      exact lookup_of_mem hn.2 h
end
theorem enumL_zip {α : Type} {g : α → Dt} : ∀ (n : Nat) (xs : List α), enumL n (xs.map g) = (xs.zipIdx n).map fun q => .tup [.int (q.2 : Nat), g q.1]
  | _, [] => rfl
  | n, x :: xs => by rw [List.map_cons, enumL, List.zipIdx_cons, List.map_cons, enumL_zip]
/-! ### == of data, by what it encodes -/
theorem pyDs_lay : ∀ ds : List Dt, PyData.canLayAll0 (pyDs ds) = ds.all fun d => (pyD d).canLay0
  | [] => rfl
  | d :: ds => by rw [pyDs, PyData.canLayAll0, pyDs_lay ds, List.all_cons]
theorem pyDs_depth {n : Nat} : ∀ {ds : List Dt}, (∀ d ∈ ds, (pyD d).depth ≤ n) → PyData.depthAll (pyDs ds) ≤ n
  | [], _ => Nat.zero_le _
  | d :: ds, h => by
    rw [pyDs, PyData.depthAll]
    exact Nat.max_le.mpr ⟨h d List.mem_cons_self, pyDs_depth fun e he => h e (List.mem_cons_of_mem _ he)⟩
/-- g tells its arguments apart, as == does -/
structure Enc {α : Type} (n : Nat) (P : α → Prop) (g : α → Dt) : Prop where
  lay : ∀ x, P x → (pyD (g x)).canLay0 = true
  dep : ∀ x, P x → (pyD (g x)).depth ≤ n
  eq : ∀ x y, P x → P y → (deq (g x) (g y) = true ↔ x = y)
section
variable {α β γ : Type} {n m : Nat} {P : α → Prop} {R : β → Prop} {g : α → Dt} {f : β → Dt}
theorem Enc.ok (h : Enc n P g) (hn : n ≤ 64) {x : α} (hx : P x) : eqOK (g x) = true := by
  unfold eqOK SeqAt.shaped
  rw [h.lay x hx, decide_eq_true (Nat.le_trans (h.dep x hx) hn)]
  rfl
theorem Enc.eqD [DecidableEq α] (h : Enc n P g) {x y : α} (hx : P x) (hy : P y) (hn : n ≤ 64 := by decide) : Pm.eqD (g x) (g y) = .ok (.bl (decide (x = y))) := by
  unfold Pm.eqD
  rw [h.ok hn hx, h.ok hn hy]
  have : deq (g x) (g y) = decide (x = y) := by
    by_cases e : x = y
    · rw [decide_eq_true e]; exact (h.eq x y hx hy).mpr e
    · rw [decide_eq_false e, ← Bool.not_eq_true]; exact fun z => e ((h.eq x y hx hy).mp z)
  rw [this]
  rfl
theorem Enc.inDD (h : Enc n P g) {x : α} {xs : List α} {b : Bool} (hx : P x) (hs : ∀ y ∈ xs, P y) (hb : x ∈ xs ↔ b = true) (hn : n ≤ 63 := by decide) : Pm.inDD (g x) (.lst (xs.map g)) = .ok (.bl b) := by
  have e : inD (g x) (xs.map g) = b := by
    rw [Bool.eq_iff_iff, ← hb]
    unfold inD
    rw [List.any_map, List.any_eq_true]
    constructor
    · rintro ⟨y, hy, e⟩
      have := (h.eq y x (hs y hy) hx).mp e
      rw [← this]; exact hy
    · exact fun hm => ⟨x, hm, (h.eq x x hx hx).mpr rfl⟩
  have ok : eqOK (.lst (xs.map g)) = true := by
    have hl : PyData.canLayAll0 (pyDs (xs.map g)) = true := by
      rw [pyDs_lay, List.all_map, List.all_eq_true]
      exact fun y hy => h.lay y (hs y hy)
    have hd : PyData.depthAll (pyDs (xs.map g)) ≤ n := pyDs_depth fun d hd => by
      obtain ⟨y, hy, rfl⟩ := List.mem_map.mp hd
      exact h.dep y (hs y hy)
    exact Bool.and_eq_true_iff.mpr ⟨hl, decide_eq_true (show PyData.depthAll (pyDs (xs.map g)) + 1 ≤ 64 by omega)⟩
  show (if (eqOK (g x) && eqOK (.lst (xs.map g))) = true then Rs.ok (Dt.bl (inD (g x) (xs.map g))) else .no) = _
  rw [h.ok (by omega) hx, ok, e]
  rfl
theorem Enc.neD [DecidableEq α] (h : Enc n P g) {x y : α} (hx : P x) (hy : P y) (hn : n ≤ 64 := by decide) : Pm.neD (g x) (g y) = .ok (.bl (!decide (x = y))) := by
  unfold Pm.neD
  rw [h.ok hn hx, h.ok hn hy]
  have : deq (g x) (g y) = decide (x = y) := by
    by_cases e : x = y
    · rw [decide_eq_true e]; exact (h.eq x y hx hy).mpr e
    · rw [decide_eq_false e, ← Bool.not_eq_true]; exact fun z => e ((h.eq x y hx hy).mp z)
  rw [this]
  rfl
theorem enc_int : Enc 0 (fun _ : Int => True) Dt.int := ⟨fun _ _ => rfl, fun _ _ => Nat.le_refl _, fun x y _ _ => by
  show (x == y) = true ↔ _
  exact beq_iff_eq⟩
theorem enc_nat : Enc 0 (fun _ : Nat => True) (fun k => Dt.int (k : Nat)) := ⟨fun _ _ => rfl, fun _ _ => Nat.le_refl _, fun x y _ _ => by
  show ((x : Int) == (y : Int)) = true ↔ _
  rw [beq_iff_eq]
  omega⟩
theorem enc_bl : Enc 0 (fun _ : Bool => True) Dt.bl := ⟨fun _ _ => rfl, fun _ _ => Nat.le_refl _, fun x y _ _ => by
  show (x == y) = true ↔ _
  exact beq_iff_eq⟩
theorem enc_str : Enc 0 (fun x : Str => PyData.canLay0 (.str x) = true) Dt.str := ⟨fun _ h => h, fun _ _ => Nat.le_refl _, fun x y _ _ => by
  show (x == y) = true ↔ _
  exact beq_iff_eq⟩
theorem eqvAll_map (h : Enc n P g) : ∀ xs ys : List α, (∀ x ∈ xs, P x) → (∀ y ∈ ys, P y) → (PyData.eqvAll (pyDs (xs.map g)) (pyDs (ys.map g)) = true ↔ xs = ys)
  | [], [], _, _ => ⟨fun _ => rfl, fun _ => rfl⟩
  | [], y :: ys, _, _ => by
    constructor
    · intro z; cases z
    · intro z; cases z
  | x :: xs, [], _, _ => by
    constructor
    · intro z; cases z
    · intro z; cases z
  | x :: xs, y :: ys, hx, hy => by
    have ih := eqvAll_map h xs ys (fun z hz => hx z (List.mem_cons_of_mem _ hz)) (fun z hz => hy z (List.mem_cons_of_mem _ hz))
    have e := h.eq x y (hx x List.mem_cons_self) (hy y List.mem_cons_self)
    show (PyData.eqv (pyD (g x)) (pyD (g y)) && PyData.eqvAll (pyDs (xs.map g)) (pyDs (ys.map g))) = true ↔ _
    unfold deq at e
    rw [Bool.and_eq_true, e, ih, List.cons_eq_cons]
theorem lay_map (h : Enc n P g) {xs : List α} (hx : ∀ x ∈ xs, P x) : PyData.canLayAll0 (pyDs (xs.map g)) = true := by
  rw [pyDs_lay, List.all_eq_true]
  intro d hd
  obtain ⟨x, hm, rfl⟩ := List.mem_map.mp hd
  exact h.lay x (hx x hm)
theorem dep_map (h : Enc n P g) {xs : List α} (hx : ∀ x ∈ xs, P x) : PyData.depthAll (pyDs (xs.map g)) ≤ n := pyDs_depth fun d hd => by
  obtain ⟨x, hm, rfl⟩ := List.mem_map.mp hd
  exact h.dep x (hx x hm)
theorem Enc.lst (h : Enc n P g) : Enc (n + 1) (fun xs : List α => ∀ x ∈ xs, P x) (fun xs => .lst (xs.map g)) := ⟨fun xs hx => lay_map h hx, fun xs hx => Nat.succ_le_succ (dep_map h hx), fun xs ys hx hy => eqvAll_map h xs ys hx hy⟩
theorem Enc.scr (h : Enc n P g) : Enc (n + 1) (fun xs : List α => ∀ x ∈ xs, P x) (fun xs => .scr (xs.map g)) := ⟨fun xs hx => lay_map h hx, fun xs hx => Nat.succ_le_succ (dep_map h hx), fun xs ys hx hy => eqvAll_map h xs ys hx hy⟩
theorem Enc.tup (h : Enc n P g) : Enc (n + 1) (fun xs : List α => ∀ x ∈ xs, P x) (fun xs => .tup (xs.map g)) := ⟨fun xs hx => lay_map h hx, fun xs hx => Nat.succ_le_succ (dep_map h hx), fun xs ys hx hy => eqvAll_map h xs ys hx hy⟩
theorem Enc.pair (h : Enc n P g) (k : Enc m R f) : Enc (max n m + 1) (fun q : α × β => P q.1 ∧ R q.2) (fun q => .tup [g q.1, f q.2]) := by
  refine ⟨fun q hq => ?_, fun q hq => ?_, fun q r hq hr => ?_⟩
  · show ((pyD (g q.1)).canLay0 && ((pyD (f q.2)).canLay0 && true)) = true
    rw [h.lay _ hq.1, k.lay _ hq.2]
    rfl
  · show max (pyD (g q.1)).depth (max (pyD (f q.2)).depth 0) + 1 ≤ _
    have := h.dep _ hq.1
    have := k.dep _ hq.2
    omega
  · have e1 := h.eq q.1 r.1 hq.1 hr.1
    have e2 := k.eq q.2 r.2 hq.2 hr.2
    show (PyData.eqv (pyD (g q.1)) (pyD (g r.1)) && (PyData.eqv (pyD (f q.2)) (pyD (f r.2)) && true)) = true ↔ _
    unfold deq at e1 e2
    rw [Bool.and_true, Bool.and_eq_true, e1, e2, Prod.ext_iff]
theorem Enc.lpair (h : Enc n P g) (k : Enc m R f) : Enc (max n m + 1) (fun q : α × β => P q.1 ∧ R q.2) (fun q => .lst [g q.1, f q.2]) := by
  refine ⟨fun q hq => ?_, fun q hq => ?_, fun q r hq hr => ?_⟩
  · show ((pyD (g q.1)).canLay0 && ((pyD (f q.2)).canLay0 && true)) = true
    rw [h.lay _ hq.1, k.lay _ hq.2]
    rfl
  · show max (pyD (g q.1)).depth (max (pyD (f q.2)).depth 0) + 1 ≤ _
    have := h.dep _ hq.1
    have := k.dep _ hq.2
    omega
  · have e1 := h.eq q.1 r.1 hq.1 hr.1
    have e2 := k.eq q.2 r.2 hq.2 hr.2
    show (PyData.eqv (pyD (g q.1)) (pyD (g r.1)) && (PyData.eqv (pyD (f q.2)) (pyD (f r.2)) && true)) = true ↔ _
    unfold deq at e1 e2
    rw [Bool.and_true, Bool.and_eq_true, e1, e2, Prod.ext_iff]
theorem Enc.mono (h : Enc n P g) {P' : α → Prop} (hp : ∀ x, P' x → P x) : Enc n P' g := ⟨fun x q => h.lay x (hp x q), fun x q => h.dep x (hp x q), fun x y q r => h.eq x y (hp x q) (hp y r)⟩
end
/-! ### loops by a state -/
theorem wp_forI {α σ : Type} {ds : List Dt} (xs : List α) (g : α → Dt) (st : σ → Ev) (I : List α → σ → Prop) (s0 : σ) (hd : ds = xs.map g) (hρ : ρ = st s0) (h0 : I [] s0)
    (hs : ∀ pre x post s, xs = pre ++ x :: post → I pre s → ∃ ρ1, FG (g x) (st s) = some ρ1 ∧ LoopP Post rest (fun ρ => ∃ s', ρ = st s' ∧ I (pre ++ [x]) s') (F1 ρ1))
    (hk : ∀ s, I xs s → Post (rest (st s))) : Post (forR FG F1 rest ds ρ) := by
  subst hd hρ
  refine wp_for (fun n ρ => ∃ s', ρ = st s' ∧ I (xs.take n) s') ⟨s0, rfl, h0⟩ ?_ ?_
  · rintro n d ρ hd ⟨s, rfl, hI⟩
    obtain ⟨x, hx, rfl⟩ := of_at_map hd
    have hn := lt_of_at hx
    have e : xs[n] = x := by
      rw [List.getElem?_eq_getElem hn] at hx
      exact Option.some.inj hx
    have sp : xs = xs.take n ++ x :: xs.drop (n + 1) := by
      rw [← e, ← List.drop_eq_getElem_cons hn, List.take_append_drop]
    have tk : xs.take (n + 1) = xs.take n ++ [x] := by rw [List.take_add_one, hx]; rfl
    obtain ⟨ρ1, h1, h2⟩ := hs _ _ _ s sp hI
    refine ⟨ρ1, h1, ?_⟩
    rw [tk]
    exact h2
  · rintro ρ ⟨s, rfl, hI⟩
    rw [List.length_map, List.take_length] at hI
    exact hk s hI
theorem for_fold {α σ : Type} {ds : List Dt} (xs : List α) (g : α → Dt) (st : σ → Ev) (f : σ → α → σ) (s0 : σ) (hd : ds = xs.map g) (hρ : ρ = st s0)
    (hs : ∀ pre x post, xs = pre ++ x :: post → ∃ ρ1, FG (g x) (st (pre.foldl f s0)) = some ρ1 ∧ F1 ρ1 = .nx (st (f (pre.foldl f s0) x))) : forR FG F1 rest ds ρ = rest (st (xs.foldl f s0)) := by
  refine wp_forI (Post := fun o => o = rest (st (xs.foldl f s0))) xs g st (fun pre s => s = pre.foldl f s0) s0 hd hρ rfl ?_ ?_
  · rintro pre x post s e rfl
    obtain ⟨ρ1, h1, h2⟩ := hs pre x post e
    refine ⟨ρ1, h1, ?_⟩
    rw [h2]
    exact ⟨_, rfl, by rw [List.foldl_append]; rfl⟩
  · rintro s rfl
    rfl
/-- a list is made item by item -/
theorem for_map {α β : Type} {ds : List Dt} (xs : List α) (g : α → Dt) (st : List β → Ev) (f : α → β) (ys : List β) (hd : ds = xs.map g) (hρ : ρ = st ys)
    (hs : ∀ pre x post, xs = pre ++ x :: post → ∃ ρ1, FG (g x) (st (ys ++ pre.map f)) = some ρ1 ∧ F1 ρ1 = .nx (st (ys ++ pre.map f ++ [f x]))) : forR FG F1 rest ds ρ = rest (st (ys ++ xs.map f)) := by
  have fo : ∀ (pre : List α) (zs : List β), pre.foldl (fun s x => s ++ [f x]) zs = zs ++ pre.map f := by
    intro pre
    induction pre with
    | nil => intro zs; simp
    | cons x pre ih => intro zs; rw [List.foldl_cons, ih, List.map_cons, List.append_assoc]; rfl
  rw [for_fold xs g st (fun s x => s ++ [f x]) ys hd hρ fun pre x post e => by rw [fo]; exact hs pre x post e, fo]
/-- both ways go on, from one state -/
theorem wp_ite2 {c : Bool} {ρ1 : Ev} (h : c = true → F1 ρ = .nx ρ1) (k : c = false → F2 ρ = .nx ρ1) (hk : Post (rest ρ1)) : Post (iteS c F1 F2 rest ρ) := by
  unfold iteS seqS
  cases c with
  | true => rw [if_pos rfl, h rfl]; exact hk
  | false => rw [if_neg (by simp), k rfl]; exact hk
theorem ite2 {c : Bool} {ρ1 : Ev} (h : c = true → F1 ρ = .nx ρ1) (k : c = false → F2 ρ = .nx ρ1) : iteS c F1 F2 rest ρ = rest ρ1 := wp_ite2 (Post := fun o => o = rest ρ1) h k rfl
theorem wp_rng {σ : Type} (lo : Int) (n : Nat) (st : σ → Ev) (I : Nat → σ → Prop) (s0 : σ) (hρ : ρ = st s0) (h0 : I 0 s0)
    (hs : ∀ k s, k < n → I k s → ∃ ρ1, FG (.int (lo + (k : Nat))) (st s) = some ρ1 ∧ LoopP Post rest (fun ρ => ∃ s', ρ = st s' ∧ I (k + 1) s') (F1 ρ1))
    (hk : ∀ s, I n s → Post (rest (st s))) : Post (forR FG F1 rest (rangeL lo n) ρ) := by
  subst hρ
  refine wp_for (fun k ρ => ∃ s', ρ = st s' ∧ I k s') ⟨s0, rfl, h0⟩ ?_ ?_
  · rintro k d ρ hd ⟨s, rfl, hI⟩
    obtain ⟨hk, rfl⟩ := rangeL_at hd
    exact hs k s hk hI
  · rintro ρ ⟨s, rfl, hI⟩
    rw [rangeL_len] at hI
    exact hk s hI
theorem wp_rng0 {σ : Type} (n : Nat) (st : σ → Ev) (I : Nat → σ → Prop) (s0 : σ) (hρ : ρ = st s0) (h0 : I 0 s0)
    (hs : ∀ k s, k < n → I k s → ∃ ρ1, FG (.int (k : Nat)) (st s) = some ρ1 ∧ LoopP Post rest (fun ρ => ∃ s', ρ = st s' ∧ I (k + 1) s') (F1 ρ1))
    (hk : ∀ s, I n s → Post (rest (st s))) : Post (forR FG F1 rest (rangeL 0 n) ρ) := by
  refine wp_rng 0 n st I s0 hρ h0 (fun k s hk hI => ?_) hk
  rw [Int.zero_add]
  exact hs k s hk hI
theorem x_powA {x y : Int} (h1 : 0 ≤ y) (h2 : y ≤ 1000) (h3 : -9000000000000000000 ≤ x) (h4 : x ≤ 9000000000000000000) : powI x y = .ok (.int (x ^ y.toNat)) := by
  unfold powI
  have : powOk x y = true := by
    unfold powOk
    rw [decide_eq_true h1, decide_eq_true h2, decide_eq_true (show x.natAbs < 2 ^ 64 by omega)]
    rfl
  rw [if_pos this]
theorem comp_rng {n : Nat} (f : Nat → Dt) (hl : n ≤ 1000000) (h : ∀ k, k < n → ∃ ρ1, FG (.int (k : Nat)) ρ = some ρ1 ∧ Fe ρ1 = .ok (f k)) : compR FG yesT Fe ρ (rangeL 0 n) = .ok (.lst ((List.range n).map f)) := by
  rw [rangeL0_map]
  exact comp_map (lenSz_of (by rw [List.length_range]; exact hl)) fun k hk => h k (List.mem_range.mp hk)
theorem comp_rngF {n : Nat} (f : Nat → Dt) (p : Nat → Bool) (hl : n ≤ 1000000) (h : ∀ k, k < n → ∃ ρ1, FG (.int (k : Nat)) ρ = some ρ1 ∧ Ft ρ1 = .ok (p k) ∧ (p k = true → Fe ρ1 = .ok (f k))) : compR FG Ft Fe ρ (rangeL 0 n) = .ok (.lst (((List.range n).filter p).map f)) := by
  rw [rangeL0_map]
  exact comp_filter (lenSz_of (by rw [List.length_range]; exact hl)) fun k hk => h k (List.mem_range.mp hk)
/-- one of a written list -/
theorem lit_at {α : Type} {xs : List α} {k : Int} (h0 : 0 ≤ k) (h1 : k < xs.length) : ∃ x, x ∈ xs ∧ xs[k.toNat]? = some x := by
  obtain ⟨v, hv, hm⟩ := at_of_lt (xs := xs) (k := k.toNat) (by omega)
  exact ⟨v, hm, hv⟩
theorem x_lit {α : Type} {xs : List α} {g : α → Dt} {k : Int} (h0 : 0 ≤ k) (h1 : k < xs.length) : ∃ x, x ∈ xs ∧ ixD (.lst (xs.map g)) (.int k) = .ok (g x) := by
  obtain ⟨v, hm, hv⟩ := lit_at h0 h1
  exact ⟨v, hm, by rw [x_ixLi h0, List.getElem?_map, hv]; rfl⟩
theorem comp_mapE {α : Type} {xs : List α} {g : α → Dt} (f : α → Dt) (hl : xs.length ≤ 1000000) (h : ∀ x, x ∈ xs → ∃ ρ1, FG (g x) ρ = some ρ1 ∧ Fe ρ1 = .ok (f x)) : compR FG yesT Fe ρ (xs.map g) = .ok (.lst (xs.map f)) := comp_map (lenSz_of hl) h
theorem comp_filterE {α : Type} {xs : List α} {g : α → Dt} (f : α → Dt) (p : α → Bool) (hl : xs.length ≤ 1000000) (h : ∀ x, x ∈ xs → ∃ ρ1, FG (g x) ρ = some ρ1 ∧ Ft ρ1 = .ok (p x) ∧ (p x = true → Fe ρ1 = .ok (f x))) : compR FG Ft Fe ρ (xs.map g) = .ok (.lst ((xs.filter p).map f)) := comp_filter (lenSz_of hl) h
/-- while -/
theorem wp_whl {n : Nat} (I : Nat → Ev → Prop) (n0 : Nat) (hn : n0 < n) (h0 : I n0 ρ)
    (hs : ∀ k ρ, I k ρ → ∃ b, Ft ρ = .ok b ∧ (b = false → Post (rest ρ)) ∧ (b = true → LoopP Post rest (fun ρ' => ∃ k', k' < k ∧ I k' ρ') (F1 ρ))) : Post (match whlL Ft F1 n ρ with
      | .nx ρ1 => rest ρ1
      | o => o) := by
  induction n generalizing n0 ρ with
  | zero => omega
  | succ n ih =>
    obtain ⟨b, hb, h1, h2⟩ := hs n0 ρ h0
    unfold whlL
    rw [hb, bindS_ok]
    cases b with
    | false => rw [if_neg (by simp)]; exact h1 rfl
    | true =>
      rw [if_pos rfl]
      have h2 := h2 rfl
      have nxt : ∀ ρ', (∃ k', k' < n0 ∧ I k' ρ') → Post (match whlL Ft F1 n ρ' with
        | .nx ρ1 => rest ρ1
        | o => o) := fun ρ' ⟨k', hk, hI⟩ => ih k' (by omega) hI
      cases q : F1 ρ with
      | nx r => rw [q] at h2; exact nxt r h2
      | ct r => rw [q] at h2; exact nxt r h2
      | bk r => rw [q] at h2; exact h2
      | rt r => rw [q] at h2; exact h2
      | ex c r => rw [q] at h2; exact h2
      | no => rw [q] at h2; exact h2.elim
def whlR (Ft : Ev → Rs Bool) (F1 : Ev → Ot) (n : Nat) (rest : Ev → Ot) (ρ : Ev) : Ot := match whlL Ft F1 n ρ with
  | .nx ρ1 => rest ρ1
  | o => o
theorem v_whl {n : Nat} : seqS (whlL Ft F1 n) rest ρ = whlR Ft F1 n rest ρ := rfl
end
end Pm
namespace Pm
open PySem PySem.Spec L2
/-! ### reckoning: the newer words -/
section
variable {ρ : Ev} {d a b c : Dt} {i j : Nat} {Fa Fb Fc Fe : Ev → Rs Dt} {Fs : List (Ev → Rs Dt)} {Ft Fu : Ev → Rs Bool} {F1 F2 F3 rest : Ev → Ot} {Post : Ot → Prop} {FG : Dt → Ev → Option Ev} {Fi : Ev → Rs (List Dt)} {ds es : List Dt} {vs : List Nat}
theorem v_notBE {c : Bool} : notBE c Fa ρ = (Fa ρ >>= notBD c) := rfl
theorem x_notB {b c : Bool} : notBD c (.bl b) = .ok (.bl (!decide (b = c))) := rfl
theorem x_isB {b c : Bool} : isBD c (.bl b) = .ok (.bl (decide (b = c))) := rfl
theorem dec_tt : decide (true = true) = true := rfl
theorem dec_ff : decide (false = false) = true := rfl
theorem dec_tf : decide (true = false) = false := rfl
theorem dec_ft : decide (false = true) = false := rfl
/-! for x in P, x changed -/
def forMR (j : Nat) (pth : Option Nat) (x : Nat) (F1 rest : Ev → Ot) (ρ : Ev) : Ot := match forM j pth x F1 ρ with
  | .nx ρ1 => rest ρ1
  | o => o
theorem v_forM {pth : Option Nat} {x : Nat} : seqS (forM j pth x F1) rest ρ = forMR j pth x F1 rest ρ := rfl
theorem forML_map {α : Type} {pth : Option Nat} {x : Nat} {d : Dt} (xs : List α) (g h : α → Dt) (hjx : j ≠ x) (hd : ∀ ds, tgetD pth (tputD pth d (.lst ds)) = some (.lst ds)) (hdd : ∀ ds es, tputD pth (tputD pth d (.lst ds)) (.lst es) = tputD pth d (.lst es)) (hj : j < ρ.length) (hx : ρ[x]? = some none)
    (hs : ∀ a ∈ xs, F1 ((ρ.set j none).set x (some (g a))) = .nx ((ρ.set j none).set x (some (h a)))) :
    ∀ (n : Nat) (pre post : List α), xs = pre ++ post → n = post.length → forML j pth x F1 n pre.length (ρ.set j (some (tputD pth d (.lst (pre.map h ++ post.map g))))) = .nx (ρ.set j (some (tputD pth d (.lst (xs.map h)))))
  | 0, pre, post, e, hn => by
    have : post = [] := List.eq_nil_of_length_eq_zero hn.symm
    subst this
    rw [List.append_nil] at e
    subst e
    rw [List.map_nil, List.append_nil]
    rfl
  | n + 1, pre, [], e, hn => by cases hn
  | n + 1, pre, a :: post, e, hn => by
    have hxl : x < ρ.length := (List.getElem?_eq_some_iff.mp hx).1
    have e1 : (ρ.set j (some (tputD pth d (.lst (pre.map h ++ (a :: post).map g)))))[j]? = some (some (tputD pth d (.lst (pre.map h ++ (a :: post).map g)))) := List.getElem?_set_self hj
    have e2 : (pre.map h ++ (a :: post).map g)[pre.length]? = some (g a) := by
      rw [List.getElem?_append_right (by rw [List.length_map]; exact Nat.le_refl _), List.length_map, Nat.sub_self]
      rfl
    have e3 : (((ρ.set j none).set x (some (h a))) : Ev)[x]? = some (some (h a)) := List.getElem?_set_self (by rw [List.length_set]; exact hxl)
    have e4 : (ρ.set j (some (tputD pth d (.lst (pre.map h ++ (a :: post).map g))))).set j none = ρ.set j none := List.set_set ..
    have e5 : (pre.map h ++ (a :: post).map g).set pre.length (h a) = (pre ++ [a]).map h ++ post.map g := by
      rw [List.set_append_right _ _ (by rw [List.length_map]; exact Nat.le_refl _), List.length_map, Nat.sub_self, List.map_append, List.append_assoc]
      rfl
    have e6 : (((ρ.set j none).set x (some (h a))).set x none : Ev) = ρ.set j none := by
      rw [List.set_set]
      refine List.ext_getElem? fun k => ?_
      by_cases hk : x = k
      · subst hk
        rw [List.getElem?_set_self (by rw [List.length_set]; exact hxl), List.getElem?_set_ne hjx, hx]
      · rw [List.getElem?_set_ne hk]
    have ih := forML_map xs g h hjx hd hdd hj hx hs n (pre ++ [a]) post (by rw [e, List.append_assoc]; rfl) (by rw [List.length_cons] at hn; omega)
    unfold forML
    rw [e1]
    dsimp only
    rw [hd]
    dsimp only
    rw [e2]
    dsimp only
    rw [e4, hs a (by rw [e]; simp)]
    dsimp only
    rw [e3]
    dsimp only
    rw [hdd, e5, e6, List.set_set]
    rw [List.length_append, List.length_singleton] at ih
    exact ih
/-- each item is changed by itself -/
theorem forM_map {α : Type} {pth : Option Nat} {x : Nat} {d : Dt} (xs : List α) (g h : α → Dt) (hr : ρ[j]? = some (some d)) (hg : tgetD pth d = some (.lst (xs.map g))) (hx : ρ[x]? = some none) (hjx : j ≠ x)
    (hs : ∀ a ∈ xs, F1 ((ρ.set j none).set x (some (g a))) = .nx ((ρ.set j none).set x (some (h a)))) : forMR j pth x F1 rest ρ = rest (ρ.set j (some (tputD pth d (.lst (xs.map h))))) := by
  have hj := (List.getElem?_eq_some_iff.mp hr).1
  have t1 : tputD pth d (.lst (xs.map g)) = d := by
    cases pth with
    | none => cases hg; rfl
    | some k =>
      cases d with
      | tup es =>
        have hg : es[k]? = some (.lst (xs.map g)) := hg
        obtain ⟨hk, e⟩ := List.getElem?_eq_some_iff.mp hg
        show Dt.tup (es.set k _) = _
        rw [← e, List.set_getElem_self]
      | lst es =>
        have hg : es[k]? = some (.lst (xs.map g)) := hg
        obtain ⟨hk, e⟩ := List.getElem?_eq_some_iff.mp hg
        show Dt.lst (es.set k _) = _
        rw [← e, List.set_getElem_self]
      | _ => cases hg
  have m := forML_map (F1 := F1) (pth := pth) (d := d) xs g h hjx (fun ds => by
    cases pth with
    | none => rfl
    | some k =>
      cases d with
      | tup es =>
        have hg : es[k]? = some (.lst (xs.map g)) := hg
        show (es.set k _)[k]? = _
        exact List.getElem?_set_self (List.getElem?_eq_some_iff.mp hg).1
      | lst es =>
        have hg : es[k]? = some (.lst (xs.map g)) := hg
        show (es.set k _)[k]? = _
        exact List.getElem?_set_self (List.getElem?_eq_some_iff.mp hg).1
      | _ => cases hg) (fun ds es => by
    cases pth with
    | none => rfl
    | some k =>
      cases d with
      | tup qs => show Dt.tup ((qs.set k _).set k _) = Dt.tup (qs.set k _); rw [List.set_set]
      | lst qs => show Dt.lst ((qs.set k _).set k _) = Dt.lst (qs.set k _); rw [List.set_set]
      | _ => cases hg) hj hx hs xs.length [] xs rfl rfl
  rw [List.map_nil, List.nil_append, t1] at m
  have sr : ρ.set j (some d) = ρ := by
    obtain ⟨hk, e⟩ := List.getElem?_eq_some_iff.mp hr
    rw [← e, List.set_getElem_self]
  rw [sr] at m
  unfold forMR forM
  rw [hr]
  dsimp only
  rw [hg]
  dsimp only
  rw [List.length_map]
  have m : forML j pth x F1 xs.length 0 ρ = _ := m
  rw [m]
end
/-! d.setdefault(k, []).append(x); sorted(d) -/
section
variable {ρ : Ev} {Fp : Ev → Rs (Dt × (Dt → Ev))} {Fk Fa : Ev → Rs Dt} {rest : Ev → Ot} {i : Nat} {ks : List Key} {ds : List Dt} {k y d : Dt} {z : Key} {put : Dt → Ev}
def sdAppR (rest : Ev → Ot) (x : Dt × (Dt → Ev)) (ks : List Key) (ds : List Dt) (k y : Dt) : Ot := match sdAppK x ks ds k y with
  | .nx ρ1 => rest ρ1
  | o => o
def dicOf (d : Dt) : Rs (List Key × List Dt) := match d with
  | .dic ks ds => .ok (ks, ds)
  | _ => .no
theorem x_dicOf : dicOf (.dic ks ds) = .ok (ks, ds) := rfl
theorem v_sdApp : seqS (sdAppS Fp Fk i) rest ρ = bindS (Fp ρ) ρ fun x => bindS (dicOf x.1) ρ fun q => bindS (Fk ρ) ρ fun k => bindS (varE i ρ) ρ fun y => sdAppR rest x q.1 q.2 k y := by
  refine bindS_seq.trans ?_
  congr 1; funext x
  obtain ⟨a, p⟩ := x
  cases a with
  | dic ks ds =>
    refine bindS_seq.trans ?_
    show _ = bindS (Fk ρ) ρ fun k => bindS (varE i ρ) ρ fun y => sdAppR rest (.dic ks ds, p) ks ds k y
    congr 1; funext k
    refine bindS_seq.trans ?_
    rfl
  | _ => rfl
theorem x_sdAppK {n : Int} (h : sdAppD ks ds (.inl n) y = some d) : sdAppR rest (.dic ks ds, put) ks ds (.int n) y = rest (put d) := by
  unfold sdAppR sdAppK
  show (match (match sdAppD ks ds (.inl n) y with
    | some d => Ot.nx (put d)
    | none => .no) with
    | .nx ρ1 => rest ρ1
    | o => o) = _
  rw [h]
theorem v_sortDI : sortDIE Fa ρ = (Fa ρ >>= sortDI) := rfl
end
theorem v_rrg {F : Ev → Rs Dt} {ρ : Ev} {j : Int} (h : F ρ = .ok (.int j)) (h1 : -1000000000 ≤ j) (h2 : j ≤ 1000000000) : rrgI F ρ = .ok (rangeL 0 j.toNat).reverse := by
  unfold rrgI
  rw [h]
  show (if intSz j = true then _ else _) = _
  rw [if_pos (intSz_of h1 h2)]
def chK (g2 : Dt → Dt → Rs Dt) (Fc : Ev → Rs Dt) (ρ : Ev) (b : Dt) : Dt → Rs Dt
  | .bl true => Fc ρ >>= fun c => g2 b c
  | .bl false => .ok (.bl false)
  | _ => .no
theorem v_chE {g1 g2 : Dt → Dt → Rs Dt} {Fa Fb Fc : Ev → Rs Dt} {ρ : Ev} : chE g1 g2 Fa Fb Fc ρ = (Fa ρ >>= fun a => Fb ρ >>= fun b => g1 a b >>= chK g2 Fc ρ b) := by
  unfold chE
  refine congrArg _ (funext fun a => congrArg _ (funext fun b => congrArg _ (funext fun z => ?_)))
  cases z with
  | bl k => cases k <;> rfl
  | _ => rfl
theorem v_chK {g2 : Dt → Dt → Rs Dt} {Fc : Ev → Rs Dt} {ρ : Ev} {b : Dt} {k : Bool} : chK g2 Fc ρ b (.bl k) = if k = true then (Fc ρ >>= fun c => g2 b c) else .ok (.bl false) := by cases k <;> rfl
def appVR (rest : Ev → Ot) (r i : Nat) (ρ : Ev) (ds : List Dt) (y : Dt) : Ot := if lenSz ds.length = true then rest ((ρ.set r (some (.lst (ds ++ [y])))).set i none) else .no
theorem v_appV {r i : Nat} {rest : Ev → Ot} {ρ : Ev} : seqS (appVS r i) rest ρ = bindS (varE r ρ) ρ fun x => bindS (lstOf x) ρ fun ds => bindS (varE i ρ) ρ fun y => appVR rest r i ρ ds y := by
  unfold seqS appVS varE
  cases ρ[r]? with
  | none => rfl
  | some o =>
    cases o with
    | none => rfl
    | some d =>
      cases d with
      | lst ds =>
        cases ρ[i]? with
        | none => rfl
        | some o2 =>
          cases o2 with
          | none => rfl
          | some y =>
            by_cases c : lenSz ds.length = true
            · show (match (if lenSz ds.length = true then Ot.nx _ else Ot.no) with | .nx ρ1 => rest ρ1 | o => o) = appVR rest r i ρ ds y
              unfold appVR
              rw [if_pos c, if_pos c]
            · show (match (if lenSz ds.length = true then Ot.nx _ else Ot.no) with | .nx ρ1 => rest ρ1 | o => o) = appVR rest r i ρ ds y
              unfold appVR
              rw [if_neg c, if_neg c]
      | _ => rfl
theorem x_appV {r i : Nat} {rest : Ev → Ot} {ρ : Ev} {ds : List Dt} {y : Dt} (h : ds.length ≤ 1000000) : appVR rest r i ρ ds y = rest ((ρ.set r (some (.lst (ds ++ [y])))).set i none) := if_pos (lenSz_of h)
/-! names for the parts of a tuple -/
def asgTR (rest : Ev → Ot) (l : List Nat) (ρ : Ev) (d : Dt) : Ot := match d with
  | .tup ds => if ds.length = l.length then rest (setsE ρ l ds) else .no
  | _ => .no
theorem v_asgT {l : List Nat} {rest : Ev → Ot} {ρ : Ev} : seqS (asgT l Fe) rest ρ = bindS (Fe ρ) ρ (asgTR rest l ρ) := by
  unfold seqS asgT
  cases Fe ρ with
  | ok d =>
    cases d with
    | tup ds =>
      rw [bindS_ok, bindS_ok]
      unfold asgTR
      dsimp only
      by_cases h : ds.length = l.length
      · rw [if_pos h, if_pos h]
      · rw [if_neg h, if_neg h]
    | _ => rfl
  | ex c => rfl
  | no => rfl
theorem x_asgT2 {rest : Ev → Ot} {i j : Nat} {ρ : Ev} {a b : Dt} : asgTR rest [i, j] ρ (.tup [a, b]) = rest ((ρ.set i (some a)).set j (some b)) := rfl
theorem x_asgT3 {rest : Ev → Ot} {i j k : Nat} {ρ : Ev} {a b c : Dt} : asgTR rest [i, j, k] ρ (.tup [a, b, c]) = rest (((ρ.set i (some a)).set j (some b)).set k (some c)) := rfl
theorem x_tix30 {a b c : Dt} {put : Dt → Ev} : tixR 0 (.tup [a, b, c], put) = .ok (a, fun y => put (.tup [y, b, c])) := rfl
theorem x_tix31 {a b c : Dt} {put : Dt → Ev} : tixR 1 (.tup [a, b, c], put) = .ok (b, fun y => put (.tup [a, y, c])) := rfl
theorem x_tix32 {a b c : Dt} {put : Dt → Ev} : tixR 2 (.tup [a, b, c], put) = .ok (c, fun y => put (.tup [a, b, y])) := rfl
theorem v_minP : minPE Fa ρ = (Fa ρ >>= minPD) := rfl
theorem x_minP {ps : List (Int × Int)} (h : ps ≠ []) : minPD (.lst (ps.map prD)) = .ok (prD (minPs ps)) := by
  unfold minPD
  dsimp only
  rw [prsOf_map]
  cases ps with
  | nil => exact absurd rfl h
  | cons p r => rfl
theorem v_leT : leTE Fa Fb ρ = (Fa ρ >>= fun a => Fb ρ >>= fun b => tupLeD a b) := rfl
theorem x_leT {p q : Int × Int} : tupLeD (prD p) (prD q) = .ok (.bl (lexLe2 [p.1, p.2] [q.1, q.2])) := rfl
theorem v_revS : revSE Fa Fb ρ = (Fa ρ >>= fun a => Fb ρ >>= fun b => revLD a b) := rfl
theorem x_revL {ds : List Dt} : revLD (.lst ds) (.int (-1)) = .ok (.lst ds.reverse) := rfl
theorem v_maxP : maxPE Fa ρ = (Fa ρ >>= maxPD) := rfl
theorem x_maxP {ps : List (Int × Int)} (h : ps ≠ []) : maxPD (.lst (ps.map prD)) = .ok (prD (maxPs ps)) := by
  unfold maxPD
  dsimp only
  rw [prsOf_map]
  cases ps with
  | nil => exact absurd rfl h
  | cons p r => rfl
theorem v_callS {m : Mode} {Fn : List Dt → Rs Dt} {Fs : List (Ev → Rs Dt)} {ρ : Ev} : callSE m Fn Fs ρ = (argsE Fs ρ >>= fun ds => flatR m (Fn ds)) := rfl
def lstAD (d : Dt) : Rs Dt := match d with
  | .lst ds => .ok (.lst ds)
  | _ => .no
theorem v_lstA {F : Ev → Rs Dt} {ρ : Ev} : lstA F ρ = (F ρ >>= lstAD) := rfl
theorem x_lstA {ds : List Dt} : lstAD (.lst ds) = .ok (.lst ds) := rfl
theorem flat_map {α : Type} {g : α → Dt} (h : ∀ x, flatD (g x) = true) : ∀ xs : List α, flatDs (xs.map g) = true
  | [] => rfl
  | x :: xs => by
    rw [List.map_cons]
    show (flatD (g x) && flatDs (xs.map g)) = true
    rw [h x, flat_map h xs]
    rfl
/-! dicts gone through -/
section
variable {j i k : Nat} {vs : List Nat} {FG : Dt → Ev → Option Ev} {Ft : Ev → Rs Bool} {Fe : Ev → Rs Dt} {Fb rest : Ev → Ot} {ρ : Ev} {Post : Ot → Prop} {ks : List Key} {ds : List Dt}
def forKR (FG : Dt → Ev → Option Ev) (Fb rest : Ev → Ot) (d : Dt) (ρ : Ev) : Ot := match d with
  | .dic ks _ => (match forL FG Fb (ks.map keyDt) ρ with
    | .nx ρ2 => rest ρ2
    | _ => .no)
  | _ => .no
theorem v_forK : seqS (forK j FG Fb) rest ρ = bindS (varE j ρ) ρ fun d => forKR FG Fb rest d ρ := by
  unfold seqS forK
  cases q : varE j ρ with
  | ex c => unfold varE at q; split at q <;> cases q
  | no => rfl
  | ok d =>
    cases d with
    | dic ks ds =>
      show _ = forKR FG Fb rest (.dic ks ds) ρ
      unfold forKR
      dsimp only
      cases forL FG Fb (ks.map keyDt) ρ <;> rfl
    | _ => rfl
def NxP (Post : Ot → Prop) (rest : Ev → Ot) (o : Ot) : Prop := match o with
  | .nx ρ2 => Post (rest ρ2)
  | _ => False
theorem wp_forK (h : NxP Post rest (forR FG Fb nextS (ks.map keyDt) ρ)) : Post (forKR FG Fb rest (.dic ks ds) ρ) := by
  unfold forR at h
  unfold forKR
  dsimp only
  cases q : forL FG Fb (ks.map keyDt) ρ with
  | nx ρ2 => rw [q] at h; exact h
  | _ => rw [q] at h; exact h.elim
def compKR (FG : Dt → Ev → Option Ev) (Ft : Ev → Rs Bool) (Fe : Ev → Rs Dt) (ρ : Ev) (d : Dt) : Rs Dt := match d with
  | .dic ks _ => compR FG Ft Fe ρ (ks.map keyDt) >>= fun r => if scalL r = true then .ok r else .no
  | _ => .no
theorem v_compK : compK j vs FG Ft Fe ρ = (varE j ρ >>= compKR FG Ft Fe (wipeE ρ vs)) := rfl
theorem v_maxV : maxVE j ρ = (varE j ρ >>= maxVD) := rfl
theorem x_maxV : maxVD (.dic ks ds) = maxD (.lst ds) := rfl
theorem v_dcon {c : Key} {d : Dt} : dconE c d ρ = .ok (.dic [c] [d]) := rfl
theorem v_mv : seqS (mvS i k) rest ρ = bindS (varE k ρ) ρ fun d => rest ((ρ.set k none).set i (some d)) := bindS_seq
end
/-! methods that change their self -/
section
variable {C C' f g mm : Str} {i j k : Nat} {Fe : Ev → Rs Dt} {rest : Ev → Ot} {ρ : Ev} {Fn : List Dt → Rs Dt} {Fs : List (Ev → Rs Dt)} {y d d' : Dt} {ns : List Str} {ds as xs : List Dt}
def setFldR (C f : Str) (i j : Nat) (rest : Ev → Ot) (y d : Dt) (ρ : Ev) : Ot := match d with
  | .ins C' ns ds => if C' = C ∧ fix f ns = some j ∧ ns.length < 100 then rest (ρ.set i (some (.ins C' ns (ds.set j y)))) else .no
  | _ => .no
theorem v_setFld : seqS (setFld C f i j Fe) rest ρ = bindS (Fe ρ) ρ fun y => bindS (varE i ρ) ρ fun d => setFldR C f i j rest y d ρ := by
  refine bindS_seq.trans ?_
  congr 1; funext y
  refine bindS_seq.trans ?_
  congr 1; funext d
  unfold setFldR
  cases d with
  | ins C' ns ds =>
    dsimp only
    by_cases h : C' = C ∧ fix f ns = some j ∧ ns.length < 100
    · rw [if_pos h, if_pos h]
    · rw [if_neg h, if_neg h]
  | _ => rfl
theorem x_setFld (h : C' = C ∧ fix f ns = some j ∧ ns.length < 100) : setFldR C f i j rest y (.ins C' ns ds) ρ = rest (ρ.set i (some (.ins C' ns (ds.set j y)))) := if_pos h
def appPopFR (C f g : Str) (i j k : Nat) (Fe : Ev → Rs Dt) (rest : Ev → Ot) (d : Dt) (ρ : Ev) : Ot := seqS (fun ρ => match d with
  | .ins C' ns ds => if C' = C ∧ fix f ns = some j ∧ fix g ns = some k then bindS (lstOf (ds.getD j .non)) ρ fun as => bindS (lstOf (ds.getD k .non)) ρ fun xs => bindS (Fe ρ) ρ fun y => bindS (popD xs y) ρ fun z => if lenSz as.length = true then .nx (ρ.set i (some (.ins C' ns ((ds.set j (.lst (as ++ [z.1]))).set k (.lst z.2))))) else .no else .no
  | _ => .no) rest ρ
theorem v_appPopF : seqS (appPopF C f g i j k Fe) rest ρ = bindS (varE i ρ) ρ fun d => appPopFR C f g i j k Fe rest d ρ := by
  unfold appPopF
  exact bindS_seq
theorem x_appPopF {z : Dt × List Dt} (h : C' = C ∧ fix f ns = some j ∧ fix g ns = some k) (ha : ds[j]? = some (.lst as)) (hk : ds[k]? = some (.lst xs)) (hl : lenSz as.length = true) (he : Fe ρ = .ok y) (hp : popD xs y = .ok z) : appPopFR C f g i j k Fe rest (.ins C' ns ds) ρ = rest (ρ.set i (some (.ins C' ns ((ds.set j (.lst (as ++ [z.1]))).set k (.lst z.2))))) := by
  unfold appPopFR seqS
  dsimp only
  rw [if_pos h]
  have e1 : ds.getD j .non = .lst as := by rw [List.getD, ha]; rfl
  have e2 : ds.getD k .non = .lst xs := by rw [List.getD, hk]; rfl
  rw [e1, e2, he]
  show (match bindS (popD xs y) ρ fun z => if lenSz as.length = true then Ot.nx (ρ.set i (some (.ins C' ns ((ds.set j (.lst (as ++ [z.1]))).set k (.lst z.2))))) else .no with | .nx ρ1 => rest ρ1 | o => o) = _
  rw [hp]
  show (match (if lenSz as.length = true then Ot.nx (ρ.set i (some (.ins C' ns ((ds.set j (.lst (as ++ [z.1]))).set k (.lst z.2))))) else .no) with | .nx ρ1 => rest ρ1 | o => o) = _
  rw [if_pos hl]
def lendR (i : Nat) (rest : Ev → Ot) (r : Rs Dt) (ρ : Ev) : Ot := match r with
  | .ok d' => rest (ρ.set i (some d'))
  | _ => .no
theorem v_lendS : seqS (lendS C mm i Fn Fs) rest ρ = bindS (varE i ρ) ρ fun d => bindS (noMeth C mm d) ρ fun _ => bindS (argsE Fs ρ) ρ fun ds => lendR i rest (Fn (d :: ds)) ρ := by
  refine bindS_seq.trans ?_
  congr 1; funext d
  refine bindS_seq.trans ?_
  congr 1; funext _
  refine bindS_seq.trans ?_
  congr 1; funext ds
  unfold lendR
  cases Fn (d :: ds) <;> rfl
theorem x_lend : lendR i rest (.ok d') ρ = rest (ρ.set i (some d')) := rfl
theorem v_retFld : seqS (retFld C f i j) rest ρ = bindS (fldIE C f j i ρ) ρ fun d => .rt d := bindS_seq
theorem x_outL {o : List (Option Dt)} : outL (.nx (some d :: o)) = .ok d := rfl
end
/-! several clauses with a name -/
section
variable {i : Nat} {hs r : List (List (Str × Bool) × (Str → Ev → Ot))} {Fb rest : Ev → Ot} {Fh : Str → Ev → Ot} {ρ : Ev} {d : Dt} {c : Str} {subs : List (Str × Bool)}
def tryMR (i : Nat) (hs : List (List (Str × Bool) × (Str → Ev → Ot))) (rest : Ev → Ot) : Ot → Ot
  | .ex c ρ' => (match goA i hs c ρ' with
    | .nx ρ1 => rest ρ1
    | o => o)
  | .nx ρ => rest ρ
  | o => o
theorem v_tryMm : seqS (tryM i hs Fb) rest ρ = tryMR i hs rest (Fb ρ) := by
  show (match tryM i hs Fb ρ with
    | .nx ρ1 => rest ρ1
    | o => o) = _
  unfold tryM tryMR
  cases Fb ρ <;> rfl
theorem v_tryMN : tryMR i hs rest (.nx ρ) = rest ρ := rfl
theorem v_tryMRt : tryMR i hs rest (.rt d) = .rt d := rfl
theorem clr_rest (o : Ot) : (match clrO i o with
    | .nx ρ1 => rest ρ1
    | o => o) = clrR i rest o := by cases o <;> rfl
theorem x_tryMT (h : subs.lookup c = some true) : tryMR i ((subs, Fh) :: r) rest (.ex (c, none) ρ) = clrR i rest (Fh c (ρ.set i none)) := by
  rw [← clr_rest]
  show (match goA i ((subs, Fh) :: r) (c, none) ρ with
    | .nx ρ1 => rest ρ1
    | o => o) = _
  unfold goA
  simp only [h]
theorem x_tryMF (h : subs.lookup c = some false) : tryMR i ((subs, Fh) :: r) rest (.ex (c, none) ρ) = tryMR i r rest (.ex (c, none) ρ) := by
  show (match goA i ((subs, Fh) :: r) (c, none) ρ with
    | .nx ρ1 => rest ρ1
    | o => o) = (match goA i r (c, none) ρ with
    | .nx ρ1 => rest ρ1
    | o => o)
  conv => lhs; unfold goA
  simp only [h]
end
def setSlR (rest : Ev → Ot) (x : Dt × (Dt → Ev)) (y k : Dt) : Ot := someO rest (setSlO x y k)
theorem v_setSl {Fe Fi : Ev → Rs Dt} {Fp : Ev → Rs (Dt × (Dt → Ev))} {rest : Ev → Ot} {ρ : Ev} : seqS (setSlS Fe Fp Fi) rest ρ = bindS (Fe ρ) ρ fun y => bindS (Fp ρ) ρ fun x => bindS (Fi ρ) ρ fun k => setSlR rest x y k := by
  unfold seqS setSlS
  cases Fe ρ with
  | ok y =>
    rw [bindS_ok, bindS_ok]
    cases Fp ρ with
    | ok x =>
      rw [bindS_ok, bindS_ok]
      cases Fi ρ with
      | ok k =>
        rw [bindS_ok, bindS_ok]
        unfold setSlR
        cases setSlO x y k <;> rfl
      | ex c => rfl
      | no => rfl
    | ex c => rfl
    | no => rfl
  | ex c => rfl
  | no => rfl
theorem x_setSl {rest : Ev → Ot} {put : Dt → Ev} {ds es : List Dt} {c : Int} (h : 0 ≤ c ∧ c ≤ ds.length ∧ ds.length + es.length ≤ 1000000) : setSlR rest (.lst ds, put) (.lst es) (.int c) = rest (put (.lst (es ++ ds.drop c.toNat))) := by
  show someO rest (if _ then _ else _) = _
  rw [if_pos ⟨h.1, h.2.1, lenSz_of h.2.2⟩]
  rfl
/-! texts -/
section
variable {Fa Fb Fc : Ev → Rs Dt} {ρ : Ev}
theorem v_inS : inSE Fa Fb ρ = (Fa ρ >>= fun a => Fb ρ >>= fun b => inSD a b) := rfl
theorem v_ninS : ninSE Fa Fb ρ = (Fa ρ >>= fun a => Fb ρ >>= fun b => ninSD a b) := rfl
theorem x_inS {c : Nat} {z : Str} : inSD (.str ⟨#[c]⟩) (.str z) = .ok (.bl (decide (c ∈ z.cps.toList))) := rfl
theorem x_ninS {c : Nat} {z : Str} : ninSD (.str ⟨#[c]⟩) (.str z) = .ok (.bl (!decide (c ∈ z.cps.toList))) := rfl
def strID (d : Dt) : Rs (List Dt) := match d with
  | .str x => .ok (signsD x)
  | _ => .no
theorem v_strI : strI Fa ρ = (Fa ρ >>= strID) := rfl
theorem x_strI {x : Str} : strID (.str x) = .ok (signsD x) := rfl
theorem v_str1 : strE Fa ρ = (Fa ρ >>= strD) := rfl
theorem numSz_of {i : Int} (h0 : 0 ≤ i) (h : i < 10 ^ 200) : numSz i = true := by
  unfold numSz
  refine decide_eq_true ?_
  by_cases z : i.natAbs = 0
  · rw [z]; decide
  · refine (Nat.log2_lt z).mpr ?_
    have h1 : i.natAbs < 10 ^ 200 := by
      have e : ((10 : Int) ^ 200) = ((10 ^ 200 : Nat) : Int) := (Int.natCast_pow 10 200).symm
      rw [e] at h
      omega
    exact Nat.lt_of_lt_of_le h1 (by decide +kernel)
theorem x_str1 {i : Int} (h : numSz i = true) : strD (.int i) = .ok (.str (toString i)) := if_pos h
theorem v_intT : intTE Fa ρ = (Fa ρ >>= intTD) := rfl
theorem x_intT {x : Str} {n : Int} (h : txtSz x = true) (h2 : txtNum x = some n) : intTD (.str x) = .ok (.int n) := by
  show (if txtSz x = true then (match txtNum x with | some n => Rs.ok (Dt.int n) | none => .no) else .no) = _
  rw [if_pos h, h2]
theorem txtSz_of {x : Str} (h : x.length ≤ 640) : txtSz x = true := by unfold txtSz; exact decide_eq_true h
theorem txtNum_of {x : Str} (h : NumText.AllDigits (TL.tl x)) (h1 : TL.tl x ≠ []) (h2 : x.length ≤ 4300) : txtNum x = some (NumText.digitsVal (TL.tl x) : Nat) := by
  unfold txtNum
  exact intText_digits h h1 h2
theorem v_m1 {g : Str → Dt → Rs Dt} : m1E g Fa Fb ρ = (Fa ρ >>= fun a => strOf a >>= fun x => Fb ρ >>= fun b => g x b) := rfl
theorem v_join : joinE Fa Fb ρ = (Fa ρ >>= fun a => strOf a >>= fun x => Fb ρ >>= fun b => joinD x b) := rfl
theorem v_split : splitE Fa Fb ρ = (Fa ρ >>= fun a => strOf a >>= fun x => Fb ρ >>= fun b => splitD x b) := rfl
theorem v_part : partE Fa Fb ρ = (Fa ρ >>= fun a => strOf a >>= fun x => Fb ρ >>= fun b => partD x b) := rfl
theorem v_sw : swE Fa Fb ρ = (Fa ρ >>= fun a => strOf a >>= fun x => Fb ρ >>= fun b => swD x b) := rfl
theorem x_strOf {x : Str} : strOf (.str x) = .ok x := rfl
theorem joinSz_of {a : Str} {ys : List Str} (h : (ys.map (·.length)).sum + ys.length * a.length ≤ 1000000) : joinSz a ys = true := by unfold joinSz; exact decide_eq_true h
theorem x_join {a : Str} {ys : List Str} (h : joinSz a ys = true) : joinD a (.lst (ys.map Dt.str)) = .ok (.str (Txt.join a ys)) := by
  show joinSD a (ys.map Dt.str) = _
  unfold joinSD
  rw [strsOf_map]
  exact if_pos h
theorem strSz_of {x : Str} (h : x.length ≤ 1000000) : strSz x = true := by unfold strSz; exact decide_eq_true h
theorem spSz_of {x y : Str} (h : strSz x = true) (hy : txt0 y = false) : (strSz x && !txt0 y) = true := by rw [h, hy]; rfl
theorem x_split {x y : Str} (h : strSz x = true) (hy : txt0 y = false) : splitD x (.str y) = .ok (.lst ((Txt.split x y).map Dt.str)) := if_pos (spSz_of h hy)
theorem x_part {x y : Str} (h : strSz x = true) (hy : txt0 y = false) : partD x (.str y) = .ok (.tup [.str (Txt.partition x y).1, .str (Txt.partition x y).2.1, .str (Txt.partition x y).2.2]) := if_pos (spSz_of h hy)
theorem x_sw {x y : Str} : swD x (.str y) = .ok (.bl (Txt.startswith x y)) := rfl
theorem v_mulS : mulSE Fa Fb ρ = (Fa ρ >>= fun a => Fb ρ >>= fun b => mulSD a b) := rfl
theorem repSz_of {x : Str} {n : Int} (h0 : 0 ≤ n) (h1 : n ≤ 1000) (h2 : x.length ≤ 1000) : repSz x n = true := by unfold repSz; exact decide_eq_true ⟨h0, h1, h2⟩
theorem x_mulS {x : Str} {n : Int} (h : repSz x n = true) : mulSD (.str x) (.int n) = .ok (.str (repSt x n.toNat)) := if_pos h
theorem x_lenS {x : Str} (h : strSz x = true) : lenD (.str x) = .ok (.int x.length) := if_pos h
theorem x_ixS {x : Str} {k : Nat} {c : Nat} (h : strSz x = true) (e : (TL.tl x)[k]? = some c) : ixD (.str x) (.int (k : Nat)) = .ok (.str ⟨#[c]⟩) := by
  show (if strSz x = true then (match atI x.cps.toList (k : Int) with | some c => Rs.ok (Dt.str ⟨#[c]⟩) | none => .no) else .no) = _
  rw [if_pos h, atI_nat e]
theorem x_plusS {a b : Str} (h : lenSz (a.length + b.length) = true) : plusD (.str a) (.str b) = .ok (.str (a ++ b)) := if_pos h
theorem x_cutS {x : Str} {lo hi : Option Int} (h : strSz x = true) : cutD (.str x) lo hi = .ok (.str (cutS x lo hi)) := if_pos h
theorem x_isiS {x : Str} : isiD .str (.str x) = .ok (.bl true) := rfl
theorem x_isiSL {ds : List Dt} : isiD .str (.lst ds) = .ok (.bl false) := rfl
def rng3D (ds : List Dt) : Rs (List Dt) := match ds with
  | [.int i, .int j, .int c] => if (intSz i && intSz j && intSz c && decide (0 < c)) = true then .ok (stepL i c (stepN i j c)) else .no
  | _ => .no
theorem v_rng3 : rng3I [Fa, Fb, Fc] ρ = (Fa ρ >>= fun a => Fb ρ >>= fun b => Fc ρ >>= fun c => rng3D [a, b, c]) := by
  unfold rng3I
  rw [v_args1, v_args1, v_args1]
  cases Fa ρ with
  | ok a =>
    cases Fb ρ with
    | ok b =>
      cases Fc ρ with
      | ok c => rfl
      | ex c => rfl
      | no => rfl
    | ex c => rfl
    | no => rfl
  | ex c => rfl
  | no => rfl
theorem x_rng3 {i j c : Int} (hi : intSz i = true) (hj : intSz j = true) (hc : intSz c = true) (h : 0 < c) : rng3D [.int i, .int j, .int c] = .ok (stepL i c (stepN i j c)) := by
  show (if _ then _ else _) = _
  rw [hi, hj, hc, decide_eq_true h]
  rfl
/-- code points of a text that == can compare -/
theorem okS {x : Str} (h : ∀ c ∈ TL.tl x, c < 0x110000) : eqOK (.str x) = true := by
  refine enc_str.ok (by decide) ?_
  show PySem.PyData.strOk x = true
  unfold PySem.PyData.strOk
  rw [← Array.all_toList, List.all_eq_true]
  intro c hc
  exact decide_eq_true (h c hc)
end
end Pm
namespace Pm
open PySem PySem.Spec PyProof.Rows L2 C8
/-! ### the text by places -/
def top (i : Nat) : Stmt := PySem.Challenge.pw_pocketmill_k56_numbers_and_words.main.body.getD i (.Pass ⟨0, 0, 0, 0⟩)
abbrev s_all_among : Stmt := top 3
abbrev s_page_number : Stmt := top 4
abbrev s_words_of : Stmt := top 5
abbrev s__law_cell_at : Stmt := top 7
abbrev s__law_stirred : Stmt := top 8
abbrev s__law_text : Stmt := top 9
abbrev s__law_due : Stmt := top 10
abbrev s__law_word : Stmt := top 11
abbrev s__law_words_good : Stmt := top 12
abbrev s_law : Stmt := top 13
/-! ### what the top has written -/
structure Txt (K : PySem.W.Frag) (mg : Str → Option Value) : Prop where
  d_all_among : ∃ fd, FunD K "all_among" "all_among" (defArgs s_all_among) (defBody s_all_among) (defScope s_all_among) [] [] (He.ga K "all_among") fd
  g_all_among : mg "all_among" = some (.ref (He.ga K "all_among"))
  d_page_number : ∃ fd, FunD K "page_number" "page_number" (defArgs s_page_number) (defBody s_page_number) (defScope s_page_number) [] [] (He.ga K "page_number") fd
  g_page_number : mg "page_number" = some (.ref (He.ga K "page_number"))
  d_words_of : ∃ fd, FunD K "words_of" "words_of" (defArgs s_words_of) (defBody s_words_of) (defScope s_words_of) [] [] (He.ga K "words_of") fd
  g_words_of : mg "words_of" = some (.ref (He.ga K "words_of"))
  d__law_cell_at : ∃ fd, FunD K "_law_cell_at" "_law_cell_at" (defArgs s__law_cell_at) (defBody s__law_cell_at) (defScope s__law_cell_at) [] [] (He.ga K "_law_cell_at") fd
  g__law_cell_at : mg "_law_cell_at" = some (.ref (He.ga K "_law_cell_at"))
  d__law_stirred : ∃ fd, FunD K "_law_stirred" "_law_stirred" (defArgs s__law_stirred) (defBody s__law_stirred) (defScope s__law_stirred) [] [] (He.ga K "_law_stirred") fd
  g__law_stirred : mg "_law_stirred" = some (.ref (He.ga K "_law_stirred"))
  d__law_text : ∃ fd, FunD K "_law_text" "_law_text" (defArgs s__law_text) (defBody s__law_text) (defScope s__law_text) [] [] (He.ga K "_law_text") fd
  g__law_text : mg "_law_text" = some (.ref (He.ga K "_law_text"))
  d__law_due : ∃ fd, FunD K "_law_due" "_law_due" (defArgs s__law_due) (defBody s__law_due) (defScope s__law_due) [] [] (He.ga K "_law_due") fd
  g__law_due : mg "_law_due" = some (.ref (He.ga K "_law_due"))
  d__law_word : ∃ fd, FunD K "_law_word" "_law_word" (defArgs s__law_word) (defBody s__law_word) (defScope s__law_word) [] [] (He.ga K "_law_word") fd
  g__law_word : mg "_law_word" = some (.ref (He.ga K "_law_word"))
  d__law_words_good : ∃ fd, FunD K "_law_words_good" "_law_words_good" (defArgs s__law_words_good) (defBody s__law_words_good) (defScope s__law_words_good) [] [] (He.ga K "_law_words_good") fd
  g__law_words_good : mg "_law_words_good" = some (.ref (He.ga K "_law_words_good"))
  d_law : ∃ fd, FunD K "law" "law" (defArgs s_law) (defBody s_law) (defScope s_law) [] [] (He.ga K "law") fd
  g_law : mg "law" = some (.ref (He.ga K "law"))
  i_FIGURES : ∃ t, mg "FIGURES" = some (.str "0123456789" t)
  i_MOST_FIGURES : ∃ t, mg "MOST_FIGURES" = some (.int 31 t)
  b_bool : mg "bool" = none
  b_int : mg "int" = none
  b_isinstance : mg "isinstance" = none
  b_len : mg "len" = none
  b_list : mg "list" = none
  b_range : mg "range" = none
  b_str : mg "str" = none
/-! ### the head -/
def d_all_among : He.DefD := ⟨("all_among", none), "all_among", "all_among", defArgs s_all_among, defBody s_all_among, defScope s_all_among, [], []⟩
def d_page_number : He.DefD := ⟨("page_number", none), "page_number", "page_number", defArgs s_page_number, defBody s_page_number, defScope s_page_number, [], []⟩
def d_words_of : He.DefD := ⟨("words_of", none), "words_of", "words_of", defArgs s_words_of, defBody s_words_of, defScope s_words_of, [], []⟩
def d__law_cell_at : He.DefD := ⟨("_law_cell_at", none), "_law_cell_at", "_law_cell_at", defArgs s__law_cell_at, defBody s__law_cell_at, defScope s__law_cell_at, [], []⟩
def d__law_stirred : He.DefD := ⟨("_law_stirred", none), "_law_stirred", "_law_stirred", defArgs s__law_stirred, defBody s__law_stirred, defScope s__law_stirred, [], []⟩
def d__law_text : He.DefD := ⟨("_law_text", none), "_law_text", "_law_text", defArgs s__law_text, defBody s__law_text, defScope s__law_text, [], []⟩
def d__law_due : He.DefD := ⟨("_law_due", none), "_law_due", "_law_due", defArgs s__law_due, defBody s__law_due, defScope s__law_due, [], []⟩
def d__law_word : He.DefD := ⟨("_law_word", none), "_law_word", "_law_word", defArgs s__law_word, defBody s__law_word, defScope s__law_word, [], []⟩
def d__law_words_good : He.DefD := ⟨("_law_words_good", none), "_law_words_good", "_law_words_good", defArgs s__law_words_good, defBody s__law_words_good, defScope s__law_words_good, [], []⟩
def d_law : He.DefD := ⟨("law", none), "law", "law", defArgs s_law, defBody s_law, defScope s_law, [], []⟩
def fnD : List He.DefD := [d_all_among, d_page_number, d_words_of, d__law_cell_at, d__law_stirred, d__law_text, d__law_due, d__law_word, d__law_words_good, d_law]
def faD : List He.Fa := [.glo "all_among", .glo "page_number", .glo "words_of", .glo "_law_cell_at", .glo "_law_stirred", .glo "_law_text", .glo "_law_due", .glo "_law_word", .glo "_law_words_good", .glo "law", .str "FIGURES" "0123456789", .int "MOST_FIGURES" 31, .free "bool", .free "int", .free "isinstance", .free "len", .free "list", .free "range", .free "str"]
def moreD (K : PySem.W.Frag) : Bool := true
abbrev R : PySem.W.OpenRow := PySem.W.OpenLaw.row PySem.Challenge.rw_pocketmill_k56_numbers_and_words
abbrev hk : PySem.W.Hook := hookX 5 faD fnD moreD
def ob (s : PySem.W.SharedT) : He.AlD × Bool := obX faD fnD moreD (HandSHeadRun.getT s) 5
theorem ob_eq (s : PySem.W.SharedT) : ob s = hk.obs s.abs := obX_eq (HandSHeadRun.getT_eq s)
def looseD : List Str := (["FIGURES", "MOST_FIGURES", "all_among", "page_number", "words_of", "_law_cell_at", "_law_stirred", "_law_text", "_law_due", "_law_word", "_law_words_good"] : List Str)
theorem run (w : World) : HandSHeadRun.RunEq R (PySem.W.view R.prog [13]) hk ob 30000 looseD w := by
  intro os
  kernel_rfl
/-! ### each def as a function, and that it keeps to it -/
def B_all_among_1 : Ev → Ot := (seqS (ifS (boolT (ninSE (varE 2) (varE 1))) (seqS (retS (conE (.bl false)))
 nextS) nextS)
 (fgtS [2] nextS))
theorem e_B_all_among_1 {ρ : Ev} : B_all_among_1 ρ = (seqS (ifS (boolT (ninSE (varE 2) (varE 1))) (seqS (retS (conE (.bl false)))
 nextS) nextS)
 (fgtS [2] nextS)) ρ := rfl
def C_all_among_2 : Ev → Ot := (seqS (retS (neE (varE 0) (conE (.str ""))))
 nextS)
theorem e_C_all_among_2 {ρ : Ev} : C_all_among_2 ρ = (seqS (retS (neE (varE 0) (conE (.str ""))))
 nextS) ρ := rfl
def Fb_all_among : Ev → Ot := (seqS (forS (strI (varE 0)) (nameG 2) B_all_among_1)
 C_all_among_2)
def F_all_among : List Dt → Rs Dt := defF 2 3 .F Fb_all_among
def Fb_page_number : Ev → Ot := (seqS (ifS (orT (boolT (gtE (lenE (varE 0)) (conE (.int 31)))) (orT (notT (boolT (callE F_all_among [(varE 0), (conE (.str "0123456789"))]))) (andT (boolT (eqE (ixE (varE 0) (conE (.int 0))) (conE (.str "0")))) (boolT (neE (varE 0) (conE (.str "0"))))))) (seqS (retS (conE .non))
 nextS) nextS)
 (seqS (retS (intTE (varE 0)))
 nextS))
def F_page_number : List Dt → Rs Dt := defF 1 1 .F Fb_page_number
def Fb_words_of : Ev → Ot := (seqS (retS (compE (seqI (splitE (ixE (partE (varE 0) (conE (.str "#"))) (conE (.int 0))) (conE (.str " ")))) [1] (nameG 1) (boolT (neE (varE 1) (conE (.str "")))) (varE 1)))
 nextS)
def F_words_of : List Dt → Rs Dt := defF 1 2 .F Fb_words_of
def B__law_cell_at_1 : Ev → Ot := (seqS (asgS 2 (modE (addE (addE (mulE (varE 2) (varE 2)) (mulE (varE 3) (conE (.int 131)))) (conE (.int 17))) (conE (.int 1000000000039))))
 (fgtS [3] nextS))
theorem e_B__law_cell_at_1 {ρ : Ev} : B__law_cell_at_1 ρ = (seqS (asgS 2 (modE (addE (addE (mulE (varE 2) (varE 2)) (mulE (varE 3) (conE (.int 131)))) (conE (.int 17))) (conE (.int 1000000000039))))
 (fgtS [3] nextS)) ρ := rfl
def C__law_cell_at_2 : Ev → Ot := (seqS (ifS (boolT (ltE (varE 1) (lenE (varE 0)))) (seqS (retS (plusE (varE 2) (ixE (varE 0) (varE 1))))
 nextS) nextS)
 (seqS (retS (varE 2))
 nextS))
theorem e_C__law_cell_at_2 {ρ : Ev} : C__law_cell_at_2 ρ = (seqS (ifS (boolT (ltE (varE 1) (lenE (varE 0)))) (seqS (retS (plusE (varE 2) (ixE (varE 0) (varE 1))))
 nextS) nextS)
 (seqS (retS (varE 2))
 nextS)) ρ := rfl
def Fb__law_cell_at : Ev → Ot := (seqS (asgS 2 (addE (lenE (varE 0)) (varE 1)))
 (seqS (forS (seqI (varE 0)) (nameG 3) B__law_cell_at_1)
 C__law_cell_at_2))
def F__law_cell_at : List Dt → Rs Dt := defF 2 4 .F Fb__law_cell_at
def Fb__law_stirred : Ev → Ot := (seqS (asgS 2 (modE (mulE (modE (addE (addE (varE 0) (mulE (conE (.int 977)) (varE 1))) (conE (.int 1))) (conE (.int 1000000007))) (conE (.int 48271))) (conE (.int 998244353))))
 (seqS (asgS 2 (modE (mulE (varE 2) (varE 2)) (conE (.int 998244353))))
 (seqS (retS (divE (modE (mulE (addE (varE 2) (mulE (conE (.int 40692)) (addE (varE 1) (conE (.int 3))))) (conE (.int 69621))) (conE (.int 2147483647))) (conE (.int 8))))
 nextS)))
def F__law_stirred : List Dt → Rs Dt := defF 2 3 .F Fb__law_stirred
def Fb__law_text : Ev → Ot := (seqS (asgS 2 (conE (.str " !\"#$&'()*+,-./:;<=>?@AZ[\\]^_`az{|}~\n")))
 (seqS (asgS 3 (strE (varE 0)))
 (seqS (asgS 4 (modE (divE (varE 1) (conE (.int 8))) (addE (lenE (varE 3)) (conE (.int 1)))))
 (seqS (ifS (boolT (eqE (modE (varE 1) (conE (.int 8))) (conE (.int 1)))) (seqS (retS (plusE (ixE (lstE [(conE (.str "0")), (conE (.str "00")), (conE (.str "-")), (conE (.str "+")), (plusE (conE (.str "1")) (mulSE (conE (.str "0")) (conE (.int 31)))), (conE (.str " "))]) (modE (divE (varE 1) (conE (.int 8))) (conE (.int 6)))) (varE 3)))
 nextS) nextS)
 (seqS (ifS (boolT (eqE (modE (varE 1) (conE (.int 8))) (conE (.int 2)))) (seqS (retS (plusE (plusE (slcE (varE 3) noPart (partO (varE 4))) (ixE (varE 2) (modE (divE (varE 1) (conE (.int 400))) (lenE (varE 2))))) (slcE (varE 3) (partO (varE 4)) noPart)))
 nextS) nextS)
 (seqS (ifS (boolT (eqE (modE (varE 1) (conE (.int 8))) (conE (.int 3)))) (seqS (retS (ixE (lstE [(conE (.str "")), (conE (.str "-")), (conE (.str "+0")), (conE (.str "0x1")), (conE (.str "1_0")), (conE (.str "one"))]) (modE (divE (varE 1) (conE (.int 8))) (conE (.int 6)))))
 nextS) nextS)
 (seqS (ifS (boolT (eqE (modE (varE 1) (conE (.int 8))) (conE (.int 4)))) (seqS (retS (plusE (varE 3) (mulSE (ixE (lstE [(conE (.str "")), (conE (.str "0")), (conE (.str "9"))]) (modE (divE (varE 1) (conE (.int 8))) (conE (.int 3)))) (subE (conE (.int 31)) (lenE (varE 3))))))
 nextS) nextS)
 (seqS (ifS (boolT (eqE (modE (varE 1) (conE (.int 8))) (conE (.int 5)))) (seqS (retS (plusE (varE 3) (mulSE (conE (.str "7")) (subE (conE (.int 32)) (lenE (varE 3))))))
 nextS) nextS)
 (seqS (retS (varE 3))
 nextS)))))))))
def F__law_text : List Dt → Rs Dt := defF 2 5 .F Fb__law_text
def B__law_due_1 : Ev → Ot := (seqS (ifS (boolT (ninSE (varE 1) (conE (.str "0123456789")))) (seqS (retS (conE .non))
 nextS) nextS)
 (fgtS [1] nextS))
theorem e_B__law_due_1 {ρ : Ev} : B__law_due_1 ρ = (seqS (ifS (boolT (ninSE (varE 1) (conE (.str "0123456789")))) (seqS (retS (conE .non))
 nextS) nextS)
 (fgtS [1] nextS)) ρ := rfl
def C__law_due_2 : Ev → Ot := (seqS (retS (intTE (varE 0)))
 nextS)
theorem e_C__law_due_2 {ρ : Ev} : C__law_due_2 ρ = (seqS (retS (intTE (varE 0)))
 nextS) ρ := rfl
def Fb__law_due : Ev → Ot := (seqS (ifS (orT (boolT (eqE (varE 0) (conE (.str "")))) (orT (boolT (gtE (lenE (varE 0)) (conE (.int 31)))) (andT (boolT (eqE (ixE (varE 0) (conE (.int 0))) (conE (.str "0")))) (boolT (neE (varE 0) (conE (.str "0"))))))) (seqS (retS (conE .non))
 nextS) nextS)
 (seqS (forS (strI (varE 0)) (nameG 1) B__law_due_1)
 C__law_due_2))
def F__law_due : List Dt → Rs Dt := defF 1 2 .F Fb__law_due
def Fb__law_word : Ev → Ot := (seqS (asgS 2 (conE (.str "!\"$&'()*+,-./0123456789:;<=>?@ABCDEFGHIJKLMNOPQRSTUVWXYZ[\\]^_`abcdefghijklmnopqrstuvwxyz{|}~")))
 (seqS (retS (joinE (conE (.str "")) (compE (rng1I [(varE 1)]) [3] (nameG 3) yesT (ixE (varE 2) (modE (callE F__law_stirred [(varE 0), (varE 3)]) (lenE (varE 2)))))))
 nextS))
def F__law_word : List Dt → Rs Dt := defF 2 4 .F Fb__law_word
def B__law_words_good_1 : Ev → Ot := (seqS (ifS (boolT (gtE (varE 3) (conE (.int 0)))) (seqS (asgS 2 (plusE (varE 2) (mulSE (conE (.str " ")) (addE (conE (.int 1)) (modE (callE F__law_stirred [(varE 0), (addE (conE (.int 90)) (varE 3))]) (conE (.int 3)))))))
 nextS) nextS)
 (seqS (asgS 2 (plusE (varE 2) (ixE (varE 1) (varE 3))))
 (fgtS [3] nextS)))
theorem e_B__law_words_good_1 {ρ : Ev} : B__law_words_good_1 ρ = (seqS (ifS (boolT (gtE (varE 3) (conE (.int 0)))) (seqS (asgS 2 (plusE (varE 2) (mulSE (conE (.str " ")) (addE (conE (.int 1)) (modE (callE F__law_stirred [(varE 0), (addE (conE (.int 90)) (varE 3))]) (conE (.int 3)))))))
 nextS) nextS)
 (seqS (asgS 2 (plusE (varE 2) (ixE (varE 1) (varE 3))))
 (fgtS [3] nextS))) ρ := rfl
def C__law_words_good_2 : Ev → Ot := (seqS (asgS 2 (plusE (varE 2) (ixE (lstE [(conE (.str "")), (conE (.str " ")), (conE (.str "#")), (conE (.str "  # pass q1")), (conE (.str "# #")), (plusE (conE (.str " #")) (callE F__law_word [(varE 0), (conE (.int 3))]))]) (modE (divE (varE 0) (conE (.int 18))) (conE (.int 6))))))
 (seqS (asgS 4 (callE F_words_of [(varE 2)]))
 (seqS (ifS (orT (notT (boolT (isiE .list (varE 4)))) (boolT (neE (varE 4) (varE 1)))) (seqS (retS (conE (.bl false)))
 nextS) nextS)
 (seqS (retS (eqE (lenE (compE (seqI (varE 4)) [5] (nameG 5) (notT (boolT (isiE .str (varE 5)))) (varE 5))) (conE (.int 0))))
 nextS))))
theorem e_C__law_words_good_2 {ρ : Ev} : C__law_words_good_2 ρ = (seqS (asgS 2 (plusE (varE 2) (ixE (lstE [(conE (.str "")), (conE (.str " ")), (conE (.str "#")), (conE (.str "  # pass q1")), (conE (.str "# #")), (plusE (conE (.str " #")) (callE F__law_word [(varE 0), (conE (.int 3))]))]) (modE (divE (varE 0) (conE (.int 18))) (conE (.int 6))))))
 (seqS (asgS 4 (callE F_words_of [(varE 2)]))
 (seqS (ifS (orT (notT (boolT (isiE .list (varE 4)))) (boolT (neE (varE 4) (varE 1)))) (seqS (retS (conE (.bl false)))
 nextS) nextS)
 (seqS (retS (eqE (lenE (compE (seqI (varE 4)) [5] (nameG 5) (notT (boolT (isiE .str (varE 5)))) (varE 5))) (conE (.int 0))))
 nextS)))) ρ := rfl
def Fb__law_words_good : Ev → Ot := (seqS (asgS 1 (compE (rng1I [(modE (varE 0) (conE (.int 6)))]) [3] (nameG 3) yesT (callE F__law_word [(callE F__law_stirred [(varE 0), (addE (conE (.int 30)) (varE 3))]), (addE (conE (.int 1)) (modE (callE F__law_stirred [(varE 0), (addE (conE (.int 60)) (varE 3))]) (conE (.int 9))))])))
 (seqS (asgS 2 (mulSE (conE (.str " ")) (modE (divE (varE 0) (conE (.int 6))) (conE (.int 3)))))
 (seqS (forS (rng1I [(lenE (varE 1))]) (nameG 3) B__law_words_good_1)
 C__law_words_good_2)))
def F__law_words_good : List Dt → Rs Dt := defF 1 6 .F Fb__law_words_good
def B_law_1 : Ev → Ot := (seqS (asgS 2 (callE F__law_stirred [(callE F__law_cell_at [(varE 0), (varE 1)]), (conE (.int 1))]))
 (seqS (asgS 3 (ixE (lstE [(modE (varE 2) (conE (.int 12))), (modE (mulE (mulE (mulE (varE 2) (varE 2)) (varE 2)) (varE 2)) (powE (conE (.int 10)) (conE (.int 31)))), (varE 2)]) (modE (divE (varE 2) (conE (.int 12))) (conE (.int 3)))))
 (seqS (asgS 4 (callE F__law_text [(varE 3), (callE F__law_stirred [(callE F__law_cell_at [(varE 0), (addE (varE 1) (conE (.int 1)))]), (conE (.int 2))])]))
 (seqS (asgS 5 (callE F_page_number [(varE 4)]))
 (seqS (asgS 6 (callE F__law_due [(varE 4)]))
 (seqS (ifS (orT (andT (boolT (isNE (varE 6))) (boolT (notNE (varE 5)))) (orT (andT (boolT (notNE (varE 6))) (boolT (neE (varE 5) (varE 6)))) (boolT (isiE .bool (varE 5))))) (seqS (retS (conE (.bl false)))
 nextS) nextS)
 (seqS (ifS (notT (boolT (callE F__law_words_good [(callE F__law_stirred [(callE F__law_cell_at [(varE 0), (addE (varE 1) (conE (.int 2)))]), (conE (.int 3))])]))) (seqS (retS (conE (.bl false)))
 nextS) nextS)
 (fgtS [1, 2, 3, 4, 5, 6] nextS))))))))
theorem e_B_law_1 {ρ : Ev} : B_law_1 ρ = (seqS (asgS 2 (callE F__law_stirred [(callE F__law_cell_at [(varE 0), (varE 1)]), (conE (.int 1))]))
 (seqS (asgS 3 (ixE (lstE [(modE (varE 2) (conE (.int 12))), (modE (mulE (mulE (mulE (varE 2) (varE 2)) (varE 2)) (varE 2)) (powE (conE (.int 10)) (conE (.int 31)))), (varE 2)]) (modE (divE (varE 2) (conE (.int 12))) (conE (.int 3)))))
 (seqS (asgS 4 (callE F__law_text [(varE 3), (callE F__law_stirred [(callE F__law_cell_at [(varE 0), (addE (varE 1) (conE (.int 1)))]), (conE (.int 2))])]))
 (seqS (asgS 5 (callE F_page_number [(varE 4)]))
 (seqS (asgS 6 (callE F__law_due [(varE 4)]))
 (seqS (ifS (orT (andT (boolT (isNE (varE 6))) (boolT (notNE (varE 5)))) (orT (andT (boolT (notNE (varE 6))) (boolT (neE (varE 5) (varE 6)))) (boolT (isiE .bool (varE 5))))) (seqS (retS (conE (.bl false)))
 nextS) nextS)
 (seqS (ifS (notT (boolT (callE F__law_words_good [(callE F__law_stirred [(callE F__law_cell_at [(varE 0), (addE (varE 1) (conE (.int 2)))]), (conE (.int 3))])]))) (seqS (retS (conE (.bl false)))
 nextS) nextS)
 (fgtS [1, 2, 3, 4, 5, 6] nextS)))))))) ρ := rfl
def C_law_2 : Ev → Ot := (seqS (retS (conE (.bl true)))
 nextS)
theorem e_C_law_2 {ρ : Ev} : C_law_2 ρ = (seqS (retS (conE (.bl true)))
 nextS) ρ := rfl
def Fb_law : Ev → Ot := (seqS (forS (rng3I [(conE (.int 0)), (addE (lenE (varE 0)) (conE (.int 1))), (conE (.int 3))]) (nameG 1) B_law_1)
 C_law_2)
def F_law : List Dt → Rs Dt := defF 1 7 .F Fb_law
theorem R_all_among {d0 d1 : Dt} : F_all_among [d0, d1] = outF .F (Fb_all_among [some d0, some d1, none]) := v_def rfl
theorem R_page_number {d0 : Dt} : F_page_number [d0] = outF .F (Fb_page_number [some d0]) := v_def rfl
theorem R_words_of {d0 : Dt} : F_words_of [d0] = outF .F (Fb_words_of [some d0, none]) := v_def rfl
theorem R__law_cell_at {d0 d1 : Dt} : F__law_cell_at [d0, d1] = outF .F (Fb__law_cell_at [some d0, some d1, none, none]) := v_def rfl
theorem R__law_stirred {d0 d1 : Dt} : F__law_stirred [d0, d1] = outF .F (Fb__law_stirred [some d0, some d1, none]) := v_def rfl
theorem R__law_text {d0 d1 : Dt} : F__law_text [d0, d1] = outF .F (Fb__law_text [some d0, some d1, none, none, none]) := v_def rfl
theorem R__law_due {d0 : Dt} : F__law_due [d0] = outF .F (Fb__law_due [some d0, none]) := v_def rfl
theorem R__law_word {d0 d1 : Dt} : F__law_word [d0, d1] = outF .F (Fb__law_word [some d0, some d1, none, none]) := v_def rfl
theorem R__law_words_good {d0 : Dt} : F__law_words_good [d0] = outF .F (Fb__law_words_good [some d0, none, none, none, none, none]) := v_def rfl
theorem R_law {d0 : Dt} : F_law [d0] = outF .F (Fb_law [some d0, none, none, none, none, none, none]) := v_def rfl
section
variable {P : Program} {w : World} {K : PySem.W.Frag} {mg : Str → Option Value}
theorem sc_all_among : FnScope ["word", "signs", "sign"] ["word", "signs"] (defScope s_all_among) := ⟨rfl, rfl, rfl, by decide +kernel, rfl, by decide +kernel, by decide +kernel⟩
theorem ok_all_among (T : Txt K mg) : ∃ fd, (∀ base : Heap, FnOk P w K mg base (L2.CX P w) 1 (He.ga K "all_among") fd ["word", "signs"] (spM K (He.ga K) 2 .F F_all_among)) ∧ Binds K fd ["word", "signs"] [] ∧ PySem.W.keepIn K (.ref (He.ga K "all_among")) = true := by
  obtain ⟨fd, F⟩ := T.d_all_among
  have nd := sc_all_among.nd
  refine ⟨fd, fun base => ?_, F.bindsN (fun _ _ _ _ _ _ us hl => match us, hl with | [_, _], _ => rfl), F.kp⟩
  refine fn_def (Γ0 := [.F, .F, .F]) (Γ1 := [.F, .F, .F]) F sc_all_among rfl (hpF (n := 2) rfl (by decide)) (fun cdv A outer s H E hr => ?_)
  refine ⟨_, ?_, (ss_seq (ss_for (vs := [2]) (si_str (se_B (se_var (i := 0) rfl))) (sg_name (i := 2)) (ss_seq (ss_if (st_val (se_B (se_ninS (se_B (se_var (i := 2) rfl)) (se_B (se_var (i := 1) rfl))))) (ss_seq (ss_ret se_bl (.inl rfl))
 ss_next) ss_next (.inl rfl))
 (ss_fgt (vs := [2]) ss_next)) (.inl rfl))
 (ss_seq (ss_ret (se_ne (se_B (se_var (i := 0) rfl)) (se_B se_str)) (.inl rfl))
 ss_next))⟩
  exact (pss_cons (ps_for (passes_of rfl) rfl (pi_str (pv 0)) (pg_name (i := 2) nd rfl (by first | exact Or.inl rfl | exact Or.inr rfl)) (pss_cons (ps_if (pt_cmpR op_notIn_sign (pv 2) (pv 1) (by rfl)) (pss_cons (ps_ret pe_bl)
 pss_nil) pss_nil)
 pss_nil))
 (pss_cons (ps_ret (pe_cmpR (op_neD hr.units) (pv 0) pe_str (nomark _)))
 pss_nil))
theorem sc_page_number : FnScope ["word"] ["word"] (defScope s_page_number) := ⟨rfl, rfl, rfl, by decide +kernel, rfl, by decide +kernel, by decide +kernel⟩
theorem ok_page_number (T : Txt K mg) : ∃ fd, (∀ base : Heap, FnOk P w K mg base (L2.CX P w) 2 (He.ga K "page_number") fd ["word"] (spM K (He.ga K) 1 .F F_page_number)) ∧ Binds K fd ["word"] [] ∧ PySem.W.keepIn K (.ref (He.ga K "page_number")) = true := by
  obtain ⟨fd, F⟩ := T.d_page_number
  obtain ⟨fd_all_among, G_all_among, b_all_among, k_all_among⟩ := ok_all_among (P := P) (w := w) T
  have nd := sc_page_number.nd
  refine ⟨fd, fun base => ?_, F.bindsN (fun _ _ _ _ _ _ us hl => match us, hl with | [_], _ => rfl), F.kp⟩
  have G_all_among := G_all_among base
  refine fn_def (Γ0 := [.F]) (Γ1 := [.F]) F sc_page_number rfl (hpF (n := 1) rfl (by decide)) (fun cdv A outer s H E hr => ?_)
  refine ⟨_, ?_, (ss_seq (ss_if (st_or (st_val (se_B (se_gt (se_B (se_len (se_B (se_var (i := 0) rfl)))) (se_B se_int)))) (st_or (st_not (st_valB (se_B (se_call (m := .F) (sz_cons (se_var (i := 0) rfl) (sz_cons se_str sz_nil)))))) (st_and (st_val (se_B (se_eq (se_B (se_ix (se_S (se_var (i := 0) rfl)) (se_B se_int))) (se_B se_str)))) (st_val (se_B (se_ne (se_B (se_var (i := 0) rfl)) (se_B se_str))))))) (ss_seq (ss_ret se_non (.inl rfl))
 ss_next) ss_next (.inl rfl))
 (ss_seq (ss_ret (se_intT (se_B (se_var (i := 0) rfl))) (.inl rfl))
 ss_next))⟩
  exact (pss_cons (ps_if (PW.pt (pw_or (pt_cmpR op_gt (pe_callB call_len (by rfl) T.b_len (by decide +kernel) (pa_cons (pv 0) pa_nil)) (pe_globI T.i_MOST_FIGURES) (nomark _)) (pw_or (pt_not (pt_val (pe_callS G_all_among (hr.mono (by decide)) rfl T.g_all_among k_all_among b_all_among (fun σ => passAt (takes_of rfl rfl rfl rfl) σ) (pa_cons (pv 0) (pa_cons (pe_globStr T.i_FIGURES) pa_nil))))) (pw_or1 (PW.pt (pw_and (pt_cmpR (op_eqD hr.units) (pe_ix ix_seq (pv 0) pe_int (fun _ _ => rfl)) pe_str (nomark _)) (pw_and1 (pt_cmpR (op_neD hr.units) (pv 0) pe_str (nomark _))))))))) (pss_cons (ps_ret pe_non)
 pss_nil) pss_nil)
 (pss_cons (ps_ret (pe_callTy call_int_str (by rfl) T.b_int (by decide +kernel) (pa_cons (pv 0) pa_nil)))
 pss_nil))
theorem sc_words_of : FnScope ["row", "word"] ["row"] (defScope s_words_of) := ⟨rfl, rfl, rfl, by decide +kernel, rfl, by decide +kernel, by decide +kernel⟩
theorem ok_words_of (T : Txt K mg) : ∃ fd, (∀ base : Heap, FnOk P w K mg base (L2.CX P w) 1 (He.ga K "words_of") fd ["row"] (spM K (He.ga K) 1 .F F_words_of)) ∧ Binds K fd ["row"] [] ∧ PySem.W.keepIn K (.ref (He.ga K "words_of")) = true := by
  obtain ⟨fd, F⟩ := T.d_words_of
  have nd := sc_words_of.nd
  refine ⟨fd, fun base => ?_, F.bindsN (fun _ _ _ _ _ _ us hl => match us, hl with | [_], _ => rfl), F.kp⟩
  refine fn_def (Γ0 := [.F, .F]) (Γ1 := [.F, .F]) F sc_words_of rfl (hpF (n := 1) rfl (by decide)) (fun cdv A outer s H E hr => ?_)
  refine ⟨_, ?_, (ss_seq (ss_ret (se_frz (se_comp (vs := [1]) (m := .F) (si_seqX (se_LS (se_split (se_B (se_ix (se_S (se_part (se_B (se_var (i := 0) rfl)) (se_B se_str))) (se_B se_int))) (se_B se_str)))) (sg_name (i := 1)) (st_val (se_B (se_ne (se_B (se_var (i := 1) rfl)) (se_B se_str)))) (se_var (i := 1) rfl))) (.inl rfl))
 ss_next)⟩
  exact (pss_cons (ps_ret (pe_lc (own := [("word", 1)]) rfl nd (pi_seqA (pe_split (pe_ix ix_seq (pe_partition (pv 0) pe_str) pe_int (fun _ _ => rfl)) pe_str)) (blkOk_by (N := ["row", "word"]) (sc := defScope s_words_of) (own := [("word", 1)]) (by decide +kernel)) (fun _ _ _ _ _ => (pg_name (i := 1) nd rfl (by first | exact Or.inl rfl | exact Or.inr rfl))) (fun _ _ _ _ _ => (pts_one (pt_cmpR (op_neD hr.units) (pv 1) pe_str (nomark _)))) (fun _ _ _ _ _ => (pv 1))))
 pss_nil)
theorem sc__law_cell_at : FnScope ["script", "k", "stir", "cell"] ["script", "k"] (defScope s__law_cell_at) := ⟨rfl, rfl, rfl, by decide +kernel, rfl, by decide +kernel, by decide +kernel⟩
theorem ok__law_cell_at (T : Txt K mg) : ∃ fd, (∀ base : Heap, FnOk P w K mg base (L2.CX P w) 1 (He.ga K "_law_cell_at") fd ["script", "k"] (spM K (He.ga K) 2 .F F__law_cell_at)) ∧ Binds K fd ["script", "k"] [] ∧ PySem.W.keepIn K (.ref (He.ga K "_law_cell_at")) = true := by
  obtain ⟨fd, F⟩ := T.d__law_cell_at
  have nd := sc__law_cell_at.nd
  refine ⟨fd, fun base => ?_, F.bindsN (fun _ _ _ _ _ _ us hl => match us, hl with | [_, _], _ => rfl), F.kp⟩
  refine fn_def (Γ0 := [.F, .F, .F, .F]) (Γ1 := [.F, .F, .F, .F]) F sc__law_cell_at rfl (hpF (n := 2) rfl (by decide)) (fun cdv A outer s H E hr => ?_)
  refine ⟨_, ?_, (ss_seq (ss_asgF (i := 2) (se_add (se_B (se_len (se_B (se_var (i := 0) rfl)))) (se_B (se_var (i := 1) rfl))) (.inl rfl))
 (ss_seq (ss_for (vs := [3]) (si_seq (se_var (i := 0) rfl)) (sg_name (i := 3)) (ss_seq (ss_asgF (i := 2) (se_mod (se_B (se_add (se_B (se_add (se_B (se_mul (se_B (se_var (i := 2) rfl)) (se_B (se_var (i := 2) rfl)))) (se_B (se_mul (se_B (se_var (i := 3) rfl)) (se_B se_int))))) (se_B se_int))) (se_B se_int)) (.inl rfl))
 (ss_fgt (vs := [3]) ss_next)) (.inl rfl))
 (ss_seq (ss_if (st_val (se_B (se_lt (se_B (se_var (i := 1) rfl)) (se_B (se_len (se_B (se_var (i := 0) rfl))))))) (ss_seq (ss_ret (se_plus (se_var (i := 2) rfl) (se_ix (se_S (se_var (i := 0) rfl)) (se_B (se_var (i := 1) rfl)))) (.inl rfl))
 ss_next) ss_next (.inl rfl))
 (ss_seq (ss_ret (se_var (i := 2) rfl) (.inl rfl))
 ss_next))))⟩
  exact (pss_cons (ps_set (i := 2) nd rfl (by first | exact Or.inl rfl | exact Or.inr rfl) (pe_op op_add (pe_callB call_len (by rfl) T.b_len (by decide +kernel) (pa_cons (pv 0) pa_nil)) (pv 1)))
 (pss_cons (ps_for (passes_of rfl) rfl (pi_seqA (pv 0)) (pg_name (i := 3) nd rfl (by first | exact Or.inl rfl | exact Or.inr rfl)) (pss_cons (ps_set (i := 2) nd rfl (by first | exact Or.inl rfl | exact Or.inr rfl) (pe_op op_mod (pe_op op_add (pe_op op_add (pe_op op_mul (pv 2) (pv 2)) (pe_op op_mul (pv 3) pe_int)) pe_int) pe_int))
 pss_nil))
 (pss_cons (ps_if (pt_cmpR op_lt (pv 1) (pe_callB call_len (by rfl) T.b_len (by decide +kernel) (pa_cons (pv 0) pa_nil)) (nomark _)) (pss_cons (ps_ret (pe_op op_plus (pv 2) (pe_ix ix_seq (pv 0) (pv 1) (fun _ _ => rfl))))
 pss_nil) pss_nil)
 (pss_cons (ps_ret (pv 2))
 pss_nil))))
theorem sc__law_stirred : FnScope ["cell", "k", "stir"] ["cell", "k"] (defScope s__law_stirred) := ⟨rfl, rfl, rfl, by decide +kernel, rfl, by decide +kernel, by decide +kernel⟩
theorem ok__law_stirred (T : Txt K mg) : ∃ fd, (∀ base : Heap, FnOk P w K mg base (L2.CX P w) 1 (He.ga K "_law_stirred") fd ["cell", "k"] (spM K (He.ga K) 2 .F F__law_stirred)) ∧ Binds K fd ["cell", "k"] [] ∧ PySem.W.keepIn K (.ref (He.ga K "_law_stirred")) = true := by
  obtain ⟨fd, F⟩ := T.d__law_stirred
  have nd := sc__law_stirred.nd
  refine ⟨fd, fun base => ?_, F.bindsN (fun _ _ _ _ _ _ us hl => match us, hl with | [_, _], _ => rfl), F.kp⟩
  refine fn_def (Γ0 := [.F, .F, .F]) (Γ1 := [.F, .F, .F]) F sc__law_stirred rfl (hpF (n := 2) rfl (by decide)) (fun cdv A outer s H E hr => ?_)
  refine ⟨_, ?_, (ss_seq (ss_asgF (i := 2) (se_mod (se_B (se_mul (se_B (se_mod (se_B (se_add (se_B (se_add (se_B (se_var (i := 0) rfl)) (se_B (se_mul (se_B se_int) (se_B (se_var (i := 1) rfl)))))) (se_B se_int))) (se_B se_int))) (se_B se_int))) (se_B se_int)) (.inl rfl))
 (ss_seq (ss_asgF (i := 2) (se_mod (se_B (se_mul (se_B (se_var (i := 2) rfl)) (se_B (se_var (i := 2) rfl)))) (se_B se_int)) (.inl rfl))
 (ss_seq (ss_ret (se_div (se_B (se_mod (se_B (se_mul (se_B (se_add (se_B (se_var (i := 2) rfl)) (se_B (se_mul (se_B se_int) (se_B (se_add (se_B (se_var (i := 1) rfl)) (se_B se_int))))))) (se_B se_int))) (se_B se_int))) (se_B se_int)) (.inl rfl))
 ss_next)))⟩
  exact (pss_cons (ps_set (i := 2) nd rfl (by first | exact Or.inl rfl | exact Or.inr rfl) (pe_op op_mod (pe_op op_mul (pe_op op_mod (pe_op op_add (pe_op op_add (pv 0) (pe_op op_mul pe_int (pv 1))) pe_int) pe_int) pe_int) pe_int))
 (pss_cons (ps_set (i := 2) nd rfl (by first | exact Or.inl rfl | exact Or.inr rfl) (pe_op op_mod (pe_op op_mul (pv 2) (pv 2)) pe_int))
 (pss_cons (ps_ret (pe_op op_fdivW (pe_op op_mod (pe_op op_mul (pe_op op_add (pv 2) (pe_op op_mul pe_int (pe_op op_add (pv 1) pe_int))) pe_int) pe_int) pe_int))
 pss_nil)))
theorem sc__law_text : FnScope ["number", "cell", "strange", "text", "at"] ["number", "cell"] (defScope s__law_text) := ⟨rfl, rfl, rfl, by decide +kernel, rfl, by decide +kernel, by decide +kernel⟩
theorem ok__law_text (T : Txt K mg) : ∃ fd, (∀ base : Heap, FnOk P w K mg base (L2.CX P w) 1 (He.ga K "_law_text") fd ["number", "cell"] (spM K (He.ga K) 2 .F F__law_text)) ∧ Binds K fd ["number", "cell"] [] ∧ PySem.W.keepIn K (.ref (He.ga K "_law_text")) = true := by
  obtain ⟨fd, F⟩ := T.d__law_text
  have nd := sc__law_text.nd
  refine ⟨fd, fun base => ?_, F.bindsN (fun _ _ _ _ _ _ us hl => match us, hl with | [_, _], _ => rfl), F.kp⟩
  refine fn_def (Γ0 := [.F, .F, .F, .F, .F]) (Γ1 := [.F, .F, .F, .F, .F]) F sc__law_text rfl (hpF (n := 2) rfl (by decide)) (fun cdv A outer s H E hr => ?_)
  refine ⟨_, ?_, (ss_seq (ss_asgF (i := 2) se_str (.inl rfl))
 (ss_seq (ss_asgF (i := 3) (se_str1 (se_B (se_var (i := 0) rfl))) (.inl rfl))
 (ss_seq (ss_asgF (i := 4) (se_mod (se_B (se_div (se_B (se_var (i := 1) rfl)) (se_B se_int))) (se_B (se_add (se_B (se_len (se_B (se_var (i := 3) rfl)))) (se_B se_int)))) (.inl rfl))
 (ss_seq (ss_if (st_val (se_B (se_eq (se_B (se_mod (se_B (se_var (i := 1) rfl)) (se_B se_int))) (se_B se_int)))) (ss_seq (ss_ret (se_plus (se_ix (se_LS (se_lst (m := .F) (sz_cons se_str (sz_cons se_str (sz_cons se_str (sz_cons se_str (sz_cons (se_plus se_str (se_mulS (se_B se_str) (se_B se_int))) (sz_cons se_str sz_nil)))))))) (se_B (se_mod (se_B (se_div (se_B (se_var (i := 1) rfl)) (se_B se_int))) (se_B se_int)))) (se_var (i := 3) rfl)) (.inl rfl))
 ss_next) ss_next (.inl rfl))
 (ss_seq (ss_if (st_val (se_B (se_eq (se_B (se_mod (se_B (se_var (i := 1) rfl)) (se_B se_int))) (se_B se_int)))) (ss_seq (ss_ret (se_plus (se_plus (se_slc (se_var (i := 3) rfl) so_none (so_some (se_B (se_var (i := 4) rfl)))) (se_ix (se_S (se_var (i := 2) rfl)) (se_B (se_mod (se_B (se_div (se_B (se_var (i := 1) rfl)) (se_B se_int))) (se_B (se_len (se_B (se_var (i := 2) rfl)))))))) (se_slc (se_var (i := 3) rfl) (so_some (se_B (se_var (i := 4) rfl))) so_none)) (.inl rfl))
 ss_next) ss_next (.inl rfl))
 (ss_seq (ss_if (st_val (se_B (se_eq (se_B (se_mod (se_B (se_var (i := 1) rfl)) (se_B se_int))) (se_B se_int)))) (ss_seq (ss_ret (se_ix (se_LS (se_lst (m := .F) (sz_cons se_str (sz_cons se_str (sz_cons se_str (sz_cons se_str (sz_cons se_str (sz_cons se_str sz_nil)))))))) (se_B (se_mod (se_B (se_div (se_B (se_var (i := 1) rfl)) (se_B se_int))) (se_B se_int)))) (.inl rfl))
 ss_next) ss_next (.inl rfl))
 (ss_seq (ss_if (st_val (se_B (se_eq (se_B (se_mod (se_B (se_var (i := 1) rfl)) (se_B se_int))) (se_B se_int)))) (ss_seq (ss_ret (se_plus (se_var (i := 3) rfl) (se_mulS (se_B (se_ix (se_LS (se_lst (m := .F) (sz_cons se_str (sz_cons se_str (sz_cons se_str sz_nil))))) (se_B (se_mod (se_B (se_div (se_B (se_var (i := 1) rfl)) (se_B se_int))) (se_B se_int))))) (se_B (se_sub (se_B se_int) (se_B (se_len (se_B (se_var (i := 3) rfl)))))))) (.inl rfl))
 ss_next) ss_next (.inl rfl))
 (ss_seq (ss_if (st_val (se_B (se_eq (se_B (se_mod (se_B (se_var (i := 1) rfl)) (se_B se_int))) (se_B se_int)))) (ss_seq (ss_ret (se_plus (se_var (i := 3) rfl) (se_mulS (se_B se_str) (se_B (se_sub (se_B se_int) (se_B (se_len (se_B (se_var (i := 3) rfl)))))))) (.inl rfl))
 ss_next) ss_next (.inl rfl))
 (ss_seq (ss_ret (se_var (i := 3) rfl) (.inl rfl))
 ss_next)))))))))⟩
  exact (pss_cons (ps_set (i := 2) nd rfl (by first | exact Or.inl rfl | exact Or.inr rfl) pe_str)
 (pss_cons (ps_set (i := 3) nd rfl (by first | exact Or.inl rfl | exact Or.inr rfl) (pe_callTy call_str_int (by rfl) T.b_str (by decide +kernel) (pa_cons (pv 0) pa_nil)))
 (pss_cons (ps_set (i := 4) nd rfl (by first | exact Or.inl rfl | exact Or.inr rfl) (pe_op op_mod (pe_op op_fdivW (pv 1) pe_int) (pe_op op_add (pe_callB call_len (by rfl) T.b_len (by decide +kernel) (pa_cons (pv 3) pa_nil)) pe_int)))
 (pss_cons (ps_if (pt_cmpR (op_eqD hr.units) (pe_op op_mod (pv 1) pe_int) pe_int (nomark _)) (pss_cons (ps_ret (pe_op op_plus (pe_ix ix_seq (pe_lst (pa_cons pe_str (pa_cons pe_str (pa_cons pe_str (pa_cons pe_str (pa_cons (pe_op op_plus pe_str (pe_op op_mulS pe_str pe_int)) (pa_cons pe_str pa_nil))))))) (pe_op op_mod (pe_op op_fdivW (pv 1) pe_int) pe_int) (fun _ _ => rfl)) (pv 3)))
 pss_nil) pss_nil)
 (pss_cons (ps_if (pt_cmpR (op_eqD hr.units) (pe_op op_mod (pv 1) pe_int) pe_int (nomark _)) (pss_cons (ps_ret (pe_op op_plus (pe_op op_plus (pe_slice sl_any (pv 3) po_none (po_some (pv 4))) (pe_ix ix_seq (pv 2) (pe_op op_mod (pe_op op_fdivW (pv 1) pe_int) (pe_callB call_len (by rfl) T.b_len (by decide +kernel) (pa_cons (pv 2) pa_nil))) (fun _ _ => rfl))) (pe_slice sl_any (pv 3) (po_some (pv 4)) po_none)))
 pss_nil) pss_nil)
 (pss_cons (ps_if (pt_cmpR (op_eqD hr.units) (pe_op op_mod (pv 1) pe_int) pe_int (nomark _)) (pss_cons (ps_ret (pe_ix ix_seq (pe_lst (pa_cons pe_str (pa_cons pe_str (pa_cons pe_str (pa_cons pe_str (pa_cons pe_str (pa_cons pe_str pa_nil))))))) (pe_op op_mod (pe_op op_fdivW (pv 1) pe_int) pe_int) (fun _ _ => rfl)))
 pss_nil) pss_nil)
 (pss_cons (ps_if (pt_cmpR (op_eqD hr.units) (pe_op op_mod (pv 1) pe_int) pe_int (nomark _)) (pss_cons (ps_ret (pe_op op_plus (pv 3) (pe_op op_mulS (pe_ix ix_seq (pe_lst (pa_cons pe_str (pa_cons pe_str (pa_cons pe_str pa_nil)))) (pe_op op_mod (pe_op op_fdivW (pv 1) pe_int) pe_int) (fun _ _ => rfl)) (pe_op op_sub pe_int (pe_callB call_len (by rfl) T.b_len (by decide +kernel) (pa_cons (pv 3) pa_nil))))))
 pss_nil) pss_nil)
 (pss_cons (ps_if (pt_cmpR (op_eqD hr.units) (pe_op op_mod (pv 1) pe_int) pe_int (nomark _)) (pss_cons (ps_ret (pe_op op_plus (pv 3) (pe_op op_mulS pe_str (pe_op op_sub pe_int (pe_callB call_len (by rfl) T.b_len (by decide +kernel) (pa_cons (pv 3) pa_nil))))))
 pss_nil) pss_nil)
 (pss_cons (ps_ret (pv 3))
 pss_nil)))))))))
theorem sc__law_due : FnScope ["text", "sign"] ["text"] (defScope s__law_due) := ⟨rfl, rfl, rfl, by decide +kernel, rfl, by decide +kernel, by decide +kernel⟩
theorem ok__law_due (T : Txt K mg) : ∃ fd, (∀ base : Heap, FnOk P w K mg base (L2.CX P w) 1 (He.ga K "_law_due") fd ["text"] (spM K (He.ga K) 1 .F F__law_due)) ∧ Binds K fd ["text"] [] ∧ PySem.W.keepIn K (.ref (He.ga K "_law_due")) = true := by
  obtain ⟨fd, F⟩ := T.d__law_due
  have nd := sc__law_due.nd
  refine ⟨fd, fun base => ?_, F.bindsN (fun _ _ _ _ _ _ us hl => match us, hl with | [_], _ => rfl), F.kp⟩
  refine fn_def (Γ0 := [.F, .F]) (Γ1 := [.F, .F]) F sc__law_due rfl (hpF (n := 1) rfl (by decide)) (fun cdv A outer s H E hr => ?_)
  refine ⟨_, ?_, (ss_seq (ss_if (st_or (st_val (se_B (se_eq (se_B (se_var (i := 0) rfl)) (se_B se_str)))) (st_or (st_val (se_B (se_gt (se_B (se_len (se_B (se_var (i := 0) rfl)))) (se_B se_int)))) (st_and (st_val (se_B (se_eq (se_B (se_ix (se_S (se_var (i := 0) rfl)) (se_B se_int))) (se_B se_str)))) (st_val (se_B (se_ne (se_B (se_var (i := 0) rfl)) (se_B se_str))))))) (ss_seq (ss_ret se_non (.inl rfl))
 ss_next) ss_next (.inl rfl))
 (ss_seq (ss_for (vs := [1]) (si_str (se_B (se_var (i := 0) rfl))) (sg_name (i := 1)) (ss_seq (ss_if (st_val (se_B (se_ninS (se_B (se_var (i := 1) rfl)) (se_B se_str)))) (ss_seq (ss_ret se_non (.inl rfl))
 ss_next) ss_next (.inl rfl))
 (ss_fgt (vs := [1]) ss_next)) (.inl rfl))
 (ss_seq (ss_ret (se_intT (se_B (se_var (i := 0) rfl))) (.inl rfl))
 ss_next)))⟩
  exact (pss_cons (ps_if (PW.pt (pw_or (pt_cmpR (op_eqD hr.units) (pv 0) pe_str (nomark _)) (pw_or (pt_cmpR op_gt (pe_callB call_len (by rfl) T.b_len (by decide +kernel) (pa_cons (pv 0) pa_nil)) pe_int (nomark _)) (pw_or1 (PW.pt (pw_and (pt_cmpR (op_eqD hr.units) (pe_ix ix_seq (pv 0) pe_int (fun _ _ => rfl)) pe_str (nomark _)) (pw_and1 (pt_cmpR (op_neD hr.units) (pv 0) pe_str (nomark _))))))))) (pss_cons (ps_ret pe_non)
 pss_nil) pss_nil)
 (pss_cons (ps_for (passes_of rfl) rfl (pi_str (pv 0)) (pg_name (i := 1) nd rfl (by first | exact Or.inl rfl | exact Or.inr rfl)) (pss_cons (ps_if (pt_cmpR op_notIn_sign (pv 1) pe_str (by rfl)) (pss_cons (ps_ret pe_non)
 pss_nil) pss_nil)
 pss_nil))
 (pss_cons (ps_ret (pe_callTy call_int_str (by rfl) T.b_int (by decide +kernel) (pa_cons (pv 0) pa_nil)))
 pss_nil)))
theorem sc__law_word : FnScope ["cell", "many", "some", "k"] ["cell", "many"] (defScope s__law_word) := ⟨rfl, rfl, rfl, by decide +kernel, rfl, by decide +kernel, by decide +kernel⟩
theorem ok__law_word (T : Txt K mg) : ∃ fd, (∀ base : Heap, FnOk P w K mg base (L2.CX P w) 2 (He.ga K "_law_word") fd ["cell", "many"] (spM K (He.ga K) 2 .F F__law_word)) ∧ Binds K fd ["cell", "many"] [] ∧ PySem.W.keepIn K (.ref (He.ga K "_law_word")) = true := by
  obtain ⟨fd, F⟩ := T.d__law_word
  obtain ⟨fd__law_stirred, G__law_stirred, b__law_stirred, k__law_stirred⟩ := ok__law_stirred (P := P) (w := w) T
  have nd := sc__law_word.nd
  refine ⟨fd, fun base => ?_, F.bindsN (fun _ _ _ _ _ _ us hl => match us, hl with | [_, _], _ => rfl), F.kp⟩
  have G__law_stirred := G__law_stirred base
  refine fn_def (Γ0 := [.F, .F, .F, .F]) (Γ1 := [.F, .F, .F, .F]) F sc__law_word rfl (hpF (n := 2) rfl (by decide)) (fun cdv A outer s H E hr => ?_)
  refine ⟨_, ?_, (ss_seq (ss_asgF (i := 2) se_str (.inl rfl))
 (ss_seq (ss_ret (se_join (se_B se_str) (se_LS (se_comp (vs := [3]) (m := .F) (six (si_rng1 (sb_cons (se_B (se_var (i := 1) rfl)) sb_nil))) (sg_name (i := 3)) st_yes (se_ix (se_S (se_var (i := 2) rfl)) (se_B (se_mod (se_B (se_call (m := .F) (sz_cons (se_var (i := 0) rfl) (sz_cons (se_var (i := 3) rfl) sz_nil)))) (se_B (se_len (se_B (se_var (i := 2) rfl)))))))))) (.inl rfl))
 ss_next))⟩
  exact (pss_cons (ps_set (i := 2) nd rfl (by first | exact Or.inl rfl | exact Or.inr rfl) pe_str)
 (pss_cons (ps_ret (pe_join pe_str (pe_lc (own := [("k", 3)]) rfl nd (pi_range1 rfl T.b_range (pa_cons (pv 1) pa_nil)) (blkOk_by (N := ["cell", "many", "some", "k"]) (sc := defScope s__law_word) (own := [("k", 3)]) (by decide +kernel)) (fun _ _ _ _ _ => (pg_name (i := 3) nd rfl (by first | exact Or.inl rfl | exact Or.inr rfl))) (fun _ _ _ _ _ => pts_nil) (fun _ _ _ _ _ => (pe_ix ix_seq (pv 2) (pe_op op_mod (pe_callS G__law_stirred (hr.mono (by decide)) rfl T.g__law_stirred k__law_stirred b__law_stirred (fun σ => passAt takes0 σ) (pa_cons (pv 0) (pa_cons (pv 3) pa_nil))) (pe_callB call_len (by rfl) T.b_len (by decide +kernel) (pa_cons (pv 2) pa_nil))) (fun _ _ => rfl))))))
 pss_nil))
theorem sc__law_words_good : FnScope ["cell", "words", "row", "k", "found", "word"] ["cell"] (defScope s__law_words_good) := ⟨rfl, rfl, rfl, by decide +kernel, rfl, by decide +kernel, by decide +kernel⟩
theorem ok__law_words_good (T : Txt K mg) : ∃ fd, (∀ base : Heap, FnOk P w K mg base (L2.CX P w) 3 (He.ga K "_law_words_good") fd ["cell"] (spM K (He.ga K) 1 .F F__law_words_good)) ∧ Binds K fd ["cell"] [] ∧ PySem.W.keepIn K (.ref (He.ga K "_law_words_good")) = true := by
  obtain ⟨fd, F⟩ := T.d__law_words_good
  obtain ⟨fd__law_stirred, G__law_stirred, b__law_stirred, k__law_stirred⟩ := ok__law_stirred (P := P) (w := w) T
  obtain ⟨fd__law_word, G__law_word, b__law_word, k__law_word⟩ := ok__law_word (P := P) (w := w) T
  obtain ⟨fd_words_of, G_words_of, b_words_of, k_words_of⟩ := ok_words_of (P := P) (w := w) T
  have nd := sc__law_words_good.nd
  refine ⟨fd, fun base => ?_, F.bindsN (fun _ _ _ _ _ _ us hl => match us, hl with | [_], _ => rfl), F.kp⟩
  have G__law_stirred := G__law_stirred base
  have G__law_word := G__law_word base
  have G_words_of := G_words_of base
  refine fn_def (Γ0 := [.F, .F, .F, .F, .F, .F]) (Γ1 := [.F, .F, .F, .F, .F, .F]) F sc__law_words_good rfl (hpF (n := 1) rfl (by decide)) (fun cdv A outer s H E hr => ?_)
  refine ⟨_, ?_, (ss_seq (ss_asgF (i := 1) (se_frz (se_comp (vs := [3]) (m := .F) (six (si_rng1 (sb_cons (se_B (se_mod (se_B (se_var (i := 0) rfl)) (se_B se_int))) sb_nil))) (sg_name (i := 3)) st_yes (se_call (m := .F) (sz_cons (se_call (m := .F) (sz_cons (se_var (i := 0) rfl) (sz_cons (se_add (se_B se_int) (se_B (se_var (i := 3) rfl))) sz_nil))) (sz_cons (se_add (se_B se_int) (se_B (se_mod (se_B (se_call (m := .F) (sz_cons (se_var (i := 0) rfl) (sz_cons (se_add (se_B se_int) (se_B (se_var (i := 3) rfl))) sz_nil)))) (se_B se_int)))) sz_nil))))) (.inl rfl))
 (ss_seq (ss_asgF (i := 2) (se_mulS (se_B se_str) (se_B (se_mod (se_B (se_div (se_B (se_var (i := 0) rfl)) (se_B se_int))) (se_B se_int)))) (.inl rfl))
 (ss_seq (ss_for (vs := [3]) (si_rng1 (sb_cons (se_B (se_len (se_B (se_var (i := 1) rfl)))) sb_nil)) (sg_name (i := 3)) (ss_seq (ss_if (st_val (se_B (se_gt (se_B (se_var (i := 3) rfl)) (se_B se_int)))) (ss_seq (ss_asgF (i := 2) (se_plus (se_var (i := 2) rfl) (se_mulS (se_B se_str) (se_B (se_add (se_B se_int) (se_B (se_mod (se_B (se_call (m := .F) (sz_cons (se_var (i := 0) rfl) (sz_cons (se_add (se_B se_int) (se_B (se_var (i := 3) rfl))) sz_nil)))) (se_B se_int))))))) (.inl rfl))
 ss_next) ss_next (.inl rfl))
 (ss_seq (ss_asgF (i := 2) (se_plus (se_var (i := 2) rfl) (se_ix (se_S (se_var (i := 1) rfl)) (se_B (se_var (i := 3) rfl)))) (.inl rfl))
 (ss_fgt (vs := [3]) ss_next))) (.inl rfl))
 (ss_seq (ss_asgF (i := 2) (se_plus (se_var (i := 2) rfl) (se_ix (se_LS (se_lst (m := .F) (sz_cons se_str (sz_cons se_str (sz_cons se_str (sz_cons se_str (sz_cons se_str (sz_cons (se_plus se_str (se_call (m := .F) (sz_cons (se_var (i := 0) rfl) (sz_cons se_int sz_nil)))) sz_nil)))))))) (se_B (se_mod (se_B (se_div (se_B (se_var (i := 0) rfl)) (se_B se_int))) (se_B se_int))))) (.inl rfl))
 (ss_seq (ss_asgF (i := 4) (se_call (m := .F) (sz_cons (se_var (i := 2) rfl) sz_nil)) (.inl rfl))
 (ss_seq (ss_if (st_or (st_not (st_valB (se_B (se_isi (c := .list) (by decide) (se_B (se_var (i := 4) rfl)))))) (st_val (se_B (se_ne (se_B (se_var (i := 4) rfl)) (se_B (se_var (i := 1) rfl)))))) (ss_seq (ss_ret se_bl (.inl rfl))
 ss_next) ss_next (.inl rfl))
 (ss_seq (ss_ret (se_eq (se_B (se_len (se_B (se_comp (vs := [5]) (m := .F) (six (si_seq (se_var (i := 4) rfl))) (sg_name (i := 5)) (st_not (st_valB (se_B (se_isi (c := .str) (by decide) (se_B (se_var (i := 5) rfl)))))) (se_var (i := 5) rfl))))) (se_B se_int)) (.inl rfl))
 ss_next)))))))⟩
  exact (pss_cons (ps_setLc (i := 1) (own := [("k", 3)]) rfl nd rfl rfl (sw_true rfl rfl rfl (by decide +kernel)) (pi_range1 rfl T.b_range (pa_cons (pe_op op_mod (pv 0) pe_int) pa_nil)) (blkOk_by (N := ["cell", "words", "row", "k", "found", "word"]) (sc := defScope s__law_words_good) (own := [("k", 3)]) (by decide +kernel)) (fun _ _ _ _ _ => (pg_name (i := 3) nd rfl (by first | exact Or.inl rfl | exact Or.inr rfl))) (fun _ _ _ _ _ => pts_nil) (fun _ _ _ _ _ => (pe_callS G__law_word (hr.mono (by decide)) rfl T.g__law_word k__law_word b__law_word (fun σ => passAt takes0 σ) (pa_cons (pe_callS G__law_stirred (hr.mono (by decide)) rfl T.g__law_stirred k__law_stirred b__law_stirred (fun σ => passAt takes0 σ) (pa_cons (pv 0) (pa_cons (pe_op op_add pe_int (pv 3)) pa_nil))) (pa_cons (pe_op op_add pe_int (pe_op op_mod (pe_callS G__law_stirred (hr.mono (by decide)) rfl T.g__law_stirred k__law_stirred b__law_stirred (fun σ => passAt takes0 σ) (pa_cons (pv 0) (pa_cons (pe_op op_add pe_int (pv 3)) pa_nil))) pe_int)) pa_nil)))))
 (pss_cons (ps_set (i := 2) nd rfl (by first | exact Or.inl rfl | exact Or.inr rfl) (pe_op op_mulS pe_str (pe_op op_mod (pe_op op_fdivW (pv 0) pe_int) pe_int)))
 (pss_cons (ps_for (passes_of rfl) rfl (pi_range1 rfl T.b_range (pa_cons (pe_callB call_len (by rfl) T.b_len (by decide +kernel) (pa_cons (pv 1) pa_nil)) pa_nil)) (pg_name (i := 3) nd rfl (by first | exact Or.inl rfl | exact Or.inr rfl)) (pss_cons (ps_if (pt_cmpR op_gt (pv 3) pe_int (nomark _)) (pss_cons (ps_set (i := 2) nd rfl (by first | exact Or.inl rfl | exact Or.inr rfl) (pe_op op_plus (pv 2) (pe_op op_mulS pe_str (pe_op op_add pe_int (pe_op op_mod (pe_callS G__law_stirred (hr.mono (by decide)) rfl T.g__law_stirred k__law_stirred b__law_stirred (fun σ => passAt (takes_of rfl rfl rfl rfl) σ) (pa_cons (pv 0) (pa_cons (pe_op op_add pe_int (pv 3)) pa_nil))) pe_int)))))
 pss_nil) pss_nil)
 (pss_cons (ps_set (i := 2) nd rfl (by first | exact Or.inl rfl | exact Or.inr rfl) (pe_op op_plus (pv 2) (pe_ix ix_seq (pv 1) (pv 3) (fun _ _ => rfl))))
 pss_nil)))
 (pss_cons (ps_set (i := 2) nd rfl (by first | exact Or.inl rfl | exact Or.inr rfl) (pe_op op_plus (pv 2) (pe_ix ix_seq (pe_lst (pa_cons pe_str (pa_cons pe_str (pa_cons pe_str (pa_cons pe_str (pa_cons pe_str (pa_cons (pe_op op_plus pe_str (pe_callS G__law_word (hr.mono (by decide)) rfl T.g__law_word k__law_word b__law_word (fun σ => passAt (takes_of rfl rfl rfl rfl) σ) (pa_cons (pv 0) (pa_cons pe_int pa_nil)))) pa_nil))))))) (pe_op op_mod (pe_op op_fdivW (pv 0) pe_int) pe_int) (fun _ _ => rfl))))
 (pss_cons (ps_set (i := 4) nd rfl (by first | exact Or.inl rfl | exact Or.inr rfl) (pe_callS G_words_of (hr.mono (by decide)) rfl T.g_words_of k_words_of b_words_of (fun σ => passAt (takes_of rfl rfl rfl rfl) σ) (pa_cons (pv 2) pa_nil)))
 (pss_cons (ps_if (PW.pt (pw_or (pt_not (pt_val (pe_callB call_isi (by rfl) T.b_isinstance (by decide +kernel) (pa_cons (pv 4) (pa_cons (pe_bltn (v := .ty "list") rfl T.b_list (by decide +kernel) rfl) pa_nil))))) (pw_or1 (pt_cmpR (op_neD hr.units) (pv 4) (pv 1) (nomark _))))) (pss_cons (ps_ret pe_bl)
 pss_nil) pss_nil)
 (pss_cons (ps_ret (pe_cmpR (op_eqD hr.units) (pe_callB call_len (by rfl) T.b_len (by decide +kernel) (pa_cons (pe_lc (own := [("word", 5)]) rfl nd (pi_seqA (pv 4)) (blkOk_by (N := ["cell", "words", "row", "k", "found", "word"]) (sc := defScope s__law_words_good) (own := [("word", 5)]) (by decide +kernel)) (fun _ _ _ _ _ => (pg_name (i := 5) nd rfl (by first | exact Or.inl rfl | exact Or.inr rfl))) (fun _ _ _ _ _ => (pts_one (pt_not (pt_val (pe_callB call_isi (by rfl) T.b_isinstance (by decide +kernel) (pa_cons (pv 5) (pa_cons (pe_bltn (v := .ty "str") rfl T.b_str (by decide +kernel) rfl) pa_nil))))))) (fun _ _ _ _ _ => (pv 5))) pa_nil)) pe_int (nomark _)))
 pss_nil)))))))
theorem sc_law : FnScope ["script", "k", "cell", "number", "text", "found", "due"] ["script"] (defScope s_law) := ⟨rfl, rfl, rfl, by decide +kernel, rfl, by decide +kernel, by decide +kernel⟩
theorem ok_law (T : Txt K mg) : ∃ fd, (∀ base : Heap, FnOk P w K mg base (L2.CX P w) 4 (He.ga K "law") fd ["script"] (spM K (He.ga K) 1 .F F_law)) ∧ Binds K fd ["script"] [] ∧ PySem.W.keepIn K (.ref (He.ga K "law")) = true ∧ ∀ (s : Shared) (v : Value), BindsTo s fd ⟨[v], []⟩ [("script", v)] := by
  obtain ⟨fd, F⟩ := T.d_law
  obtain ⟨fd__law_cell_at, G__law_cell_at, b__law_cell_at, k__law_cell_at⟩ := ok__law_cell_at (P := P) (w := w) T
  obtain ⟨fd__law_due, G__law_due, b__law_due, k__law_due⟩ := ok__law_due (P := P) (w := w) T
  obtain ⟨fd__law_stirred, G__law_stirred, b__law_stirred, k__law_stirred⟩ := ok__law_stirred (P := P) (w := w) T
  obtain ⟨fd__law_text, G__law_text, b__law_text, k__law_text⟩ := ok__law_text (P := P) (w := w) T
  obtain ⟨fd__law_words_good, G__law_words_good, b__law_words_good, k__law_words_good⟩ := ok__law_words_good (P := P) (w := w) T
  obtain ⟨fd_page_number, G_page_number, b_page_number, k_page_number⟩ := ok_page_number (P := P) (w := w) T
  have nd := sc_law.nd
  refine ⟨fd, fun base => ?_, F.bindsN (fun _ _ _ _ _ _ us hl => match us, hl with | [_], _ => rfl), F.kp, fun s v => FunD.bindsA (ps := ["script"]) F (fun _ _ _ _ _ _ us hl => match us, hl with | [_], _ => rfl) s [v] rfl⟩
  have G__law_cell_at := G__law_cell_at base
  have G__law_due := G__law_due base
  have G__law_stirred := G__law_stirred base
  have G__law_text := G__law_text base
  have G__law_words_good := G__law_words_good base
  have G_page_number := G_page_number base
  refine fn_def (Γ0 := [.F, .F, .F, .F, .F, .F, .F]) (Γ1 := [.F, .F, .F, .F, .F, .F, .F]) F sc_law rfl (hpF (n := 1) rfl (by decide)) (fun cdv A outer s H E hr => ?_)
  refine ⟨_, ?_, (ss_seq (ss_for (vs := [1]) (si_rng3 (sb_cons (se_B se_int) (sb_cons (se_B (se_add (se_B (se_len (se_B (se_var (i := 0) rfl)))) (se_B se_int))) (sb_cons (se_B se_int) sb_nil)))) (sg_name (i := 1)) (ss_seq (ss_asgF (i := 2) (se_call (m := .F) (sz_cons (se_call (m := .F) (sz_cons (se_var (i := 0) rfl) (sz_cons (se_var (i := 1) rfl) sz_nil))) (sz_cons se_int sz_nil))) (.inl rfl))
 (ss_seq (ss_asgF (i := 3) (se_ix (se_LS (se_lst (m := .F) (sz_cons (se_mod (se_B (se_var (i := 2) rfl)) (se_B se_int)) (sz_cons (se_mod (se_B (se_mul (se_B (se_mul (se_B (se_mul (se_B (se_var (i := 2) rfl)) (se_B (se_var (i := 2) rfl)))) (se_B (se_var (i := 2) rfl)))) (se_B (se_var (i := 2) rfl)))) (se_B (se_pow (se_B se_int) (se_B se_int)))) (sz_cons (se_var (i := 2) rfl) sz_nil))))) (se_B (se_mod (se_B (se_div (se_B (se_var (i := 2) rfl)) (se_B se_int))) (se_B se_int)))) (.inl rfl))
 (ss_seq (ss_asgF (i := 4) (se_call (m := .F) (sz_cons (se_var (i := 3) rfl) (sz_cons (se_call (m := .F) (sz_cons (se_call (m := .F) (sz_cons (se_var (i := 0) rfl) (sz_cons (se_add (se_B (se_var (i := 1) rfl)) (se_B se_int)) sz_nil))) (sz_cons se_int sz_nil))) sz_nil))) (.inl rfl))
 (ss_seq (ss_asgF (i := 5) (se_call (m := .F) (sz_cons (se_var (i := 4) rfl) sz_nil)) (.inl rfl))
 (ss_seq (ss_asgF (i := 6) (se_call (m := .F) (sz_cons (se_var (i := 4) rfl) sz_nil)) (.inl rfl))
 (ss_seq (ss_if (st_or (st_and (st_val (se_B (se_isN (se_B (se_var (i := 6) rfl))))) (st_val (se_B (se_notN (se_B (se_var (i := 5) rfl)))))) (st_or (st_and (st_val (se_B (se_notN (se_B (se_var (i := 6) rfl))))) (st_val (se_B (se_ne (se_B (se_var (i := 5) rfl)) (se_B (se_var (i := 6) rfl)))))) (st_valB (se_B (se_isi (c := .bool) (by decide) (se_B (se_var (i := 5) rfl))))))) (ss_seq (ss_ret se_bl (.inl rfl))
 ss_next) ss_next (.inl rfl))
 (ss_seq (ss_if (st_not (st_valB (se_B (se_call (m := .F) (sz_cons (se_call (m := .F) (sz_cons (se_call (m := .F) (sz_cons (se_var (i := 0) rfl) (sz_cons (se_add (se_B (se_var (i := 1) rfl)) (se_B se_int)) sz_nil))) (sz_cons se_int sz_nil))) sz_nil))))) (ss_seq (ss_ret se_bl (.inl rfl))
 ss_next) ss_next (.inl rfl))
 (ss_fgt (vs := [1, 2, 3, 4, 5, 6]) ss_next)))))))) (.inl rfl))
 (ss_seq (ss_ret se_bl (.inl rfl))
 ss_next))⟩
  exact (pss_cons (ps_for (passes_of rfl) rfl (pi_range3 rfl T.b_range (pa_cons pe_int (pa_cons (pe_op op_add (pe_callB call_len (by rfl) T.b_len (by decide +kernel) (pa_cons (pv 0) pa_nil)) pe_int) (pa_cons pe_int pa_nil)))) (pg_name (i := 1) nd rfl (by first | exact Or.inl rfl | exact Or.inr rfl)) (pss_cons (ps_set (i := 2) nd rfl (by first | exact Or.inl rfl | exact Or.inr rfl) (pe_callS G__law_stirred (hr.mono (by decide)) rfl T.g__law_stirred k__law_stirred b__law_stirred (fun σ => passAt (takes_of rfl rfl rfl rfl) σ) (pa_cons (pe_callS G__law_cell_at (hr.mono (by decide)) rfl T.g__law_cell_at k__law_cell_at b__law_cell_at (fun σ => passAt (takes_of rfl rfl rfl rfl) σ) (pa_cons (pv 0) (pa_cons (pv 1) pa_nil))) (pa_cons pe_int pa_nil))))
 (pss_cons (ps_set (i := 3) nd rfl (by first | exact Or.inl rfl | exact Or.inr rfl) (pe_ix ix_seq (pe_lst (pa_cons (pe_op op_mod (pv 2) pe_int) (pa_cons (pe_op op_mod (pe_op op_mul (pe_op op_mul (pe_op op_mul (pv 2) (pv 2)) (pv 2)) (pv 2)) (pe_op op_pow pe_int pe_int)) (pa_cons (pv 2) pa_nil)))) (pe_op op_mod (pe_op op_fdivW (pv 2) pe_int) pe_int) (fun _ _ => rfl)))
 (pss_cons (ps_set (i := 4) nd rfl (by first | exact Or.inl rfl | exact Or.inr rfl) (pe_callS G__law_text (hr.mono (by decide)) rfl T.g__law_text k__law_text b__law_text (fun σ => passAt (takes_of rfl rfl rfl rfl) σ) (pa_cons (pv 3) (pa_cons (pe_callS G__law_stirred (hr.mono (by decide)) rfl T.g__law_stirred k__law_stirred b__law_stirred (fun σ => passAt (takes_of rfl rfl rfl rfl) σ) (pa_cons (pe_callS G__law_cell_at (hr.mono (by decide)) rfl T.g__law_cell_at k__law_cell_at b__law_cell_at (fun σ => passAt (takes_of rfl rfl rfl rfl) σ) (pa_cons (pv 0) (pa_cons (pe_op op_add (pv 1) pe_int) pa_nil))) (pa_cons pe_int pa_nil))) pa_nil))))
 (pss_cons (ps_set (i := 5) nd rfl (by first | exact Or.inl rfl | exact Or.inr rfl) (pe_callS G_page_number (hr.mono (by decide)) rfl T.g_page_number k_page_number b_page_number (fun σ => passAt (takes_of rfl rfl rfl rfl) σ) (pa_cons (pv 4) pa_nil)))
 (pss_cons (ps_set (i := 6) nd rfl (by first | exact Or.inl rfl | exact Or.inr rfl) (pe_callS G__law_due (hr.mono (by decide)) rfl T.g__law_due k__law_due b__law_due (fun σ => passAt (takes_of rfl rfl rfl rfl) σ) (pa_cons (pv 4) pa_nil)))
 (pss_cons (ps_if (PW.pt (pw_or (PW.pt (pw_and (pt_cmpR op_isN (pv 6) pe_non (nomark _)) (pw_and1 (pt_cmpR op_notN (pv 5) pe_non (nomark _))))) (pw_or (PW.pt (pw_and (pt_cmpR op_notN (pv 6) pe_non (nomark _)) (pw_and1 (pt_cmpR (op_neD hr.units) (pv 5) (pv 6) (nomark _))))) (pw_or1 (pt_val (pe_callB call_isi (by rfl) T.b_isinstance (by decide +kernel) (pa_cons (pv 5) (pa_cons (pe_bltn (v := .ty "bool") rfl T.b_bool (by decide +kernel) rfl) pa_nil)))))))) (pss_cons (ps_ret pe_bl)
 pss_nil) pss_nil)
 (pss_cons (ps_if (pt_not (pt_val (pe_callS G__law_words_good (hr.mono (by decide)) rfl T.g__law_words_good k__law_words_good b__law_words_good (fun σ => passAt (takes_of rfl rfl rfl rfl) σ) (pa_cons (pe_callS G__law_stirred (hr.mono (by decide)) rfl T.g__law_stirred k__law_stirred b__law_stirred (fun σ => passAt (takes_of rfl rfl rfl rfl) σ) (pa_cons (pe_callS G__law_cell_at (hr.mono (by decide)) rfl T.g__law_cell_at k__law_cell_at b__law_cell_at (fun σ => passAt (takes_of rfl rfl rfl rfl) σ) (pa_cons (pv 0) (pa_cons (pe_op op_add (pv 1) pe_int) pa_nil))) (pa_cons pe_int pa_nil))) pa_nil)))) (pss_cons (ps_ret pe_bl)
 pss_nil) pss_nil)
 pss_nil))))))))
 (pss_cons (ps_ret pe_bl)
 pss_nil))
end
end Pm
namespace Pm
open PySem PySem.Spec L2
local macro_rules | `(tactic| simp? [$xs,*]) => `(tactic| simp (decide := true) (implicitDefEqProofs := false) (disch := first | assumption | omega | (simp only [List.length_map, List.length_append, List.length_cons, List.length_nil, List.length_take, List.length_drop, List.length_reverse, List.length_zip, List.length_range, rangeL_len]; done) | (simp only [List.length_map, List.length_append, List.length_cons, List.length_nil, List.length_take, List.length_drop, List.length_reverse, List.length_zip, List.length_range, rangeL_len]; omega)) only [List.set_cons_zero, List.set_cons_succ, List.map_cons, List.map_nil, List.cons_append, List.nil_append, List.append_nil, List.replicate_succ, List.replicate_zero, Nat.reduceSub, List.length_cons, List.length_nil, Nat.reduceAdd, v_var0, v_varS, v_con, v_fgt, v_add, v_sub, v_mul, v_div, v_mod, v_pow, v_shl, v_lt, v_le, v_gt, v_ge, v_eq, v_ne, v_in, v_nin, v_ix, v_plus, v_cat, v_rep, v_isN, v_notN, v_len, v_neg, v_isi, v_list, v_tuple, v_tupleL, v_fld, v_fldI, v_all, v_any, v_sum, v_max2, v_min2, v_i2, v_addI, v_subI, v_mulL, v_mulR, v_divI, v_modI, v_ltI, v_leI, v_gtI, v_geI, v_negD, v_eqI, v_neI, v_eqB, v_neB, v_lenL, v_lenC, v_lenT, v_listL, v_listC, v_listT, v_tupL, v_tupC, v_tupT, v_tupLL, v_plusI, v_plusL, v_plusT, v_catL, v_slc, v_slcL, v_noPart, v_partO, v_asI, v_cutL, v_cutC, v_cutT, v_cutLL, v_cutLC, v_boolT, v_notT, v_andT, v_orT, v_yes, v_andE, v_orE, v_notE, v_ifE, v_andOk, v_orOk, v_andOkE, v_orOkE, v_isB, v_isI, v_isIB, v_eqS, v_neS, v_asB, v_args0, v_args1, v_tup, v_lst, v_call, v_callB, v_meth, v_methB, v_scal, v_scalI, v_scalB, v_scalS, v_scalN, v_rng1, v_rng2, v_rngD1, v_rngD2, v_seqI, v_tupI, v_seqL, v_seqC, v_seqT, v_seqQ, v_lenQ, v_tupQ, v_tupID, v_zipI, v_zipL, v_zipT, v_enumI, v_enumL, v_enumC, v_revI, v_revL, v_revT, v_comp, v_wipe0, v_wipe1, v_assoc, v_nx, v_end, v_asg, v_drop, v_ret, v_retN, v_raise, v_brk, v_cnt, v_if, v_iteT, v_iteF, v_asgG, v_nameG, v_consG, v_nilG, v_app, v_varP0, v_varPS, v_lstOf, v_set, v_for, v_outR, v_outX, v_outN, v_newF, v_outI, v_outIX, v_try, v_tryN, v_tryRt, v_divmod, v_dvm, v_tupRev, v_trev, v_lrev, v_lrevL, v_dnew, v_dnewT, v_din, v_dget, v_scalE, v_dlen, v_dlenT, v_dlenD, v_dlenTD, v_dgetI, v_dgetS, v_dput, v_ltT, v_gtT, v_sortN, v_sortI, v_sortP, v_int1, v_intI, v_intB, v_bm1, v_pop, v_asgPop, v_appPop, v_callL, v_methL, v_isCE, v_isBE, v_isxT, v_leafR, v_ixP, v_tixP, v_fldP, v_lrng1, v_ext, v_ins, v_chg0, v_index, v_count, divOk_of, smallI_of, intSz_of, lenSz_of, ok_bind, ex_bind, no_bind, bindS_ok, bindS_ex, ↓reduceIte, Option.bind_some, Int.reduceLT, Int.reduceLE, Nat.reduceLeDiff, Int.reduceNeg, Int.reduceEq, Bool.or_true, Bool.true_or, Bool.and_true, Bool.true_and, Bool.false_or, Bool.or_false, Bool.and_false, Bool.false_and, decide_true, decide_false, Bool.not_true, Bool.not_false, Bool.false_eq_true, v_inS, v_ninS, x_inS, x_ninS, v_strI, x_strI, v_str1, x_str1, v_intT, x_intT, v_join, v_split, v_part, v_sw, x_strOf, x_join, x_split, x_part, x_sw, v_mulS, x_mulS, x_lenS, x_plusS, x_cutS, x_isiS, v_rng3, x_rng3, v_setSl, v_callX, v_ltL, v_setFld, v_appPopF, v_lendS, x_lend, v_retFld, x_outL, v_forK, v_compK, v_maxV, x_maxV, v_dcon, v_mv, v_minP, v_leT, v_revS, x_revL, v_maxP, x_tix30, x_tix31, x_tix32, v_asgT, x_asgT2, x_asgT3, v_tryMm, v_tryMN, v_tryMRt, x_tryMT, x_tryMF, v_ninD, v_sortU, v_callS, v_lstA, x_lstA, v_appV, x_appV, v_rrg, v_chE, v_chK, v_sdApp, x_dicOf, v_sortDI, v_notBE, x_notB, x_isB, v_forM, v_whl, v_fgtSeq, v_inDt, x_tryT, x_tryF, v_noXN, v_noXRt, v_tryA, v_tryAN, v_tryART, x_tryA, v_clrN, v_clrRt, x_nnN, x_nnT, x_nnL, x_nnI, x_nnS, x_nnB, x_tyT, x_tyTL, x_tyL, x_tyLT, x_tyS, x_ext, x_ins, x_dget, x_dlen, enumL_zip, x_lrng, x_ixPl, x_tix0, x_tix1, x_appPop, x_appPop2, x_ixLn, x_ixTn, x_ixCn, x_t0, x_t1, x_t2, x_t3, x_l0, x_ixLm, x_ixTm, x_ixLi, x_ixTi, x_ixCi, x_optS, x_mulA, x_mulB, x_divA, x_dvmA, x_modA, x_appA, x_setA, x_rngA1, x_rngA2, x_plusA, x_plusT, x_catA, x_powA, List.getElem?_map, Option.map_some, List.length_map, List.length_append, rangeL_len, Int.reducePow, Int.reduceToNat, Int.toNat_natCast, Int.reduceMul, Int.reduceAdd, Int.reduceSub, Int.reduceDiv, Int.reduceMod, List.getElem?_cons_zero, List.getElem?_cons_succ, beq_self_eq_true, $xs,*])
/-! texts: numbers and words of pages -/
theorem all_snocT {α : Type} {P : α → Prop} {xs : List α} {x : α} (h : ∀ y ∈ xs, P y) (hx : P x) : ∀ y ∈ xs ++ [x], P y := fun y hy => by
  rcases List.mem_append.mp hy with hy | hy
  · exact h y hy
  · rw [List.mem_singleton.mp hy]; exact hx
def txv (c : Nat) : Dt := .str ⟨#[c]⟩
theorem signsD_eq (x : Str) : signsD x = (TL.tl x).map txv := rfl
theorem eq_tl {x y : Str} : x = y ↔ TL.tl x = TL.tl y := ⟨fun h => by rw [h], TL.ext_tl⟩
theorem okC {s : String} (h : (s.toList.map Char.toNat).all (fun c => decide (c < 0x110000)) = true) : eqOK (.str (Str.ofString s)) = true := okS fun c hc => by
  rw [TL.tl_ofString] at hc
  exact of_decide_eq_true (List.all_eq_true.mp h c hc)
def okT (x : Str) : Prop := ∀ c ∈ TL.tl x, c < 0x110000
theorem okT_app {x y : Str} (hx : okT x) (hy : okT y) : okT (x ++ y) := fun c hc => by
  rw [TL.tl_append] at hc
  rcases List.mem_append.mp hc with h | h
  · exact hx c h
  · exact hy c h
theorem all_among_run (x z : Str) (hx : okT x) : F_all_among [.str x, .str z] = .ok (.bl ((TL.tl x).all (fun c => decide (c ∈ TL.tl z)) && !decide (x = ("" : Str)))) := by
  rw [R_all_among]; unfold Fb_all_among
  have e0 : neD (.str x) (.str ("" : Str)) = .ok (.bl (!decide (x = ("" : Str)))) := v_neS (okS hx) (okC (s := "") rfl)
  simp? [e_B_all_among_1, e_C_all_among_2]
  refine wp_forI (Post := fun o => outF .F o = _) (TL.tl x) txv (fun _ : Unit => [some (.str x), some (.str z), none]) (fun pre _ => ∀ c ∈ pre, c ∈ TL.tl z) () (signsD_eq x) rfl (by simp) ?_ ?_
  · rintro pre c post _ e h
    refine ⟨_, v_nameG, ?_⟩
    unfold txv
    by_cases hc : c ∈ z.cps.toList
    · have d := decide_eq_true hc
      simp? [e_B_all_among_1, e_C_all_among_2, d]
      exact ⟨(), rfl, all_snocT h hc⟩
    · have d := decide_eq_false hc
      simp? [e_B_all_among_1, e_C_all_among_2, d]
      have : (TL.tl x).all (fun c => decide (c ∈ TL.tl z)) = false := by
        rw [e, List.all_append, List.all_cons]
        have d : decide (c ∈ TL.tl z) = false := d
        rw [d]
        simp
      rw [this]
      rfl
  · rintro _ h
    simp? [e_B_all_among_1, e_C_all_among_2, e0]
    have : (TL.tl x).all (fun c => decide (c ∈ TL.tl z)) = true := List.all_eq_true.mpr fun c hc => decide_eq_true (h c hc)
    rw [this]
    rfl
def figB (c : Nat) : Bool := decide (48 ≤ c) && decide (c ≤ 57)
theorem fig_mem (c : Nat) : decide (c ∈ TL.tl ("0123456789" : Str)) = figB c := by
  have e : TL.tl ("0123456789" : Str) = [48, 49, 50, 51, 52, 53, 54, 55, 56, 57] := by rw [show ("0123456789" : Str) = Str.ofString "0123456789" from rfl, TL.tl_ofString]; decide
  rw [e]
  unfold figB
  rw [← Bool.decide_and]
  refine decide_eq_decide.mpr ?_
  simp only [List.mem_cons, List.not_mem_nil, or_false]
  omega
/-- the number that a word writes -/
def pgL (l : List Nat) : Option Nat := if l.length ≤ 31 ∧ l ≠ [] ∧ l.all figB = true ∧ ¬ (l.head? = some 48 ∧ l ≠ [48]) then some (NumText.digitsVal l) else none
def opI : Option Nat → Dt
  | some n => .int n
  | none => .non
theorem tl_zero : TL.tl ("0" : Str) = [48] := by rw [show ("0" : Str) = Str.ofString "0" from rfl, TL.tl_ofString]; decide
theorem tl_nil : TL.tl ("" : Str) = [] := by rw [show ("" : Str) = Str.ofString "" from rfl, TL.tl_ofString]; decide
theorem digits_of {l : List Nat} (h : l.all figB = true) : NumText.AllDigits l := fun c hc => by
  have := List.all_eq_true.mp h c hc
  unfold figB at this
  simp at this
  omega
theorem page_number_run (x : Str) (hx : okT x) (hz : x.length ≤ 1000000) : F_page_number [.str x] = .ok (opI (pgL (TL.tl x))) := by
  rw [R_page_number]; unfold Fb_page_number
  have s1 := strSz_of hz
  have a1 := all_among_run x ("0123456789" : Str) hx
  have fm : (fun c => decide (c ∈ TL.tl ("0123456789" : Str))) = figB := funext fig_mem
  rw [fm] at a1
  have hl := TL.len_tl x
  have e1 : neD (.str x) (.str ("0" : Str)) = .ok (.bl (!decide (x = ("0" : Str)))) := v_neS (okS hx) (okC (s := "0") rfl)
  by_cases h1 : 31 < (TL.tl x).length
  · have d1 : decide ((x.length : Int) > 31) = true := decide_eq_true (by omega)
    have p : pgL (TL.tl x) = none := if_neg (by omega)
    simp? [d1, p]
    rfl
  have d1 : decide ((x.length : Int) > 31) = false := decide_eq_false (by omega)
  by_cases h2 : TL.tl x = []
  · have xe : x = ("" : Str) := eq_tl.mpr (by rw [h2, tl_nil])
    have p : pgL (TL.tl x) = none := if_neg (by simp [h2])
    rw [p]
    rw [decide_eq_true xe, Bool.not_true, Bool.and_false] at a1
    simp? [d1, a1]
    rfl
  have xe : ¬ x = ("" : Str) := fun h => h2 (by rw [h, tl_nil])
  rw [decide_eq_false xe, Bool.not_false, Bool.and_true] at a1
  by_cases h3 : (TL.tl x).all figB = true
  case neg =>
    have p : pgL (TL.tl x) = none := if_neg (by simp [h3])
    rw [p]
    rw [Bool.not_eq_true] at h3
    rw [h3] at a1
    simp? [d1, a1]
    rfl
  rw [h3] at a1
  obtain ⟨c, r, ec⟩ : ∃ c r, TL.tl x = c :: r := by
    cases e : TL.tl x with
    | nil => exact absurd e h2
    | cons c r => exact ⟨c, r, rfl⟩
  have i0 : ixD (.str x) (.int 0) = .ok (.str ⟨#[c]⟩) := x_ixS (k := 0) s1 (by rw [ec]; rfl)
  have hc : ∀ y ∈ TL.tl (⟨#[c]⟩ : Str), y < 0x110000 := fun y hy => hx y (by rw [ec]; have : y ∈ [c] := hy; rw [List.mem_singleton.mp this]; exact List.mem_cons_self)
  have e2 : eqD (.str ⟨#[c]⟩) (.str ("0" : Str)) = .ok (.bl (decide (c = 48))) := by
    rw [v_eqS (okS hc) (okC (s := "0") rfl)]
    congr 3
    rw [eq_iff_iff, eq_tl, tl_zero]
    show [c] = [48] ↔ _
    simp
  have nums : x.length ≤ 31 → txtSz x = true ∧ txtNum x = some (NumText.digitsVal (TL.tl x) : Nat) := fun h => ⟨txtSz_of (by omega), txtNum_of (digits_of h3) h2 (by omega)⟩
  obtain ⟨n1, n2⟩ := nums (by omega)
  by_cases h4 : c = 48
  · have d4 := decide_eq_true h4
    by_cases h5 : x = ("0" : Str)
    · have d5 := decide_eq_true h5
      have p : pgL (TL.tl x) = some (NumText.digitsVal (TL.tl x)) := if_pos ⟨by omega, h2, h3, fun h => h.2 (by rw [h5, tl_zero])⟩
      rw [p]
      simp? [d1, a1, i0, e2, d4, e1, d5, x_intT n1 n2]
      rfl
    · have d5 := decide_eq_false h5
      have p : pgL (TL.tl x) = none := if_neg (fun h => h.2.2.2 ⟨by rw [ec, h4]; rfl, fun z => h5 (eq_tl.mpr (by rw [z, tl_zero]))⟩)
      rw [p]
      simp? [d1, a1, i0, e2, d4, e1, d5]
      rfl
  · have d4 := decide_eq_false h4
    have p : pgL (TL.tl x) = some (NumText.digitsVal (TL.tl x)) := if_pos ⟨by omega, h2, h3, fun h => h4 (by have := h.1; rw [ec] at this; simpa using this)⟩
    rw [p]
    simp? [d1, a1, i0, e2, d4, x_intT n1 n2]
    rfl
/-! the words of a row -/
def txt (l : List Nat) : Str := ⟨l.toArray⟩
theorem tl_txt (l : List Nat) : TL.tl (txt l) = l := rfl
theorem txt_tl (x : Str) : txt (TL.tl x) = x := TL.ext_tl rfl
theorem txt_inj {a b : List Nat} (h : txt a = txt b) : a = b := by rw [← tl_txt a, h, tl_txt]
def bef (l : List Nat) : List Nat := l.takeWhile fun c => !decide (c = 35)
def wdsL (l : List Nat) : List (List Nat) := (TL.spl [32] 0 [] l).filter fun w => !w.isEmpty
theorem pre_one (s c : Nat) (r : List Nat) : TL.pre [s] (c :: r) = decide (c = s) := by
  unfold TL.pre
  rw [List.length_singleton, List.take_succ_cons, List.take_zero]
  by_cases h : c = s
  · rw [h]; simp
  · rw [decide_eq_false h]; simpa using h
theorem par_bef : ∀ (l acc : List Nat), (match TL.par [35] acc l with | some (a, _) => a | none => acc ++ l) = acc ++ bef l
  | [], acc => rfl
  | c :: r, acc => by
    have p := pre_one 35 c r
    by_cases h : c = 35
    · rw [decide_eq_true h] at p
      rw [TL.par_hit p]
      show acc = acc ++ bef (c :: r)
      unfold bef
      rw [List.takeWhile_cons, decide_eq_true h]
      simp
    · rw [decide_eq_false h] at p
      rw [TL.par_miss p]
      have ih := par_bef r (acc ++ [c])
      unfold bef at ih ⊢
      rw [List.takeWhile_cons, decide_eq_false h]
      cases q : TL.par [35] (acc ++ [c]) r with
      | none => rw [q] at ih; simpa using ih
      | some z => rw [q] at ih; simpa using ih
theorem tl_hash : TL.tl ("#" : Str) = [35] := by rw [show ("#" : Str) = Str.ofString "#" from rfl, TL.tl_ofString]; decide
theorem tl_blank : TL.tl (" " : Str) = [32] := by rw [show (" " : Str) = Str.ofString " " from rfl, TL.tl_ofString]; decide
theorem part_bef (x : Str) : (Txt.partition x ("#" : Str)).1 = txt (bef (TL.tl x)) := by
  rw [TL.partition_par x _ (by rw [tl_hash]; simp), tl_hash]
  have := par_bef (TL.tl x) []
  rw [List.nil_append, List.nil_append] at this
  rw [← this]
  cases TL.par [35] [] (TL.tl x) with
  | none => exact (txt_tl x).symm
  | some z => rfl
theorem split_eq (x y : Str) {s : Nat} (hy : TL.tl y = [s]) (hs : s < 256) : Txt.split x y = (TL.spl [s] 0 [] (TL.tl x)).map txt := by
  refine TL.map_tl_inj ?_
  rw [TL.split_spl x y (by rw [hy]; simp) (TL.kind_ok (by
    rw [← Array.all_toList]
    show (TL.tl y).all _ = true
    rw [hy]; simp [hs])), hy, List.map_map]
  rw [show (TL.tl ∘ txt) = id from rfl, List.map_id]
theorem spl_mem {s : Nat} : ∀ (l acc : List Nat) (w : List Nat), w ∈ TL.spl [s] 0 acc l → ∀ c ∈ w, c ∈ acc ∨ c ∈ l
  | [], acc, w, h, c, hc => by
    rw [TL.spl_nil, List.mem_singleton] at h
    exact .inl (by rw [← h]; exact hc)
  | d :: r, acc, w, h, c, hc => by
    have p := pre_one s d r
    by_cases e : d = s
    · rw [decide_eq_true e] at p
      rw [TL.spl_hit p, List.mem_cons] at h
      rcases h with h | h
      · exact .inl (by rw [← h]; exact hc)
      · rcases spl_mem r [] w h c hc with q | q
        · cases q
        · exact .inr (List.mem_cons_of_mem _ q)
    · rw [decide_eq_false e] at p
      rw [TL.spl_miss p] at h
      rcases spl_mem r _ w h c hc with q | q
      · rcases List.mem_append.mp q with q | q
        · exact .inl q
        · rw [List.mem_singleton.mp q]; exact .inr List.mem_cons_self
      · exact .inr (List.mem_cons_of_mem _ q)
theorem spl_app {s : Nat} : ∀ (a b acc : List Nat), TL.spl [s] 0 acc (a ++ s :: b) = TL.spl [s] 0 acc a ++ TL.spl [s] 0 [] b
  | [], b, acc => by
    rw [List.nil_append, TL.spl_hit (by rw [pre_one]; simp), TL.spl_nil]
    rfl
  | d :: r, b, acc => by
    have p := pre_one s d r
    have p2 := pre_one s d (r ++ s :: b)
    by_cases e : d = s
    · rw [decide_eq_true e] at p p2
      rw [List.cons_append, TL.spl_hit p, TL.spl_hit p2]
      show acc :: TL.spl [s] 0 [] _ = acc :: (TL.spl [s] 0 [] r ++ _)
      rw [spl_app r b []]
    · rw [decide_eq_false e] at p p2
      rw [List.cons_append, TL.spl_miss p, TL.spl_miss p2]
      exact spl_app r b _
theorem wds_app (a b : List Nat) : wdsL (a ++ 32 :: b) = wdsL a ++ wdsL b := by
  unfold wdsL
  rw [spl_app, List.filter_append]
theorem wds_nil : wdsL [] = [] := by unfold wdsL; rw [TL.spl_nil]; rfl
theorem wds_cons (b : List Nat) : wdsL (32 :: b) = wdsL b := by
  have := wds_app [] b
  rw [wds_nil] at this
  simpa using this
theorem wds_one {w : List Nat} (h : 32 ∉ w) (h0 : w ≠ []) : wdsL w = [w] := by
  unfold wdsL
  rw [TL.spl_last1 h, List.nil_append]
  cases w with
  | nil => exact absurd rfl h0
  | cons c r => rfl
theorem wds_rep (n : Nat) (b : List Nat) : wdsL (List.replicate n 32 ++ b) = wdsL b := by
  induction n with
  | zero => rfl
  | succ n ih => rw [List.replicate_succ, List.cons_append, wds_cons, ih]
theorem bef_free {l : List Nat} (h : 35 ∉ l) : bef l = l := by
  have := List.takeWhile_append_of_pos (p := fun c => !decide (c = 35)) (l₁ := l) (l₂ := []) fun c hc => by
    have : c ≠ 35 := fun e => h (e ▸ hc)
    simpa using this
  simpa [bef] using this
theorem bef_app {a b : List Nat} (h : 35 ∉ a) : bef (a ++ b) = a ++ bef b := by
  unfold bef
  rw [List.takeWhile_append_of_pos fun c hc => by
    have : c ≠ 35 := fun e => h (e ▸ hc)
    simpa using this]
theorem bef_hash (b : List Nat) : bef (35 :: b) = [] := by unfold bef; rw [List.takeWhile_cons]; simp
/-- the words of a row -/
def wordsT (x : Str) : List Str := (wdsL (bef (TL.tl x))).map txt
theorem words_of_run (x : Str) (hx : okT x) (hz : x.length ≤ 900000) : F_words_of [.str x] = .ok (.lst ((wordsT x).map Dt.str)) := by
  rw [R_words_of]; unfold Fb_words_of
  have s1 : strSz x = true := strSz_of (by omega)
  have t1 : txt0 ("#" : Str) = false := by unfold txt0; decide +kernel
  have t2 : txt0 (" " : Str) = false := by unfold txt0; decide +kernel
  have hl := TL.len_tl x
  have hb : (bef (TL.tl x)).length ≤ (TL.tl x).length := (List.takeWhile_sublist _).length_le
  have s2 : strSz (txt (bef (TL.tl x))) = true := strSz_of (by rw [TL.len_tl, tl_txt]; omega)
  have p := x_part s1 t1
  rw [part_bef] at p
  have q := x_split s2 t2
  have le := PyProof.Rows.split_le (txt (bef (TL.tl x))) (" " : Str)
  rw [TL.len_tl, tl_txt] at le
  rw [split_eq _ _ tl_blank (by decide)] at q le
  have ts : ∀ a b c : Dt, ixD (.tup [a, b, c]) (.int 0) = .ok a := fun a b c => x_t0
  clear t1
  simp? [p, ts, q]
  rw [comp_filterE (f := Dt.str) (p := fun w => !decide (w = ("" : Str))) (by omega) ?hc]
  case hc =>
    intro w hw
    refine ⟨_, v_nameG, ?_⟩
    obtain ⟨l, hl2, rfl⟩ := List.mem_map.mp hw
    have ok : okT (txt l) := fun c hc => by
      rcases spl_mem _ _ l hl2 c hc with h | h
      · cases h
      · exact hx c ((List.takeWhile_sublist _).subset h)
    have e1 : neD (.str (txt l)) (.str ("" : Str)) = .ok (.bl (!decide (txt l = ("" : Str)))) := v_neS (okS ok) (okC (s := "") rfl)
    simp? [e1]
    exact ⟨trivial, fun _ => trivial⟩
  simp? [ok_bind]
  unfold wordsT wdsL
  rw [List.filter_map]
  show Rs.ok (Dt.lst _) = Rs.ok (Dt.lst _)
  congr 4
  refine List.filter_congr fun l _ => ?_
  show (!decide (txt l = ("" : Str))) = !l.isEmpty
  congr 1
  have e : decide (txt l = ("" : Str)) = decide (l.isEmpty = true) := decide_eq_decide.mpr (by rw [eq_tl, tl_nil, tl_txt, List.isEmpty_iff])
  rw [e]
  cases l.isEmpty <;> rfl
theorem layS {x : Str} (h : okT x) : PyData.canLay0 (.str x) = true := by
  show PySem.PyData.strOk x = true
  unfold PySem.PyData.strOk
  rw [← Array.all_toList, List.all_eq_true]
  exact fun c hc => decide_eq_true (h c hc)
theorem sum_ones {α : Type} (l : List α) : (l.map fun _ => 1).sum = l.length := by
  induction l with
  | nil => rfl
  | cons a l ih => rw [List.map_cons, List.sum_cons, ih, List.length_cons]; omega
theorem joinL_nil : ∀ ps : List (List Nat), TL.joinL [] ps = ps.flatten
  | [] => rfl
  | [p] => by show p = [p].flatten; simp
  | p :: q :: r => by
    show p ++ ([] ++ TL.joinL [] (q :: r)) = _
    rw [joinL_nil (q :: r), List.nil_append, List.flatten_cons, List.flatten_cons, List.flatten_cons]
theorem tl_joinS (y : Str) (ys : List Str) : TL.tl (Txt.join y ys) = TL.joinL (TL.tl y) (ys.map TL.tl) := by rw [TL.join_eq, TL.tl_join]
/-! k56 -/
theorem okT_of {x : Str} (h : (TL.tl x).all (fun c => decide (c < 0x110000)) = true) : okT x := fun c hc => of_decide_eq_true (List.all_eq_true.mp h c hc)
theorem okT_num (n : Nat) : okT (toString (n : Int) : String) := fun c hc => by
  rw [show TL.tl ((toString (n : Int) : String) : Str) = TL.numL n from TL.tl_num n] at hc
  have := TL.numL_digits n c hc
  omega
theorem len_num {n : Nat} (h : n < 10 ^ 31) : ((toString (n : Int) : String) : Str).length ≤ 31 := by
  rw [TL.len_tl, show TL.tl ((toString (n : Int) : String) : Str) = TL.numL n from TL.tl_num n]
  exact TL.numL_len (by decide) h
theorem cut_tl (x : Str) (lo hi : Option Int) : TL.tl (cutS x lo hi) = ((TL.tl x).drop (HT.sIx x.length 0 lo)).take (HT.sIx x.length x.length hi - HT.sIx x.length 0 lo) := rfl
theorem okT_cut {x : Str} (h : okT x) (lo hi : Option Int) : okT (cutS x lo hi) := fun c hc => by
  rw [cut_tl] at hc
  exact h c (List.mem_of_mem_drop (List.mem_of_mem_take hc))
theorem okT_rep {x : Str} (h : okT x) (n : Nat) : okT (repSt x n) := fun c hc => by
  have hc : c ∈ (List.replicate n x.cps.toList).flatten := hc
  obtain ⟨l, hl, hc⟩ := List.mem_flatten.mp hc
  rw [(List.mem_replicate.mp hl).2] at hc
  exact h c hc
theorem len_app (x y : Str) : (x ++ y).length = x.length + y.length := by rw [TL.len_tl, TL.len_tl, TL.len_tl, TL.tl_append, List.length_append]
theorem okT_one {x : Str} (h : okT x) {c : Nat} (hc : c ∈ TL.tl x) : okT ⟨#[c]⟩ := fun d hd => by
  have hd : d ∈ [c] := hd
  rw [List.mem_singleton.mp hd]
  exact h c hc
theorem stirred_run (c k : Int) : ∃ v : Int, 0 ≤ v ∧ v < 268435456 ∧ F__law_stirred [.int c, .int k] = .ok (.int v) := by
  rw [R__law_stirred]; unfold Fb__law_stirred
  have hm := Int.emod_nonneg ((c + 977 * k + 1) % 1000000007 * 48271) (show (998244353 : Int) ≠ 0 by decide)
  have hm2 := Int.emod_lt_of_pos ((c + 977 * k + 1) % 1000000007 * 48271) (show (0 : Int) < 998244353 by decide)
  simp? [ok_bind]
  refine ⟨_, ?_, ?_, rfl⟩ <;> omega
def OkI (o : Ot) : Prop := ∃ v : Int, outF .F o = .ok (.int v)
theorem cell_at_run (ns : List Int) (k : Int) (hk : 0 ≤ k) (hk2 : k ≤ 1000000) (hn : ns.length ≤ 63) : ∃ v : Int, F__law_cell_at [.scr (ns.map .int), .int k] = .ok (.int v) := by
  rw [R__law_cell_at]; unfold Fb__law_cell_at
  show OkI _
  simp? [e_B__law_cell_at_1, e_C__law_cell_at_2]
  refine wp_forI ns Dt.int (fun st : Int => [some (.scr (ns.map .int)), some (.int k), some (.int st), none]) (fun _ st => 0 ≤ st ∧ st < 1000000000039) _ rfl rfl ⟨by omega, by omega⟩ ?_ ?_
  · rintro pre c post st e ⟨s1, s2⟩
    refine ⟨_, v_nameG, ?_⟩
    simp? [e_B__law_cell_at_1, e_C__law_cell_at_2]
    exact ⟨_, rfl, Int.emod_nonneg _ (by decide), Int.emod_lt_of_pos _ (by decide)⟩
  · rintro st ⟨s1, s2⟩
    simp? [e_B__law_cell_at_1, e_C__law_cell_at_2]
    refine wp_ite (fun h => ?_) (fun h => ?_)
    · have h := of_decide_eq_true h
      obtain ⟨c, hc, _⟩ := at_of_lt (xs := ns) (k := k.toNat) (by omega)
      simp? [e_B__law_cell_at_1, e_C__law_cell_at_2, hc]
      exact ⟨_, rfl⟩
    · simp? [e_B__law_cell_at_1, e_C__law_cell_at_2]
      exact ⟨_, rfl⟩
def TextP (o : Ot) : Prop := ∃ t : Str, okT t ∧ t.length ≤ 100 ∧ outF .F o = .ok (.str t)
theorem text_run (n : Nat) (hn : n < 10 ^ 31) (v : Int) (h0 : 0 ≤ v) (h1 : v < 268435456) : ∃ t : Str, okT t ∧ t.length ≤ 100 ∧ F__law_text [.int n, .int v] = .ok (.str t) := by
  rw [R__law_text]; unfold Fb__law_text
  show TextP _
  have sz : numSz (n : Int) = true := numSz_of (by omega) (by
    have e : ((10 : Int) ^ 200) = ((10 ^ 200 : Nat) : Int) := (Int.natCast_pow 10 200).symm
    rw [e]
    have : (10 : Nat) ^ 31 ≤ 10 ^ 200 := by decide +kernel
    omega)
  have ok := okT_num n
  have ln := len_num hn
  have s0 := x_str1 sz
  clear sz
  generalize (toString (n : Int) : String) = t0 at ok ln s0
  obtain ⟨t, et⟩ : ∃ t : Str, t = (t0 : Str) := ⟨_, rfl⟩
  rw [← et] at ok ln s0
  have s1 : strSz t = true := strSz_of (by omega)
  obtain ⟨z, ez⟩ : ∃ z : Str, z = " !\"#$&'()*+,-./:;<=>?@AZ[\\]^_`az{|}~\n" := ⟨_, rfl⟩
  have okz : okT z := by rw [ez]; exact okT_of (by decide +kernel)
  have lz : z.length = 37 := by rw [ez]; decide +kernel
  rw [← ez]
  have s2 : strSz z = true := strSz_of (by omega)
  obtain ⟨x1, m1, i1⟩ := x_lit (xs := (["0", "00", "-", "+", "1" ++ repSt "0" 31, " "] : List Str)) (g := Dt.str) (k := v / 8 % 6) (by omega) (by simp only [List.length_cons, List.length_nil]; omega)
  obtain ⟨x3, m3, i3⟩ := x_lit (xs := (["", "-", "+0", "0x1", "1_0", "one"] : List Str)) (g := Dt.str) (k := v / 8 % 6) (by omega) (by simp only [List.length_cons, List.length_nil]; omega)
  obtain ⟨x4, m4, i4⟩ := x_lit (xs := (["", "0", "9"] : List Str)) (g := Dt.str) (k := v / 8 % 3) (by omega) (by simp only [List.length_cons, List.length_nil]; omega)
  have b1 : okT x1 ∧ x1.length ≤ 32 := by
    have : ∀ x ∈ (["0", "00", "-", "+", "1" ++ repSt "0" 31, " "] : List Str), (TL.tl x).all (fun c => decide (c < 0x110000)) = true ∧ x.length ≤ 32 := by decide +kernel
    exact ⟨okT_of (this _ m1).1, (this _ m1).2⟩
  have b3 : okT x3 ∧ x3.length ≤ 32 := by
    have : ∀ x ∈ (["", "-", "+0", "0x1", "1_0", "one"] : List Str), (TL.tl x).all (fun c => decide (c < 0x110000)) = true ∧ x.length ≤ 32 := by decide +kernel
    exact ⟨okT_of (this _ m3).1, (this _ m3).2⟩
  have b4 : okT x4 ∧ x4.length ≤ 1 := by
    have : ∀ x ∈ (["", "0", "9"] : List Str), (TL.tl x).all (fun c => decide (c < 0x110000)) = true ∧ x.length ≤ 1 := by decide +kernel
    exact ⟨okT_of (this _ m4).1, (this _ m4).2⟩
  rw [List.map_cons, List.map_cons, List.map_cons, List.map_cons, List.map_cons, List.map_cons, List.map_nil] at i1 i3
  rw [List.map_cons, List.map_cons, List.map_cons, List.map_nil] at i4
  have r1 : repSz ("0" : Str) 31 = true := repSz_of (by decide) (by decide) (by decide +kernel)
  have l1 : lenSz (("1" : Str).length + (repSt "0" 31).length) = true := lenSz_of (by decide +kernel)
  obtain ⟨j, ej, j1⟩ : ∃ j : Nat, v / 400 % ((37 : Nat) : Int) = (j : Int) ∧ j < 37 := ⟨(v / 400 % 37).toNat, by omega, by omega⟩
  obtain ⟨c, hc, ic⟩ : ∃ c, c ∈ TL.tl z ∧ ixD (.str z) (.int (j : Nat)) = .ok (.str ⟨#[c]⟩) := by
    have hj : j < (TL.tl z).length := by rw [← TL.len_tl]; omega
    exact ⟨(TL.tl z)[j], List.getElem_mem hj, x_ixS s2 (List.getElem?_eq_getElem hj)⟩
  have okc := okT_one okz hc
  have lc : (⟨#[c]⟩ : Str).length = 1 := rfl
  have la := cutS_length t none (some (v / 8 % ((t.length : Int) + 1)))
  have lb := cutS_length t (some (v / 8 % ((t.length : Int) + 1))) none
  have oa := okT_cut ok none (some (v / 8 % ((t.length : Int) + 1)))
  have ob := okT_cut ok (some (v / 8 % ((t.length : Int) + 1))) none
  simp? [s0, lz]
  refine wp_ite (fun h => ?_) (fun h => ?_)
  · have z1 : lenSz (x1.length + t.length) = true := lenSz_of (by omega)
    simp? [i1, x_plusS z1]
    refine ⟨_, okT_app b1.1 ok, ?_, rfl⟩
    rw [len_app]; omega
  simp? [ok_bind]
  refine wp_ite (fun h => ?_) (fun h => ?_)
  · have k1 : (cutS t none (some (v / 8 % ((t.length : Int) + 1))) ++ (⟨#[c]⟩ : Str)).length ≤ 40 := by rw [len_app]; omega
    have z1 : lenSz ((cutS t none (some (v / 8 % ((t.length : Int) + 1)))).length + (⟨#[c]⟩ : Str).length) = true := lenSz_of (by omega)
    have z2 : lenSz ((cutS t none (some (v / 8 % ((t.length : Int) + 1))) ++ (⟨#[c]⟩ : Str)).length + (cutS t (some (v / 8 % ((t.length : Int) + 1))) none).length) = true := lenSz_of (by omega)
    simp? [lz, ej, ic, x_plusS z1, x_plusS z2]
    refine ⟨_, okT_app (okT_app oa okc) ob, ?_, rfl⟩
    rw [len_app]; omega
  simp? [ok_bind]
  refine wp_ite (fun h => ?_) (fun h => ?_)
  · simp? [i3]
    exact ⟨_, b3.1, by omega, rfl⟩
  simp? [ok_bind]
  refine wp_ite (fun h => ?_) (fun h => ?_)
  · have r4 : repSz x4 (31 - (t.length : Int)) = true := repSz_of (by omega) (by omega) (by omega)
    have k1 : (repSt x4 (31 - (t.length : Int)).toNat).length ≤ 40 := by
      rw [rep_len]
      exact Nat.le_trans (Nat.mul_le_mul (show _ ≤ 31 by omega) b4.2) (by decide)
    have z1 : lenSz (t.length + (repSt x4 (31 - (t.length : Int)).toNat).length) = true := lenSz_of (by omega)
    simp? [i4, x_plusS z1]
    refine ⟨_, okT_app ok (okT_rep b4.1 _), ?_, rfl⟩
    rw [len_app]; omega
  simp? [ok_bind]
  refine wp_ite (fun h => ?_) (fun h => ?_)
  · have l7 : ("7" : Str).length = 1 := by decide +kernel
    have r4 : repSz ("7" : Str) (32 - (t.length : Int)) = true := repSz_of (by omega) (by omega) (by omega)
    have k1 : (repSt ("7" : Str) (32 - (t.length : Int)).toNat).length ≤ 40 := by
      rw [rep_len, l7]
      omega
    have z1 : lenSz (t.length + (repSt ("7" : Str) (32 - (t.length : Int)).toNat).length) = true := lenSz_of (by omega)
    have o7 : okT ("7" : Str) := okT_of (by decide +kernel)
    simp? [x_plusS z1]
    refine ⟨_, okT_app ok (okT_rep o7 _), ?_, rfl⟩
    rw [len_app]; omega
  simp? [ok_bind]
  exact ⟨t, ok, by omega, rfl⟩
theorem due_run (x : Str) (hx : okT x) (hz : x.length ≤ 100) : F__law_due [.str x] = .ok (opI (pgL (TL.tl x))) := by
  rw [R__law_due]; unfold Fb__law_due
  have s1 : strSz x = true := strSz_of (by omega)
  have hl := TL.len_tl x
  have e0 : eqD (.str x) (.str ("" : Str)) = .ok (.bl (decide (x = ("" : Str)))) := v_eqS (okS hx) (okC (s := "") rfl)
  have e1 : neD (.str x) (.str ("0" : Str)) = .ok (.bl (!decide (x = ("0" : Str)))) := v_neS (okS hx) (okC (s := "0") rfl)
  by_cases h2 : TL.tl x = []
  · have xe : x = ("" : Str) := eq_tl.mpr (by rw [h2, tl_nil])
    have p : pgL (TL.tl x) = none := if_neg (by simp [h2])
    have d0 := decide_eq_true xe
    rw [p]
    simp? [e_B__law_due_1, e_C__law_due_2, e0, d0]
    rfl
  have xe : ¬ x = ("" : Str) := fun h => h2 (by rw [h, tl_nil])
  have d0 := decide_eq_false xe
  by_cases h1 : 31 < (TL.tl x).length
  · have d1 : decide ((x.length : Int) > 31) = true := decide_eq_true (by omega)
    have p : pgL (TL.tl x) = none := if_neg (by omega)
    simp? [e_B__law_due_1, e_C__law_due_2, e0, d0, d1, p]
    rfl
  have d1 : decide ((x.length : Int) > 31) = false := decide_eq_false (by omega)
  obtain ⟨c, r, ec⟩ : ∃ c r, TL.tl x = c :: r := by
    cases e : TL.tl x with
    | nil => exact absurd e h2
    | cons c r => exact ⟨c, r, rfl⟩
  have i0 : ixD (.str x) (.int 0) = .ok (.str ⟨#[c]⟩) := x_ixS (k := 0) s1 (by rw [ec]; rfl)
  have hc := okT_one hx (c := c) (by rw [ec]; exact List.mem_cons_self)
  have e2 : eqD (.str ⟨#[c]⟩) (.str ("0" : Str)) = .ok (.bl (decide (c = 48))) := by
    rw [v_eqS (okS hc) (okC (s := "0") rfl)]
    congr 3
    rw [eq_iff_iff, eq_tl, tl_zero]
    show [c] = [48] ↔ _
    simp
  have fin : ¬ ((TL.tl x).head? = some 48 ∧ TL.tl x ≠ [48]) → outF .F (forR (nameG 1) B__law_due_1 C__law_due_2 (signsD x) [some (.str x), none]) = .ok (opI (pgL (TL.tl x))) := fun nz => by
    refine wp_forI (Post := fun o => outF .F o = _) (TL.tl x) txv (fun _ : Unit => [some (.str x), none]) (fun pre _ => ∀ c ∈ pre, figB c = true) () (signsD_eq x) rfl (by simp) ?_ ?_
    · rintro pre c post _ e h
      refine ⟨_, v_nameG, ?_⟩
      unfold txv
      have fm := fig_mem c
      have fm : decide (c ∈ ("0123456789" : Str).cps.toList) = figB c := fm
      cases hc : figB c with
      | true =>
        rw [hc] at fm
        simp? [e_B__law_due_1, e_C__law_due_2, fm]
        exact ⟨(), rfl, all_snocT h hc⟩
      | false =>
        rw [hc] at fm
        simp? [e_B__law_due_1, e_C__law_due_2, fm]
        have : (TL.tl x).all figB = false := by
          rw [e, List.all_append, List.all_cons, hc]
          simp
        rw [show pgL (TL.tl x) = none from if_neg (by simp [this])]
        rfl
    · rintro _ h
      have h3 : (TL.tl x).all figB = true := List.all_eq_true.mpr h
      have n1 : txtSz x = true := txtSz_of (by omega)
      have n2 : txtNum x = some (NumText.digitsVal (TL.tl x) : Nat) := txtNum_of (digits_of h3) h2 (by omega)
      simp? [e_B__law_due_1, e_C__law_due_2, x_intT n1 n2]
      rw [show pgL (TL.tl x) = some (NumText.digitsVal (TL.tl x)) from if_pos ⟨by omega, h2, h3, nz⟩]
      rfl
  by_cases h4 : c = 48
  · have d4 := decide_eq_true h4
    by_cases h5 : x = ("0" : Str)
    · have d5 := decide_eq_true h5
      simp? [e_B__law_due_1, e_C__law_due_2, e0, d0, d1, i0, e2, d4, e1, d5]
      exact fin fun h => h.2 (by rw [h5, tl_zero])
    · have d5 := decide_eq_false h5
      have p : pgL (TL.tl x) = none := if_neg (fun h => h.2.2.2 ⟨by rw [ec, h4]; rfl, fun z => h5 (eq_tl.mpr (by rw [z, tl_zero]))⟩)
      rw [p]
      simp? [e_B__law_due_1, e_C__law_due_2, e0, d0, d1, i0, e2, d4, e1, d5]
      rfl
  · have d4 := decide_eq_false h4
    simp? [e_B__law_due_1, e_C__law_due_2, e0, d0, d1, i0, e2, d4]
    exact fin fun h => h4 (by have := h.1; rw [ec] at this; simpa using this)
def goodC (c : Nat) : Prop := c ≠ 32 ∧ c ≠ 35 ∧ c < 0x110000
def WordP (m : Nat) (o : Ot) : Prop := ∃ w : List Nat, w.length = m ∧ (∀ c ∈ w, goodC c) ∧ outF .F o = .ok (.str (txt w))
theorem word_run (cell : Int) (m : Nat) (hm : m ≤ 10) : ∃ w : List Nat, w.length = m ∧ (∀ c ∈ w, goodC c) ∧ F__law_word [.int cell, .int m] = .ok (.str (txt w)) := by
  rw [R__law_word]; unfold Fb__law_word
  show WordP m _
  obtain ⟨z, ez⟩ : ∃ z : Str, z = "!\"$&'()*+,-./0123456789:;<=>?@ABCDEFGHIJKLMNOPQRSTUVWXYZ[\\]^_`abcdefghijklmnopqrstuvwxyz{|}~" := ⟨_, rfl⟩
  have okz : ∀ c ∈ TL.tl z, goodC c := by
    rw [ez]
    have : ∀ c ∈ TL.tl ("!\"$&'()*+,-./0123456789:;<=>?@ABCDEFGHIJKLMNOPQRSTUVWXYZ[\\]^_`abcdefghijklmnopqrstuvwxyz{|}~" : Str), c ≠ 32 ∧ c ≠ 35 ∧ c < 0x110000 := by decide +kernel
    exact this
  obtain ⟨L, eL, L0, L1⟩ : ∃ L : Nat, z.length = L ∧ 0 < L ∧ L ≤ 1000 := ⟨_, rfl, by rw [ez]; decide +kernel, by rw [ez]; decide +kernel⟩
  rw [← ez]
  have s2 : strSz z = true := strSz_of (by omega)
  have hk : ∀ k : Nat, ∃ c v : Nat, goodC c ∧ ∃ u : Int, F__law_stirred [.int cell, .int k] = .ok (.int u) ∧ u % (L : Int) = (v : Int) ∧ ixD (.str z) (.int (v : Nat)) = .ok (.str ⟨#[c]⟩) := fun k => by
    obtain ⟨u, u0, u1, hu⟩ := stirred_run cell k
    have m0 := Int.emod_nonneg u (show (L : Int) ≠ 0 by omega)
    have m1 := Int.emod_lt_of_pos u (show (0 : Int) < L by omega)
    obtain ⟨v, hv⟩ := Int.eq_ofNat_of_zero_le m0
    have hj : v < (TL.tl z).length := by rw [← TL.len_tl]; omega
    exact ⟨(TL.tl z)[v], v, okz _ (List.getElem_mem hj), u, hu, hv, x_ixS s2 (List.getElem?_eq_getElem hj)⟩
  obtain ⟨f, hf⟩ := Classical.axiomOfChoice hk
  have s2' : lenD (.str z) = .ok (.int L) := by rw [x_lenS s2, eL]
  clear s2
  simp? [ok_bind]
  rw [comp_rng (f := fun k => .str ⟨#[f k]⟩) (by omega) ?hc]
  case hc =>
    intro k hk
    refine ⟨_, v_nameG, ?_⟩
    obtain ⟨v, g, u, hu, hv, hi⟩ := hf k
    simp? [hu, s2', hv, hi]
  have js : joinSz ("" : Str) ((List.range m).map fun k => (⟨#[f k]⟩ : Str)) = true := joinSz_of (by
    rw [List.map_map, show ((fun x : Str => x.length) ∘ fun k => (⟨#[f k]⟩ : Str)) = fun _ => 1 from rfl, sum_ones, List.length_map, List.length_range, show ("" : Str).length = 0 by decide +kernel]
    omega)
  have j := x_join js
  rw [List.map_map, show (Dt.str ∘ fun k => (⟨#[f k]⟩ : Str)) = fun k => Dt.str ⟨#[f k]⟩ from rfl] at j
  simp? [j]
  refine ⟨(List.range m).map f, by simp, fun c hc => ?_, ?_⟩
  · obtain ⟨k, _, rfl⟩ := List.mem_map.mp hc
    obtain ⟨v, g, _⟩ := hf k
    exact g
  · show Rs.ok _ = Rs.ok _
    congr 2
    rw [eq_tl, tl_joinS, tl_nil, joinL_nil, List.map_map, tl_txt]
    induction List.range m with
    | nil => rfl
    | cons a r ih => rw [List.map_cons, List.flatten_cons, ih]; rfl
theorem okT_txt {w : List Nat} (h : ∀ c ∈ w, goodC c) : okT (txt w) := fun c hc => (h c hc).2.2
theorem wds_tail (l : List Nat) (n : Nat) : wdsL (l ++ List.replicate n 32) = wdsL l := by
  cases n with
  | zero => simp
  | succ n =>
    rw [List.replicate_succ, wds_app]
    have := wds_rep n []
    rw [List.append_nil, wds_nil] at this
    rw [this, List.append_nil]
theorem rep_blank (n : Nat) : repSt (" " : Str) n = txt (List.replicate n 32) := TL.ext_tl (by
  show (List.replicate n (TL.tl (" " : Str))).flatten = List.replicate n 32
  rw [tl_blank]
  induction n with
  | zero => rfl
  | succ n ih => rw [List.replicate_succ, List.flatten_cons, ih]; rfl)
theorem txt_app (a b : List Nat) : txt a ++ txt b = txt (a ++ b) := TL.ext_tl (by rw [TL.tl_append, tl_txt, tl_txt, tl_txt])
theorem len_txt (a : List Nat) : (txt a).length = a.length := by rw [TL.len_tl, tl_txt]
def OkT (o : Ot) : Prop := outF .F o = .ok (.bl true)
theorem words_good_run (cell : Int) (h0 : 0 ≤ cell) : F__law_words_good [.int cell] = .ok (.bl true) := by
  rw [R__law_words_good]; unfold Fb__law_words_good
  have hw : ∀ k : Nat, ∃ w : List Nat, w ≠ [] ∧ w.length ≤ 9 ∧ (∀ c ∈ w, goodC c) ∧ ∃ u v : Int, F__law_stirred [.int cell, .int (30 + (k : Int))] = .ok (.int u) ∧ F__law_stirred [.int cell, .int (60 + (k : Int))] = .ok (.int v) ∧ F__law_word [.int u, .int (1 + v % 9)] = .ok (.str (txt w)) := fun k => by
    obtain ⟨u, u0, u1, hu⟩ := stirred_run cell (30 + (k : Int))
    obtain ⟨v, v0, v1, hv⟩ := stirred_run cell (60 + (k : Int))
    obtain ⟨w, w1, w2, w3⟩ := word_run u (1 + v % 9).toNat (by omega)
    rw [show (((1 + v % 9).toNat : Nat) : Int) = 1 + v % 9 by omega] at w3
    refine ⟨w, fun e => ?_, by omega, w2, u, v, hu, hv, w3⟩
    rw [e] at w1
    simp at w1
    omega
  obtain ⟨W, hW⟩ := Classical.axiomOfChoice hw
  obtain ⟨n, en, n1⟩ : ∃ n : Nat, cell % 6 = (n : Int) ∧ n < 6 := ⟨(cell % 6).toNat, by omega, by omega⟩
  obtain ⟨b, eb, b1⟩ : ∃ b : Nat, cell / 6 % 3 = (b : Int) ∧ b < 3 := ⟨(cell / 6 % 3).toNat, by omega, by omega⟩
  have lb : (" " : Str).length = 1 := by decide +kernel
  have r1 : repSz (" " : Str) (b : Int) = true := repSz_of (by omega) (by omega) (by omega)
  have r2 : mulSD (.str (" " : Str)) (.int (b : Nat)) = .ok (.str (txt (List.replicate b 32))) := by rw [x_mulS r1, Int.toNat_natCast, rep_blank]
  clear r1
  simp? [e_B__law_words_good_1, e_C__law_words_good_2, en, eb, r2]
  rw [comp_rng (f := fun k => .str (txt (W k))) (by omega) ?hc]
  case hc =>
    intro k hk
    refine ⟨_, v_nameG, ?_⟩
    obtain ⟨_, _, _, u, v, hu, hv, hk⟩ := hW k
    simp? [e_B__law_words_good_1, e_C__law_words_good_2, hu, hv, hk]
  have em : ((List.range n).map fun k => Dt.str (txt (W k))) = ((List.range n).map W).map fun l => Dt.str (txt l) := by rw [List.map_map]; rfl
  rw [em]
  obtain ⟨ws, ews⟩ : ∃ ws, ws = (List.range n).map W := ⟨_, rfl⟩
  have lws : ws.length = n := by rw [ews]; simp
  have hws : ∀ w ∈ ws, w ≠ [] ∧ w.length ≤ 9 ∧ ∀ c ∈ w, goodC c := fun w hw => by
    rw [ews] at hw
    obtain ⟨k, _, rfl⟩ := List.mem_map.mp hw
    exact ⟨(hW k).1, (hW k).2.1, (hW k).2.2.1⟩
  rw [← ews]
  clear em ews hW W hw r2
  simp? [e_B__law_words_good_1, e_C__law_words_good_2]
  rw [lws]
  show OkT _
  refine wp_rng0 (Post := OkT) n (fun l : List Nat => [some (.int cell), some (.lst (ws.map fun l => Dt.str (txt l))), some (.str (txt l)), none, none, none]) (fun k l => okT (txt l) ∧ l.length ≤ 3 + 12 * k ∧ 35 ∉ l ∧ wdsL l = ws.take k ∧ (k = 0 → l = List.replicate b 32)) (List.replicate b 32) rfl ⟨?_, ?_, ?_, ?_, ?_⟩ ?_ ?_
  · intro c hc
    rw [(List.mem_replicate.mp hc).2]; decide
  · rw [List.length_replicate]; omega
  · intro hc
    have := (List.mem_replicate.mp hc).2
    omega
  · have := wds_rep b []
    rw [List.append_nil] at this
    rw [this, wds_nil]; rfl
  · intro _; rfl
  · rintro k l hk ⟨l1, l2, l3, l4, l5⟩
    refine ⟨_, v_nameG, ?_⟩
    obtain ⟨w, ew, hwm⟩ : ∃ w, ws[k]? = some w ∧ w ∈ ws := by
      obtain ⟨w, h1, h2⟩ := at_of_lt (xs := ws) (k := k) (by omega)
      exact ⟨w, h1, h2⟩
    obtain ⟨w0, w1, w2⟩ := hws w hwm
    have w32 : 32 ∉ w := fun h => (w2 _ h).1 rfl
    have w35 : 35 ∉ w := fun h => (w2 _ h).2.1 rfl
    have tk : ws.take (k + 1) = ws.take k ++ [w] := by rw [List.take_add_one, ew]; rfl
    by_cases k0 : k = 0
    · subst k0
      have d0 : decide (((0 : Nat) : Int) > 0) = false := by decide
      have l5 := l5 rfl
      subst l5
      have z1 : lenSz ((txt (List.replicate b 32)).length + (txt w).length) = true := lenSz_of (by rw [len_txt, len_txt, List.length_replicate]; omega)
      have i1 : ixD (.lst (ws.map fun l => Dt.str (txt l))) (.int ((0 : Nat) : Int)) = .ok (.str (txt w)) := v_ixL (atI_nat (at_map ew))
      simp? [e_B__law_words_good_1, e_C__law_words_good_2, d0, i1, x_plusS z1]
      rw [txt_app]
      refine ⟨List.replicate b 32 ++ w, rfl, by rw [← txt_app]; exact okT_app l1 (okT_txt w2), by rw [List.length_append, List.length_replicate]; omega, ?_, ?_, fun h => nomatch h⟩
      · intro h
        rcases List.mem_append.mp h with h | h
        · exact l3 h
        · exact w35 h
      · rw [wds_rep, wds_one w32 w0, tk]; rfl
    · have d0 : decide ((k : Int) > 0) = true := decide_eq_true (by omega)
      obtain ⟨v, v0, v1, hv⟩ := stirred_run cell (90 + (k : Int))
      obtain ⟨m, em, m1⟩ : ∃ m : Nat, 1 + v % 3 = ((m + 1 : Nat) : Int) ∧ m < 3 := ⟨(v % 3).toNat, by omega, by omega⟩
      have r1 : repSz (" " : Str) ((m + 1 : Nat) : Int) = true := repSz_of (by omega) (by omega) (by omega)
      have r2 : mulSD (.str (" " : Str)) (.int ((m + 1 : Nat) : Int)) = .ok (.str (txt (List.replicate (m + 1) 32))) := by rw [x_mulS r1, Int.toNat_natCast, rep_blank]
      clear r1
      have z1 : lenSz ((txt l).length + (txt (List.replicate (m + 1) 32)).length) = true := lenSz_of (by rw [len_txt, len_txt, List.length_replicate]; omega)
      have z2 : lenSz ((txt (l ++ List.replicate (m + 1) 32)).length + (txt w).length) = true := lenSz_of (by rw [len_txt, len_txt, List.length_append, List.length_replicate]; omega)
      have p1 : plusD (.str (txt l)) (.str (txt (List.replicate (m + 1) 32))) = .ok (.str (txt (l ++ List.replicate (m + 1) 32))) := by rw [x_plusS z1, txt_app]
      have p2 : plusD (.str (txt (l ++ List.replicate (m + 1) 32))) (.str (txt w)) = .ok (.str (txt (l ++ List.replicate (m + 1) 32 ++ w))) := by rw [x_plusS z2, txt_app]
      have i1 : ixD (.lst (ws.map fun l => Dt.str (txt l))) (.int (k : Nat)) = .ok (.str (txt w)) := v_ixL (atI_nat (at_map ew))
      clear z1 z2
      generalize hR : List.replicate (m + 1) 32 = R at r2 p1 p2
      simp? [e_B__law_words_good_1, e_C__law_words_good_2, d0, hv, em, r2, p1, p2, i1]
      subst hR
      refine ⟨l ++ List.replicate (m + 1) 32 ++ w, rfl, ?_, by rw [List.length_append, List.length_append, List.length_replicate]; omega, ?_, ?_, by omega⟩
      · rw [← txt_app, ← txt_app]
        refine okT_app (okT_app l1 fun c hc => ?_) (okT_txt w2)
        rw [(List.mem_replicate.mp hc).2]; decide
      · intro h
        rcases List.mem_append.mp h with h | h
        · rcases List.mem_append.mp h with h | h
          · exact l3 h
          · have := (List.mem_replicate.mp h).2
            omega
        · exact w35 h
      · rw [List.replicate_succ, List.append_assoc, List.cons_append, wds_app, wds_rep, wds_one w32 w0, l4, tk]
  · rintro l ⟨l1, l2, l3, l4, _⟩
    obtain ⟨w3, w31, w32, w33⟩ := word_run cell 3 (by decide)
    have lr : (" #" : Str).length = 2 := by decide +kernel
    have z1 : lenSz ((" #" : Str).length + (txt w3).length) = true := lenSz_of (by rw [len_txt]; omega)
    have e3 : ((3 : Nat) : Int) = 3 := rfl
    rw [e3] at w33
    obtain ⟨r, mr, ir⟩ := x_lit (xs := (["", " ", "#", "  # pass q1", "# #", " #" ++ txt w3] : List Str)) (g := Dt.str) (k := cell / 18 % 6) (by omega) (by simp only [List.length_cons, List.length_nil]; omega)
    rw [List.map_cons, List.map_cons, List.map_cons, List.map_cons, List.map_cons, List.map_cons, List.map_nil] at ir
    have hr : ∃ m, bef (TL.tl r) = List.replicate m 32 ∧ okT r ∧ r.length ≤ 20 := by
      have t2 : TL.tl (" #" : Str) = [32, 35] := by decide +kernel
      have g : ∀ x : Str, (∃ m, m < 4 ∧ bef (TL.tl x) = List.replicate m 32) ∧ (TL.tl x).all (fun c => decide (c < 0x110000)) = true ∧ x.length ≤ 20 → ∃ m, bef (TL.tl x) = List.replicate m 32 ∧ okT x ∧ x.length ≤ 20 := fun x h => by
        obtain ⟨⟨m, _, hm⟩, h2, h3⟩ := h
        exact ⟨m, hm, okT_of h2, h3⟩
      simp only [List.mem_cons, List.not_mem_nil, or_false] at mr
      rcases mr with rfl | rfl | rfl | rfl | rfl | rfl
      · exact g _ ⟨⟨0, by decide, by decide +kernel⟩, by decide +kernel, by decide +kernel⟩
      · exact g _ ⟨⟨1, by decide, by decide +kernel⟩, by decide +kernel, by decide +kernel⟩
      · exact g _ ⟨⟨0, by decide, by decide +kernel⟩, by decide +kernel, by decide +kernel⟩
      · exact g _ ⟨⟨2, by decide, by decide +kernel⟩, by decide +kernel, by decide +kernel⟩
      · exact g _ ⟨⟨0, by decide, by decide +kernel⟩, by decide +kernel, by decide +kernel⟩
      · refine ⟨1, ?_, okT_app (okT_of (by decide +kernel)) (okT_txt w32), by rw [len_app, len_txt]; omega⟩
        rw [TL.tl_append, t2, tl_txt]
        show bef ([32] ++ 35 :: w3) = _
        rw [bef_app (by decide), bef_hash]
        rfl
    obtain ⟨m, hm, or, lr2⟩ := hr
    have z2 : lenSz ((txt l).length + r.length) = true := lenSz_of (by rw [len_txt]; omega)
    have ok : okT (txt l ++ r) := okT_app l1 or
    have wr := words_of_run (txt l ++ r) ok (by rw [len_app, len_txt]; omega)
    have ww : wordsT (txt l ++ r) = ws.map txt := by
      unfold wordsT
      rw [TL.tl_append, tl_txt, bef_app l3, hm, wds_tail, l4, List.take_of_length_le (by omega)]
    rw [ww] at wr
    have em : (ws.map fun l => Dt.str (txt l)) = (ws.map txt).map Dt.str := by rw [List.map_map]; rfl
    have ne : neD (.lst ((ws.map txt).map Dt.str)) (.lst ((ws.map txt).map Dt.str)) = .ok (.bl false) := by
      have oks : ∀ x ∈ ws.map txt, PyData.canLay0 (.str x) = true := fun x hx => by
        obtain ⟨w, hw, rfl⟩ := List.mem_map.mp hx
        exact layS (okT_txt (hws w hw).2.2)
      rw [enc_str.lst.neD oks oks, decide_eq_true rfl]
      rfl
    have isl : isiD .list (.lst ((ws.map txt).map Dt.str)) = .ok (.bl true) := rfl
    rw [em]
    show OkT _
    simp? [e_B__law_words_good_1, e_C__law_words_good_2, w33, x_plusS z1, ir, x_plusS z2, wr, ne, isl]
    rw [comp_filterE (f := Dt.str) (p := fun _ => false) (by simp; omega) ?hc]
    case hc =>
      intro w hw
      refine ⟨_, v_nameG, ?_⟩
      simp? [e_B__law_words_good_1, e_C__law_words_good_2]
    have fe : (ws.map txt).filter (fun _ => false) = [] := by simp
    rw [fe]
    simp? [e_B__law_words_good_1, e_C__law_words_good_2]
    rfl
theorem pure_law (ns : List Int) (h : ns.length ≤ 63) : F_law [.scr (ns.map Dt.int)] = .ok (.bl true) := by
  rw [R_law]; unfold Fb_law
  have i0 : intSz 0 = true := intSz_of (by decide) (by decide)
  have i3 : intSz 3 = true := intSz_of (by decide) (by decide)
  have i1 : intSz ((ns.length : Int) + 1) = true := intSz_of (by omega) (by omega)
  have sn := PyProof.Rows.rangeSize_toNat_le 0 ((ns.length : Int) + 1) 3
  simp? [e_B_law_1, e_C_law_2, x_rng3 i0 i1 i3 (by decide)]
  unfold stepL stepN
  generalize (Builtin.Range.rangeSize 0 ((ns.length : Int) + 1) 3).toNat = n at sn
  refine wp_forI (Post := OkT) (List.range n) (fun i => Dt.int (0 + (i : Nat) * 3)) (fun _ : Unit => [some (.scr (ns.map Dt.int)), none, none, none, none, none, none]) (fun _ _ => True) () rfl rfl trivial ?_ ?_
  · rintro pre k post _ e _
    have hk : k < n := List.mem_range.mp (by rw [e]; simp)
    refine ⟨_, v_nameG, ?_⟩
    obtain ⟨c1, hc1⟩ := cell_at_run ns (0 + (k : Int) * 3) (by omega) (by omega) h
    obtain ⟨c2, hc2⟩ := cell_at_run ns (0 + (k : Int) * 3 + 1) (by omega) (by omega) h
    obtain ⟨c3, hc3⟩ := cell_at_run ns (0 + (k : Int) * 3 + 2) (by omega) (by omega) h
    obtain ⟨u1, u10, u11, hu1⟩ := stirred_run c1 1
    obtain ⟨u2, u20, u21, hu2⟩ := stirred_run c2 2
    obtain ⟨u3, u30, u31, hu3⟩ := stirred_run c3 3
    obtain ⟨N, mN, iN⟩ := x_lit (xs := [u1 % 12, u1 * u1 * u1 * u1 % 10 ^ 31, u1]) (g := Dt.int) (k := u1 / 12 % 3) (by omega) (by simp only [List.length_cons, List.length_nil]; omega)
    rw [List.map_cons, List.map_cons, List.map_cons, List.map_nil] at iN
    have hN : 0 ≤ N ∧ N < 10 ^ 31 := by
      have e31 : (10 : Int) ^ 31 = 10000000000000000000000000000000 := by decide
      simp only [List.mem_cons, List.not_mem_nil, or_false] at mN
      rw [e31] at mN ⊢
      rcases mN with rfl | rfl | rfl <;> omega
    obtain ⟨M, rfl⟩ := Int.eq_ofNat_of_zero_le hN.1
    have e31 : ((10 : Int) ^ 31) = ((10 ^ 31 : Nat) : Int) := (Int.natCast_pow 10 31).symm
    obtain ⟨t, ot, lt, ht⟩ := text_run M (by rw [e31] at hN; omega) u2 u20 u21
    have hp := page_number_run t ot (by omega)
    have hd := due_run t ot lt
    have hw := words_good_run u3 u30
    have e31b : (10 : Int) ^ 31 = 10000000000000000000000000000000 := by decide
    rw [e31b] at iN
    simp? [e_B_law_1, e_C_law_2, hc1, hc2, hc3, hu1, hu2, hu3, iN, ht, hp, hd, hw]
    cases pgL (TL.tl t) with
    | none =>
      unfold opI
      have nb : isiD .bool .non = .ok (.bl false) := rfl
      simp? [e_B_law_1, e_C_law_2, nb, hc3, hu3, hw]
      exact ⟨(), rfl, trivial⟩
    | some q =>
      unfold opI
      have ne : neD (.int (q : Nat)) (.int (q : Nat)) = .ok (.bl false) := by rw [v_neI]; simp
      simp? [e_B_law_1, e_C_law_2, ne, hc3, hu3, hw]
      exact ⟨(), rfl, trivial⟩
  · rintro _ _
    simp? [e_B_law_1, e_C_law_2]
    rfl
end Pm
namespace Pm
open PySem PySem.Spec PyProof.Rows L2 C8
theorem facts {K : PySem.W.Frag} {h : Heap} {mg : Str → Option Value} (X : K.In h) (G : h.Ns mainGlobals mg) (cc : SaysX faD fnD moreD K) : Txt K mg := by
  obtain ⟨c, m⟩ := cc
  unfold moreD at m
  exact {
    d_all_among := c.def_ 0 (d := d_all_among) rfl
    g_all_among := He.glo_ok X G (c.fact 0 (f := .glo "all_among") rfl)
    d_page_number := c.def_ 1 (d := d_page_number) rfl
    g_page_number := He.glo_ok X G (c.fact 1 (f := .glo "page_number") rfl)
    d_words_of := c.def_ 2 (d := d_words_of) rfl
    g_words_of := He.glo_ok X G (c.fact 2 (f := .glo "words_of") rfl)
    d__law_cell_at := c.def_ 3 (d := d__law_cell_at) rfl
    g__law_cell_at := He.glo_ok X G (c.fact 3 (f := .glo "_law_cell_at") rfl)
    d__law_stirred := c.def_ 4 (d := d__law_stirred) rfl
    g__law_stirred := He.glo_ok X G (c.fact 4 (f := .glo "_law_stirred") rfl)
    d__law_text := c.def_ 5 (d := d__law_text) rfl
    g__law_text := He.glo_ok X G (c.fact 5 (f := .glo "_law_text") rfl)
    d__law_due := c.def_ 6 (d := d__law_due) rfl
    g__law_due := He.glo_ok X G (c.fact 6 (f := .glo "_law_due") rfl)
    d__law_word := c.def_ 7 (d := d__law_word) rfl
    g__law_word := He.glo_ok X G (c.fact 7 (f := .glo "_law_word") rfl)
    d__law_words_good := c.def_ 8 (d := d__law_words_good) rfl
    g__law_words_good := He.glo_ok X G (c.fact 8 (f := .glo "_law_words_good") rfl)
    d_law := c.def_ 9 (d := d_law) rfl
    g_law := He.glo_ok X G (c.fact 9 (f := .glo "law") rfl)
    i_FIGURES := He.str_ok X G (c.fact 10 (f := .str "FIGURES" "0123456789") rfl)
    i_MOST_FIGURES := He.int_ok X G (c.fact 11 (f := .int "MOST_FIGURES" 31) rfl)
    b_bool := He.free_ok X G (c.fact 12 (f := .free "bool") rfl)
    b_int := He.free_ok X G (c.fact 13 (f := .free "int") rfl)
    b_isinstance := He.free_ok X G (c.fact 14 (f := .free "isinstance") rfl)
    b_len := He.free_ok X G (c.fact 15 (f := .free "len") rfl)
    b_list := He.free_ok X G (c.fact 16 (f := .free "list") rfl)
    b_range := He.free_ok X G (c.fact 17 (f := .free "range") rfl)
    b_str := He.free_ok X G (c.fact 18 (f := .free "str") rfl)
  }
end Pm
open PySem PySem.W PySem.Calls PyProof.Rows
theorem PySem.Challenge.cw_pocketmill_k56_numbers_and_words_holds : PySem.Challenge.rw_pocketmill_k56_numbers_and_words.Holds := by
  w_on; o_law
  refine HandSHeadRun.head_any (r := Pm.R) (q := view Pm.R.prog [13]) (H := Pm.hk) (ob := Pm.ob) (M := 30000) (loose := Pm.looseD) (d := HandSHeadRun.topDef Pm.R.prog 13) (kwd := []) Pm.ob_eq
    (by kernel_rfl) (fun s => by kernel_rfl) Pm.run (by kernel_rfl) (by kernel_rfl) (by kernel_rfl) (by rfl) (by first | assumption | decide +kernel) (by decide +kernel) ⟨rfl, rfl, rfl, rfl, rfl, by decide +kernel⟩ ?hw ?hc
  case hw => w_witness2
  case hc =>
    refine Pm.walkX (l := PySem.Challenge.rw_pocketmill_k56_numbers_and_words) (n := 63) (k := 4) (x := "script") (Fn := Pm.F_law) rfl (by decide) (by kernel_rfl) ⟨rfl, by decide, by decide⟩ (fun ns h => Pm.pure_law ns h) ?F
    rintro w mg fa h ⟨K, KX, c⟩ G hmg0
    have hmg : mg ("law" : PySem.Str) = some (.ref fa) := by
      have e : (HandSHeadRun.topDef Pm.R.prog 13).name = ("law" : PySem.Str) := by kernel_rfl
      rw [← e]; exact hmg0
    have T := Pm.facts KX G c
    have e := hmg.symm.trans T.g_law
    cases e
    obtain ⟨fd, ok, _, _, b⟩ := Pm.ok_law (P := (PySem.Challenge.rw_pocketmill_k56_numbers_and_words).prog) (w := w) T
    exact ⟨K, fd, He.ga K, KX, b, ok⟩
