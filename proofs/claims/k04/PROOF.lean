import PyProof.Rows.All
import Wide.All
import OpenK.AllK
import Wide.FinOn
import KE.KStateDown
import HandS.ForMost
import HandS.Exc
import HandS.TryOnly
import HandS.ExcOwn
import HandS.WordsExc
import HandS.Defaults
import HandS.TupAny
import HandS.IsInst
import HandS.Text
import HandS.Conv
import HandS.Rev
import HandS.Zip
import HandS.ExcIs
import HandS.HeadHook1
import HandS.SortRule
import HandS.SortInts
import HandS.RevTup
import HandS.Iter
import HandS.Dict
import HandS.TupLen
import HandS.WordsDict
import HandS.Head0
import HandS.Head1
import HandS.Head2
import HandS.HeadEnd
import HandS.HeadHook2
import PySem.Challenge.RW_pocketmill_k04_whole_words_and_codes
set_option Elab.async false
set_option linter.all false
set_option maxRecDepth 100000
set_option maxHeartbeats 3999999
/-! the layer: data, ownership, worlds -/
namespace Pm
open PySem PySem.Spec PyProof.Rows L2
/-! ### data -/
inductive Dt where
  | non | bl (b : Bool) | int (i : Int) | str (x : Str)
  | lst (xs : List Dt) | scr (xs : List Dt) | tup (xs : List Dt) | ktp (xs : List Dt)
  | ins (C : Str) (ns : List Str) (ds : List Dt)
  | dic (ks : List Key) (ds : List Dt)
  | dit (ks : List (List Key)) (ds : List Dt)
inductive Mode where
  | F | L (m : Mode) | T (ms : List Mode) | I (ms : List Mode) | K (m : Mode)
inductive EM where
  | o (m : Mode) | B | S
/-- an exception: its class, the number that it bears -/
abbrev Xn := Str × Option Int
inductive Rs (α : Type) where
  | ok (a : α) | ex (c : Xn) | no
def Rs.bind {α β : Type} : Rs α → (α → Rs β) → Rs β
  | .ok a, f => f a
  | .ex c, _ => .ex c
  | .no, _ => .no
instance : Monad Rs where
  pure := .ok
  bind := Rs.bind
theorem ok_bind {α β : Type} (a : α) (f : α → Rs β) : (Rs.ok a >>= f) = f a := rfl
theorem ex_bind {α β : Type} (c : Xn) (f : α → Rs β) : ((Rs.ex c : Rs α) >>= f) = .ex c := rfl
theorem no_bind {α β : Type} (f : α → Rs β) : ((Rs.no : Rs α) >>= f) = .no := rfl
theorem pure_ok {α : Type} (a : α) : (pure a : Rs α) = .ok a := rfl
inductive Rs.Post {α : Type} (P : α → Prop) (E : Xn → Prop) : Rs α → Prop where
  | ok {a : α} : P a → Rs.Post P E (.ok a)
  | ex {c : Xn} : E c → Rs.Post P E (.ex c)
theorem Rs.Post.imp {α : Type} {r : Rs α} {P P' : α → Prop} {E E' : Xn → Prop} (h : Rs.Post P E r) (hp : ∀ a, r = .ok a → P a → P' a) (he : ∀ c, E c → E' c) : Rs.Post P' E' r := by
  cases h with
  | ok h => exact .ok (hp _ rfl h)
  | ex h => exact .ex (he _ h)
theorem Rs.Post.bind {α β : Type} {r : Rs α} {f : α → Rs β} {P : β → Prop} {E : Xn → Prop} (h : Rs.Post P E (r >>= f)) : Rs.Post (fun a => Rs.Post P E (f a)) E r := by
  cases r with
  | ok a => exact .ok h
  | ex c =>
    cases h with
    | ex h => exact .ex h
  | no => cases h
theorem Rs.Post.of_ok {α : Type} {P : α → Prop} {E : Xn → Prop} {a : α} (h : Rs.Post P E (.ok a)) : P a := by
  cases h with
  | ok h => exact h
theorem Rs.Post.of_ex {α : Type} {P : α → Prop} {E : Xn → Prop} {c : Xn} (h : Rs.Post P E (.ex c)) : E c := by
  cases h with
  | ex h => exact h
abbrev Ev := List (Option Dt)
/-- the exception's own dict -/
def XR (c : Xn) (dx : Option Addr) (H : Hp) : Prop := match c.2 with
  | none => dx = none
  | some n => ∃ d, dx = some d ∧ H d = some (.xd [("row", .int n)])
theorem _root_.L2.Same.rd {H H' : Hp} {a : Addr} {u : HO} (e : Same H H') (h : Rd H a u) : Rd H' a u := by
  rcases h with h | ⟨o, h⟩
  · exact Or.inl (e a _ h)
  · exact Or.inr ⟨o, e a _ h⟩
theorem _root_.L2.Same.sqt {K : PySem.W.Frag} {H H' : Hp} {a : Addr} {xs : List V} (e : Same H H') (h : SqT K H a xs) : SqT K H' a xs := by
  rcases h with h | h
  · exact Or.inl (Same.rd e h)
  · exact Or.inr h
theorem _root_.L2.Same.new {H : Hp} {p : Addr} {o : HO} (h : H p = none) : Same H (upd H p o) := fun a u e => by
  rw [upd_ne (ne_of_none e h)]
  exact e
section
variable (K : PySem.W.Frag) (ca : Str → Addr)
mutual
inductive Rp (H : Hp) : Dt → V → Prop
  | non : Rp H .non .non
  | bl (b : Bool) : Rp H (.bl b) (.bl b)
  | int (i : Int) : Rp H (.int i) (.int i)
  | str (x : Str) : Rp H (.str x) (.str x)
  | lst {a : Addr} {vs : List V} {ds : List Dt} : H a = some (.lst vs) → Rps H ds vs → Rp H (.lst ds) (.ref a)
  | scr {a : Addr} {vs : List V} {ds : List Dt} : SqL K H a vs → Rps H ds vs → Rp H (.scr ds) (.ref a)
  | tup {a : Addr} {vs : List V} {ds : List Dt} : H a = some (.tup vs) → Rps H ds vs → Rp H (.tup ds) (.ref a)
  | ktp {a : Addr} {vs : List V} {ds : List Dt} : SqT K H a vs → Rps H ds vs → Rp H (.ktp ds) (.ref a)
  | ins {C : Str} {a dx : Addr} {ns : List Str} {vs : List V} {ds : List Dt} : H a = some (.ins (ca C) dx (ns.zip vs)) → ns.length = vs.length → Rps H ds vs → Rp H (.ins C ns ds) (.ref a)
  | dic {a : Addr} {ks : List Key} {vs : List V} {ds : List Dt} : H a = some (.dK (ks.zip vs)) → ks.length = vs.length → Rps H ds vs → Rp H (.dic ks ds) (.ref a)
  | dit {a : Addr} {ks : List (List Key)} {vs : List V} {ds : List Dt} : H a = some (.dT (ks.zip vs)) → ks.length = vs.length → Rps H ds vs → Rp H (.dit ks ds) (.ref a)
inductive Rps (H : Hp) : List Dt → List V → Prop
  | nil : Rps H [] []
  | cons {d : Dt} {ds : List Dt} {v : V} {vs : List V} : Rp H d v → Rps H ds vs → Rps H (d :: ds) (v :: vs)
end
mutual
inductive Ow (G H : Hp) : Mode → Dt → V → (Addr → Prop) → Prop
  | F {d : Dt} {v : V} {P : Addr → Prop} : Rp K ca G d v → Ow G H .F d v P
  | L {m : Mode} {a : Addr} {vs : List V} {ds : List Dt} {P : Addr → Prop} : H a = some (.lst vs) → G a = none → P a → Ows G H (List.replicate ds.length m) ds vs (fun b => P b ∧ b ≠ a) → Ow G H (.L m) (.lst ds) (.ref a) P
  | T {ms : List Mode} {a : Addr} {vs : List V} {ds : List Dt} {P : Addr → Prop} : H a = some (.tup vs) → G a = none → P a → Ows G H ms ds vs (fun b => P b ∧ b ≠ a) → Ow G H (.T ms) (.tup ds) (.ref a) P
  | I {ms : List Mode} {C : Str} {a dx : Addr} {ns : List Str} {vs : List V} {ds : List Dt} {P : Addr → Prop} : H a = some (.ins (ca C) dx (ns.zip vs)) → G a = none → P a → ns.length = vs.length → Ows G H ms ds vs (fun b => P b ∧ b ≠ a) → Ow G H (.I ms) (.ins C ns ds) (.ref a) P
  | K {m : Mode} {a : Addr} {ks : List Key} {vs : List V} {ds : List Dt} {P : Addr → Prop} : H a = some (.dK (ks.zip vs)) → G a = none → P a → ks.length = vs.length → Ows G H (List.replicate ds.length m) ds vs (fun b => P b ∧ b ≠ a) → Ow G H (.K m) (.dic ks ds) (.ref a) P
  | KT {m : Mode} {a : Addr} {ks : List (List Key)} {vs : List V} {ds : List Dt} {P : Addr → Prop} : H a = some (.dT (ks.zip vs)) → G a = none → P a → ks.length = vs.length → Ows G H (List.replicate ds.length m) ds vs (fun b => P b ∧ b ≠ a) → Ow G H (.K m) (.dit ks ds) (.ref a) P
inductive Ows (G H : Hp) : List Mode → List Dt → List V → (Addr → Prop) → Prop
  | nil {P : Addr → Prop} : Ows G H [] [] [] P
  | cons {m : Mode} {ms : List Mode} {d : Dt} {ds : List Dt} {v : V} {vs : List V} {P P1 P2 : Addr → Prop} : Ow G H m d v P1 → Ows G H ms ds vs P2 → (∀ b, P1 b → P b) → (∀ b, P2 b → P b) → (∀ b, P1 b → ¬ P2 b) → Ows G H (m :: ms) (d :: ds) (v :: vs) P
end
end
section
variable {K : PySem.W.Frag} {ca : Str → Addr} {H H' G G' : Hp}
theorem Rps.length : ∀ {ds : List Dt} {vs : List V}, Rps K ca H ds vs → ds.length = vs.length
  | [], _, h => by cases h; rfl
  | d :: ds, _, h => by
    cases h with
    | cons h1 h2 => rw [List.length_cons, List.length_cons, Rps.length h2]
mutual
theorem Rp.mono (e : Same H H') : ∀ {d : Dt} {v : V}, Rp K ca H d v → Rp K ca H' d v
  | .non, _, h => by cases h; exact .non
  | .bl b, _, h => by cases h; exact .bl b
  | .int i, _, h => by cases h; exact .int i
  | .str x, _, h => by cases h; exact .str x
  | .lst ds, _, h => by
    cases h with
    | lst h1 h2 => exact .lst (e _ _ h1) (Rps.mono e h2)
  | .scr ds, _, h => by
    cases h with
    | scr h1 h2 => exact .scr (L2.Same.seq e h1) (Rps.mono e h2)
  | .tup ds, _, h => by
    cases h with
    | tup h1 h2 => exact .tup (e _ _ h1) (Rps.mono e h2)
  | .ktp ds, _, h => by
    cases h with
    | ktp h1 h2 => exact .ktp (Same.sqt e h1) (Rps.mono e h2)
  | .ins C ns ds, _, h => by
    cases h with
    | ins h1 h2 h3 => exact .ins (e _ _ h1) h2 (Rps.mono e h3)
  | .dic ks ds, _, h => by
    cases h with
    | dic h1 h2 h3 => exact .dic (e _ _ h1) h2 (Rps.mono e h3)
  | .dit ks ds, _, h => by
    cases h with
    | dit h1 h2 h3 => exact .dit (e _ _ h1) h2 (Rps.mono e h3)
theorem Rps.mono (e : Same H H') : ∀ {ds : List Dt} {vs : List V}, Rps K ca H ds vs → Rps K ca H' ds vs
  | [], _, h => by cases h; exact .nil
  | d :: ds, _, h => by
    cases h with
    | cons h1 h2 => exact .cons (Rp.mono e h1) (Rps.mono e h2)
end
theorem Rps.get : ∀ {ds : List Dt} {vs : List V} {i : Nat} {d : Dt}, Rps K ca H ds vs → ds[i]? = some d → ∃ v, vs[i]? = some v ∧ Rp K ca H d v
  | [], _, _, _, _, e => by simp at e
  | x :: ds, _, i, d, h, e => by
    cases h with
    | cons h1 h2 =>
      cases i with
      | zero =>
        have q : x = d := by simpa using e
        subst q
        exact ⟨_, by simp, h1⟩
      | succ i =>
        obtain ⟨v, q1, q2⟩ := Rps.get (i := i) h2 (by simpa using e)
        exact ⟨v, by simpa using q1, q2⟩
theorem Rps.append : ∀ {ds es : List Dt} {vs us : List V}, Rps K ca H ds vs → Rps K ca H es us → Rps K ca H (ds ++ es) (vs ++ us)
  | [], _, _, _, h, k => by cases h; exact k
  | d :: ds, _, _, _, h, k => by
    cases h with
    | cons h1 h2 => exact .cons h1 (Rps.append h2 k)
theorem Rps.drop : ∀ {ds : List Dt} {vs : List V} (n : Nat), Rps K ca H ds vs → Rps K ca H (ds.drop n) (vs.drop n)
  | [], _, n, h => by cases h; simp; exact .nil
  | d :: ds, _, 0, h => by simpa using h
  | d :: ds, _, n + 1, h => by
    cases h with
    | cons h1 h2 => simpa using Rps.drop n h2
theorem Rps.take : ∀ {ds : List Dt} {vs : List V} (n : Nat), Rps K ca H ds vs → Rps K ca H (ds.take n) (vs.take n)
  | [], _, n, h => by cases h; simp; exact .nil
  | d :: ds, _, 0, h => by simp; exact .nil
  | d :: ds, _, n + 1, h => by
    cases h with
    | cons h1 h2 => simpa using Rps.cons h1 (Rps.take n h2)
theorem Rps.reverse {ds : List Dt} : ∀ {vs : List V}, Rps K ca H ds vs → Rps K ca H ds.reverse vs.reverse := by
  induction ds with
  | nil => intro vs h; cases h; exact .nil
  | cons d ds ih =>
    intro vs h
    cases h with
    | cons h1 h2 =>
      rw [List.reverse_cons, List.reverse_cons]
      exact (ih h2).append (.cons h1 .nil)
theorem Rps.flatrep {ds : List Dt} {vs : List V} (h : Rps K ca H ds vs) : ∀ k : Nat, Rps K ca H (List.replicate k ds).flatten (List.replicate k vs).flatten
  | 0 => .nil
  | k + 1 => by
    rw [List.replicate_succ, List.replicate_succ, List.flatten_cons, List.flatten_cons]
    exact h.append (Rps.flatrep h k)
/- the owned part as it was elsewhere -/
mutual
theorem Ow.carry (e : Same G G') : ∀ {d : Dt} {m : Mode} {v : V} {P : Addr → Prop}, (∀ b, P b → H' b = H b ∧ G' b = none) → Ow K ca G H m d v P → Ow K ca G' H' m d v P
  | d, m, v, P, hp, h => by
    cases h with
    | F h => exact .F (h.mono e)
    | L h1 h2 h3 h4 => exact .L (by rw [(hp _ h3).1]; exact h1) (hp _ h3).2 h3 (Ows.carry e (fun b hb => hp b hb.1) h4)
    | T h1 h2 h3 h4 => exact .T (by rw [(hp _ h3).1]; exact h1) (hp _ h3).2 h3 (Ows.carry e (fun b hb => hp b hb.1) h4)
    | I h1 h2 h3 h4 h5 => exact .I (by rw [(hp _ h3).1]; exact h1) (hp _ h3).2 h3 h4 (Ows.carry e (fun b hb => hp b hb.1) h5)
    | K h1 h2 h3 h4 h5 => exact .K (by rw [(hp _ h3).1]; exact h1) (hp _ h3).2 h3 h4 (Ows.carry e (fun b hb => hp b hb.1) h5)
    | KT h1 h2 h3 h4 h5 => exact .KT (by rw [(hp _ h3).1]; exact h1) (hp _ h3).2 h3 h4 (Ows.carry e (fun b hb => hp b hb.1) h5)
  termination_by d => sizeOf d
theorem Ows.carry (e : Same G G') : ∀ {ds : List Dt} {ms : List Mode} {vs : List V} {P : Addr → Prop}, (∀ b, P b → H' b = H b ∧ G' b = none) → Ows K ca G H ms ds vs P → Ows K ca G' H' ms ds vs P
  | [], ms, vs, P, hp, h => by
    cases h
    exact .nil
  | d :: ds, ms, vs, P, hp, h => by
    cases h with
    | cons h1 h2 q1 q2 q3 => exact .cons (Ow.carry e (fun b hb => hp b (q1 b hb)) h1) (Ows.carry e (fun b hb => hp b (q2 b hb)) h2) q1 q2 q3
  termination_by ds => sizeOf ds
end
theorem Ows.weaken {ds : List Dt} {ms : List Mode} {vs : List V} {P P' : Addr → Prop} (hp : ∀ b, P b → P' b) (h : Ows K ca G H ms ds vs P) : Ows K ca G H ms ds vs P' := by
  cases h with
  | nil => exact .nil
  | cons h1 h2 q1 q2 q3 => exact .cons h1 h2 (fun b hb => hp b (q1 b hb)) (fun b hb => hp b (q2 b hb)) q3
theorem Ow.weaken {d : Dt} {m : Mode} {v : V} {P P' : Addr → Prop} (hp : ∀ b, P b → P' b) (h : Ow K ca G H m d v P) : Ow K ca G H m d v P' := by
  cases h with
  | F h => exact .F h
  | L h1 h2 h3 h4 => exact .L h1 h2 (hp _ h3) (h4.weaken fun b hb => ⟨hp b hb.1, hb.2⟩)
  | T h1 h2 h3 h4 => exact .T h1 h2 (hp _ h3) (h4.weaken fun b hb => ⟨hp b hb.1, hb.2⟩)
  | I h1 h2 h3 h4 h5 => exact .I h1 h2 (hp _ h3) h4 (h5.weaken fun b hb => ⟨hp b hb.1, hb.2⟩)
  | K h1 h2 h3 h4 h5 => exact .K h1 h2 (hp _ h3) h4 (h5.weaken fun b hb => ⟨hp b hb.1, hb.2⟩)
  | KT h1 h2 h3 h4 h5 => exact .KT h1 h2 (hp _ h3) h4 (h5.weaken fun b hb => ⟨hp b hb.1, hb.2⟩)
/- frozen: whatever heap holds the owned part too -/
mutual
theorem Ow.freeze (e : Same G G') : ∀ {d : Dt} {m : Mode} {v : V} {P : Addr → Prop}, (∀ b, P b → G' b = H b) → Ow K ca G H m d v P → Rp K ca G' d v
  | d, m, v, P, hp, h => by
    cases h with
    | F h => exact h.mono e
    | L h1 h2 h3 h4 => exact .lst (by rw [hp _ h3]; exact h1) (Ows.freeze e (fun b hb => hp b hb.1) h4)
    | T h1 h2 h3 h4 => exact .tup (by rw [hp _ h3]; exact h1) (Ows.freeze e (fun b hb => hp b hb.1) h4)
    | I h1 h2 h3 h4 h5 => exact .ins (by rw [hp _ h3]; exact h1) h4 (Ows.freeze e (fun b hb => hp b hb.1) h5)
    | K h1 h2 h3 h4 h5 => exact .dic (by rw [hp _ h3]; exact h1) h4 (Ows.freeze e (fun b hb => hp b hb.1) h5)
    | KT h1 h2 h3 h4 h5 => exact .dit (by rw [hp _ h3]; exact h1) h4 (Ows.freeze e (fun b hb => hp b hb.1) h5)
  termination_by d => sizeOf d
theorem Ows.freeze (e : Same G G') : ∀ {ds : List Dt} {ms : List Mode} {vs : List V} {P : Addr → Prop}, (∀ b, P b → G' b = H b) → Ows K ca G H ms ds vs P → Rps K ca G' ds vs
  | [], ms, vs, P, hp, h => by
    cases h
    exact .nil
  | d :: ds, ms, vs, P, hp, h => by
    cases h with
    | cons h1 h2 q1 q2 q3 => exact .cons (Ow.freeze e (fun b hb => hp b (q1 b hb)) h1) (Ows.freeze e (fun b hb => hp b (q2 b hb)) h2)
  termination_by ds => sizeOf ds
end
end
end Pm
namespace Pm
open PySem PySem.Spec PyProof.Rows L2
open Classical
/-! ### worlds -/
structure Ext (G H G' H' : Hp) : Prop where
  g : Same G G'
  h : Same H H'
  gh : Same G' H'
  base : ∀ a, H a ≠ none → G' a = G a
section
variable {G H G' H' G2 H2 : Hp}
theorem Ext.refl (e : Same G H) : Ext G H G H := ⟨Same.refl _, Same.refl _, e, fun _ _ => rfl⟩
theorem _root_.L2.Same.nn (e : Same H H') {a : Addr} (h : H a ≠ none) : H' a ≠ none := by
  cases q : H a with
  | none => exact absurd q h
  | some o => rw [e a o q]; exact fun z => by cases z
theorem _root_.L2.Same.at (e : Same H H') {a : Addr} (h : H a ≠ none) : H' a = H a := by
  cases q : H a with
  | none => exact absurd q h
  | some o => exact e a o q
theorem Ext.trans (a : Ext G H G' H') (b : Ext G' H' G2 H2) : Ext G H G2 H2 :=
  ⟨a.g.trans b.g, a.h.trans b.h, b.gh, fun x h => (b.base x (a.h.nn h)).trans (a.base x h)⟩
/-- the heap alone grows -/
theorem Ext.heap (e : Same G H) (h : Same H H') : Ext G H G H' := ⟨Same.refl _, h, e.trans h, fun _ _ => rfl⟩
/-- a new frozen object -/
theorem Ext.new {p : Addr} {o : HO} (e : Same G H) (hp : H p = none) : Ext G H (upd G p o) (upd H p o) := by
  refine ⟨Same.new (Same.free e hp), Same.new hp, fun a u q => ?_, fun a h => ?_⟩
  · by_cases z : a = p
    · rw [z, upd_same] at q ⊢
      exact q
    · rw [upd_ne z] at q ⊢
      exact e a u q
  · exact upd_ne fun z => h (by rw [z]; exact hp)
end
def Fr (G' H H' : Hp) (P : Addr → Prop) : Prop := ∀ b, P b → G' b = none ∧ H b = none ∧ H' b ≠ none
abbrev Pno : Addr → Prop := fun _ => False
theorem Fr.no {G H H' : Hp} : Fr G H H' Pno := fun _ h => h.elim
structure Jc where
  K : PySem.W.Frag
  ca : Str → Addr
  W : WX
  gx : Option (List Mode)
  gb : List Mode
  mr : Mode
  pin : Option (Nat × V)
def pinB : Option (Nat × V) → Nat → Bool
  | none, _ => true
  | some q, i => decide (q.1 ≠ i)
abbrev Jc.nw (J : Jc) : Jc := { J with W := fun _ _ _ _ => False, pin := none }
/-- the slot i may be stored -/
abbrev Jc.free (J : Jc) (i : Nat) : Prop := pinB J.pin i = true
structure Wd (J : Jc) (G0 H0 : Hp) (Γ : List Mode) (ρ : Ev) (σ : L2.St) (G H : Hp) : Prop where
  x : Ext G0 H0 G H
  lg : Γ.length = ρ.length
  lr : ρ.length = σ.length
  env : ∃ Pf : Nat → Addr → Prop, (∀ i j a, i ≠ j → Pf i a → ¬ Pf j a) ∧ (∀ i a, Pf i a → G a = none ∧ H0 a = none ∧ H a ≠ none) ∧
    ∀ i d, ρ[i]? = some (some d) → ∃ v m, σ[i]? = some (some v) ∧ Γ[i]? = some m ∧ Ow J.K J.ca G H m d v (Pf i)
  pn : ∀ i v, J.pin = some (i, v) → σ[i]? = some (some v)
section
variable {J : Jc} {G0 H0 G H G' H' : Hp} {Γ : List Mode} {ρ : Ev} {σ : L2.St}
theorem Wd.ext (w : Wd J G0 H0 Γ ρ σ G H) (e : Ext G H G' H') : Wd J G0 H0 Γ ρ σ G' H' := by
  obtain ⟨Pf, h1, h2, h3⟩ := w.env
  refine ⟨w.x.trans e, w.lg, w.lr, ⟨Pf, h1, fun i a q => ?_, fun i d q => ?_⟩, w.pn⟩
  · obtain ⟨a1, a2, a3⟩ := h2 i a q
    exact ⟨by rw [e.base a a3]; exact a1, a2, e.h.nn a3⟩
  · obtain ⟨v, m, s1, s2, s3⟩ := h3 i d q
    refine ⟨v, m, s1, s2, s3.carry e.g fun b hb => ?_⟩
    obtain ⟨a1, a2, a3⟩ := h2 i b hb
    exact ⟨e.h.at a3, by rw [e.base b a3]; exact a1⟩
theorem Wd.gh (w : Wd J G0 H0 Γ ρ σ G H) : Same G H := w.x.gh
theorem Wd.heap (w : Wd J G0 H0 Γ ρ σ G H) (h : Same H H') : Wd J G0 H0 Γ ρ σ G H' := w.ext (Ext.heap w.gh h)
theorem Wd.get (w : Wd J G0 H0 Γ ρ σ G H) {i : Nat} {d : Dt} (h : ρ[i]? = some (some d)) : ∃ v m P, σ[i]? = some (some v) ∧ Γ[i]? = some m ∧ Ow J.K J.ca G H m d v P ∧ (∀ b, P b → G b = none ∧ H b ≠ none) := by
  obtain ⟨Pf, h1, h2, h3⟩ := w.env
  obtain ⟨v, m, s1, s2, s3⟩ := h3 i d h
  exact ⟨v, m, Pf i, s1, s2, s3, fun b hb => ⟨(h2 i b hb).1, (h2 i b hb).2.2⟩⟩
theorem Ow.view {m : Mode} {d : Dt} {v : V} {P : Addr → Prop} {K : PySem.W.Frag} {ca : Str → Addr} (e : Same G H) (h : Ow K ca G H m d v P) : Rp K ca H d v := h.freeze e fun _ _ => rfl
/-- a slot is stored -/
theorem Wd.set (w : Wd J G0 H0 Γ ρ σ G H) (e : Ext G H G' H') {m : Mode} {d : Dt} {v : V} {P : Addr → Prop} (o : Ow J.K J.ca G' H' m d v P) (f : Fr G' H H' P) (i : Nat) (hi : J.free i) :
    Wd J G0 H0 (Γ.set i m) (ρ.set i (some d)) (σ.set i (some v)) G' H' := by
  obtain ⟨Pf, h1, h2, h3⟩ := w.env
  have w' := w.ext e
  refine ⟨w'.x, by rw [List.length_set, List.length_set]; exact w.lg, by rw [List.length_set, List.length_set]; exact w.lr, ⟨fun j => if j = i then P else Pf j, fun j k a q r s => ?_, fun j a q => ?_, fun j c q => ?_⟩, fun k v hv => ?_⟩
  · by_cases hj : j = i
    · by_cases hk : k = i
      · exact q (hj.trans hk.symm)
      · simp only [hj, if_true] at r
        simp only [hk, if_false] at s
        exact (h2 k a s).2.2 (f a r).2.1
    · simp only [hj, if_false] at r
      by_cases hk : k = i
      · simp only [hk, if_true] at s
        exact (h2 j a r).2.2 (f a s).2.1
      · simp only [hk, if_false] at s
        exact h1 j k a q r s
  · by_cases hj : j = i
    · simp only [hj, if_true] at q
      obtain ⟨a1, a2, a3⟩ := f a q
      exact ⟨a1, w.x.h.free a2, a3⟩
    · simp only [hj, if_false] at q
      obtain ⟨a1, a2, a3⟩ := h2 j a q
      exact ⟨by rw [e.base a a3]; exact a1, a2, e.h.nn a3⟩
  · by_cases hj : j = i
    · subst hj
      have hl : j < ρ.length := by
        have z := (List.getElem?_eq_some_iff.mp q).1
        simpa using z
      rw [List.getElem?_set_self hl] at q
      have hd : d = c := by simpa using q
      subst hd
      have hl2 : j < σ.length := by rw [← w.lr]; exact hl
      have hg : j < Γ.length := by rw [w.lg]; exact hl
      refine ⟨v, m, List.getElem?_set_self hl2, List.getElem?_set_self hg, ?_⟩
      simp only [if_true]
      exact o
    · rw [List.getElem?_set_ne (Ne.symm hj)] at q
      obtain ⟨v2, m2, s1, s2, s3⟩ := h3 j c q
      refine ⟨v2, m2, by rw [List.getElem?_set_ne (Ne.symm hj)]; exact s1, by rw [List.getElem?_set_ne (Ne.symm hj)]; exact s2, ?_⟩
      simp only [hj, if_false]
      refine s3.carry e.g fun b hb => ?_
      obtain ⟨a1, a2, a3⟩ := h2 j b hb
      exact ⟨e.h.at a3, by rw [e.base b a3]; exact a1⟩
  · have ne : k ≠ i := by
      have hi : pinB J.pin i = true := hi
      rw [hv] at hi
      exact of_decide_eq_true hi
    rw [List.getElem?_set_ne (Ne.symm ne)]
    exact w.pn k v hv
end
end Pm
namespace Pm
open PySem PySem.Spec PyProof.Rows L2
open Classical
/-! ### results, readings -/
def isSq (K : PySem.W.Frag) (H : Hp) (d : Dt) (a : Addr) (vs : List V) (ds : List Dt) : Prop :=
  (d = .lst ds ∧ H a = some (.lst vs)) ∨ (d = .scr ds ∧ SqL K H a vs) ∨ (d = .tup ds ∧ H a = some (.tup vs))
def Res (K : PySem.W.Frag) (ca : Str → Addr) (G H : Hp) : EM → Dt → V → (Addr → Prop) → Prop
  | .o m, d, v, P => Ow K ca G H m d v P
  | .B, d, v, _ => Rp K ca H d v
  | .S, d, v, _ => Rp K ca H d v ∧ ∀ ds, (d = .lst ds ∨ d = .scr ds ∨ d = .tup ds) → ∃ a vs, v = .ref a ∧ isSq K H d a vs ds ∧ Rps K ca G ds vs
section
variable (J : Jc)
def SemE (Γ : List Mode) (em : EM) (F : Ev → Rs Dt) (te : TE) : Prop := ∀ ⦃G0 H0 G H : Hp⦄ ⦃ρ : Ev⦄ ⦃σ : L2.St⦄ ⦃Q : VK⦄, Wd J G0 H0 Γ ρ σ G H →
  Rs.Post (fun d => ∀ v G' H' P, Ext G H G' H' → Fr G' H H' P → Res J.K J.ca G' H' em d v P → Q v H') (fun c => ∀ H' dx, Same H H' → XR c dx H' → J.W (.ref (J.ca c.1)) dx σ H') (F ρ) → te σ H Q
def SemT (Γ : List Mode) (F : Ev → Rs Bool) (tt : TT) : Prop := ∀ ⦃G0 H0 G H : Hp⦄ ⦃ρ : Ev⦄ ⦃σ : L2.St⦄ ⦃Q : Bool → Hp → Prop⦄, Wd J G0 H0 Γ ρ σ G H →
  Rs.Post (fun b => ∀ G' H', Ext G H G' H' → Q b H') (fun c => ∀ H' dx, Same H H' → XR c dx H' → J.W (.ref (J.ca c.1)) dx σ H') (F ρ) → tt σ H Q
/-- arguments: frozen -/
def SemA (Γ : List Mode) (F : Ev → Rs (List Dt)) (ta : TA) : Prop := ∀ ⦃G0 H0 G H : Hp⦄ ⦃ρ : Ev⦄ ⦃σ : L2.St⦄ ⦃Q : List V → Hp → Prop⦄, Wd J G0 H0 Γ ρ σ G H →
  Rs.Post (fun ds => ∀ vs G' H', Ext G H G' H' → Rps J.K J.ca G' ds vs → Q vs H') (fun c => ∀ H' dx, Same H H' → XR c dx H' → J.W (.ref (J.ca c.1)) dx σ H') (F ρ) → ta σ H Q
/-- arguments: looked at alone -/
def SemB (Γ : List Mode) (F : Ev → Rs (List Dt)) (ta : TA) : Prop := ∀ ⦃G0 H0 G H : Hp⦄ ⦃ρ : Ev⦄ ⦃σ : L2.St⦄ ⦃Q : List V → Hp → Prop⦄, Wd J G0 H0 Γ ρ σ G H →
  Rs.Post (fun ds => ∀ vs G' H', Ext G H G' H' → Rps J.K J.ca H' ds vs → Q vs H') (fun c => ∀ H' dx, Same H H' → XR c dx H' → J.W (.ref (J.ca c.1)) dx σ H') (F ρ) → ta σ H Q
/-- one argument, as it comes -/
def SemM (Γ : List Mode) (em : EM) (F : Ev → Rs Dt) (ta : TA) : Prop := ∀ ⦃G0 H0 G H : Hp⦄ ⦃ρ : Ev⦄ ⦃σ : L2.St⦄ ⦃Q : List V → Hp → Prop⦄, Wd J G0 H0 Γ ρ σ G H →
  Rs.Post (fun d => ∀ v G' H' P, Ext G H G' H' → Fr G' H H' P → Res J.K J.ca G' H' em d v P → Q [v] H') (fun c => ∀ H' dx, Same H H' → XR c dx H' → J.W (.ref (J.ca c.1)) dx σ H') (F ρ) → ta σ H Q
def SemO (Γ : List Mode) (F : Ev → Rs (Option Int)) (to : TO) : Prop := ∀ ⦃G0 H0 G H : Hp⦄ ⦃ρ : Ev⦄ ⦃σ : L2.St⦄ ⦃Q : Option Int → Hp → Prop⦄, Wd J G0 H0 Γ ρ σ G H →
  Rs.Post (fun d => ∀ G' H', Ext G H G' H' → Q d H') (fun c => ∀ H' dx, Same H H' → XR c dx H' → J.W (.ref (J.ca c.1)) dx σ H') (F ρ) → to σ H Q
end
section
variable {J : Jc} {Γ : List Mode} {em : EM} {m : Mode} {F Fa Fb : Ev → Rs Dt} {te ta tb : TE} {G0 H0 G H G' H' : Hp} {ρ : Ev} {σ : L2.St}
/-! ### names, constants -/
def varE (i : Nat) (ρ : Ev) : Rs Dt := match ρ[i]? with
  | some (some d) => .ok d
  | _ => .no
def conE (d : Dt) (_ : Ev) : Rs Dt := .ok d
theorem varE_ok {i : Nat} {d : Dt} (h : varE i ρ = .ok d) : ρ[i]? = some (some d) := by
  unfold varE at h
  split at h
  · rename_i x e
    cases h
    exact e
  · cases h
theorem varE_post {i : Nat} {P : Dt → Prop} {E : Xn → Prop} (h : Rs.Post P E (varE i ρ)) : ∃ d, ρ[i]? = some (some d) ∧ P d := by
  cases q : varE i ρ with
  | ok d => rw [q] at h; exact ⟨d, varE_ok q, h.of_ok⟩
  | ex c => unfold varE at q; split at q <;> cases q
  | no => rw [q] at h; cases h
/-- a frozen name -/
theorem se_var {i : Nat} (hm : Γ[i]? = some .F) : SemE J Γ (.o .F) (varE i) (tVar i) := fun {_ _ _ _ _ _ _} w h => by
  obtain ⟨d, e, q⟩ := varE_post h
  obtain ⟨v, m, P, s1, s2, s3, _⟩ := w.get e
  rw [hm] at s2
  cases s2
  cases s3 with
  | F s3 => exact ⟨v, s1, q v _ _ Pno (Ext.refl w.gh) Fr.no (.F s3)⟩
/-- a name looked at -/
theorem se_varB {i : Nat} : SemE J Γ .B (varE i) (tVar i) := fun {_ _ _ _ _ _ _} w h => by
  obtain ⟨d, e, q⟩ := varE_post h
  obtain ⟨v, m, P, s1, s2, s3, _⟩ := w.get e
  exact ⟨v, s1, q v _ _ Pno (Ext.refl w.gh) Fr.no (s3.view w.gh)⟩
/-- the name of an owned list, tuple whose parts are frozen -/
theorem Ows.frozen {K : PySem.W.Frag} {ca : Str → Addr} : ∀ {ds : List Dt} {vs : List V} {P : Addr → Prop} {n : Nat}, Ows K ca G H (List.replicate n .F) ds vs P → Rps K ca G ds vs
  | [], _, _, n, h => by cases n <;> cases h; exact .nil
  | d :: ds, _, _, 0, h => by cases h
  | d :: ds, _, _, n + 1, h => by
    rw [List.replicate_succ] at h
    cases h with
    | cons h1 h2 _ _ _ =>
      cases h1 with
      | F h1 => exact .cons h1 (Ows.frozen h2)
theorem res_S {K : PySem.W.Frag} {ca : Str → Addr} {d : Dt} {v : V} {P P' : Addr → Prop} (e : Same G H) (h : Ow K ca G H (.L .F) d v P) : Res K ca G H .S d v P' := by
  refine ⟨h.view e, fun ds hd => ?_⟩
  cases h with
  | L h1 h2 h3 h4 =>
    rcases hd with hd | hd | hd
    · cases hd
      exact ⟨_, _, rfl, .inl ⟨rfl, h1⟩, h4.frozen⟩
    · cases hd
    · cases hd
theorem res_SF {K : PySem.W.Frag} {ca : Str → Addr} {d : Dt} {v : V} {P' : Addr → Prop} (e : Same G H) (h : Rp K ca G d v) : Res K ca G H .S d v P' := by
  refine ⟨h.mono e, fun ds hd => ?_⟩
  rcases hd with hd | hd | hd
  · subst hd
    cases h with
    | lst h1 h2 => exact ⟨_, _, rfl, .inl ⟨rfl, e _ _ h1⟩, h2⟩
  · subst hd
    cases h with
    | scr h1 h2 => exact ⟨_, _, rfl, .inr (.inl ⟨rfl, L2.Same.seq e h1⟩), h2⟩
  · subst hd
    cases h with
    | tup h1 h2 => exact ⟨_, _, rfl, .inr (.inr ⟨rfl, e _ _ h1⟩), h2⟩
theorem se_varS {i : Nat} (hm : Γ[i]? = some (.L .F)) : SemE J Γ .S (varE i) (tVar i) := fun {_ _ _ _ _ _ _} w h => by
  obtain ⟨d, e, q⟩ := varE_post h
  obtain ⟨v, m, P, s1, s2, s3, _⟩ := w.get e
  rw [hm] at s2
  cases s2
  exact ⟨v, s1, q v _ _ Pno (Ext.refl w.gh) Fr.no (res_S w.gh s3)⟩
theorem se_con {d : Dt} {v : V} (r : ∀ G, Rp J.K J.ca G d v) : SemE J Γ (.o .F) (conE d) (tC v) := fun {_ _ _ _ _ _ _} w h => h.of_ok v _ _ Pno (Ext.refl w.gh) Fr.no (.F (r _))
theorem se_int {i : Int} : SemE J Γ (.o .F) (conE (.int i)) (tC (.int i)) := se_con fun _ => .int i
theorem se_str {x : Str} : SemE J Γ (.o .F) (conE (.str x)) (tC (.str x)) := se_con fun _ => .str x
theorem se_bl {b : Bool} : SemE J Γ (.o .F) (conE (.bl b)) (tC (.bl b)) := se_con fun _ => .bl b
theorem se_non : SemE J Γ (.o .F) (conE .non) (tC .non) := se_con fun _ => .non
/-! ### from mode to mode -/
/-- an owned result is frozen -/
theorem frz_ext {v : V} {d : Dt} {P : Addr → Prop} {K : PySem.W.Frag} {ca : Str → Addr} (e : Ext G H G' H') (f : Fr G' H H' P) (o : Ow K ca G' H' m d v P) : ∃ G2, Ext G H G2 H' ∧ Rp K ca G2 d v ∧ Same G' G2 := by
  have sg : Same G' (fun b => if P b then H' b else G' b) := fun a u q => by
    show (if P a then H' a else G' a) = some u
    by_cases z : P a
    · rw [if_pos z]; exact e.gh a u q
    · rw [if_neg z]; exact q
  refine ⟨fun b => if P b then H' b else G' b, ⟨e.g.trans sg, e.h, fun a u q => ?_, fun a h => ?_⟩, o.freeze sg fun b hb => if_pos hb, sg⟩
  · have q : (if P a then H' a else G' a) = some u := q
    by_cases z : P a
    · rw [if_pos z] at q; exact q
    · rw [if_neg z] at q; exact e.gh a u q
  · show (if P a then H' a else G' a) = G a
    rw [if_neg fun z => h (f a z).2.1]
    exact e.base a h
theorem se_frz (h : SemE J Γ (.o m) F te) : SemE J Γ (.o .F) F te := fun {_ _ _ _ _ _ _} w p => h w (p.imp (fun d _ q v G' H' P e f o => by
  obtain ⟨G2, e2, r, _⟩ := frz_ext e f o
  exact q v G2 H' Pno e2 Fr.no (.F r)) fun _ q => q)
theorem se_B (h : SemE J Γ (.o m) F te) : SemE J Γ .B F te := fun {_ _ _ _ _ _ _} w p => h w (p.imp (fun d _ q v G' H' P e f o => q v G' H' Pno e Fr.no (o.view e.gh)) fun _ q => q)
theorem se_SB (h : SemE J Γ .S F te) : SemE J Γ .B F te := fun {_ _ _ _ _ _ _} w p => h w (p.imp (fun d _ q v G' H' P e f o => q v G' H' Pno e Fr.no o.1) fun _ q => q)
theorem se_S (h : SemE J Γ (.o .F) F te) : SemE J Γ .S F te := fun {_ _ _ _ _ _ _} w p => h w (p.imp (fun d _ q v G' H' P e f o => q v G' H' Pno e Fr.no (by
  cases o with
  | F o => exact res_SF e.gh o)) fun _ q => q)
theorem se_LS (h : SemE J Γ (.o (.L .F)) F te) : SemE J Γ .S F te := fun {_ _ _ _ _ _ _} w p => h w (p.imp (fun d _ q v G' H' P e f o => q v G' H' Pno e Fr.no (res_S e.gh o)) fun _ q => q)
/-! ### operations -/
/-- data without parts -/
def scal : Dt → Bool
  | .non => true
  | .bl _ => true
  | .int _ => true
  | .str _ => true
  | _ => false
theorem scal_rp {K : PySem.W.Frag} {ca : Str → Addr} {d : Dt} {v : V} (s : scal d = true) (h : Rp K ca H d v) : Rp K ca G d v := by
  cases h with
  | non => exact .non
  | bl b => exact .bl b
  | int i => exact .int i
  | str x => exact .str x
  | _ => cases s
def op2E (g : Dt → Dt → Rs Dt) (Fa Fb : Ev → Rs Dt) (ρ : Ev) : Rs Dt := Fa ρ >>= fun a => Fb ρ >>= fun b => g a b
def op1E (g : Dt → Rs Dt) (Fa : Ev → Rs Dt) (ρ : Ev) : Rs Dt := Fa ρ >>= g
/-- an operation that looks at two and gives a scalar -/
def Rule2 (K : PySem.W.Frag) (ca : Str → Addr) (g : Dt → Dt → Rs Dt) (r : R2) : Prop := ∀ (H : Hp) (a b d : Dt) (x y : V) (Q : VK), Rp K ca H a x → Rp K ca H b y → g a b = .ok d → (∀ v, scal d = true → (∀ G, Rp K ca G d v) → Q v H) → r x y H Q
def NoEx2 (g : Dt → Dt → Rs Dt) : Prop := ∀ a b c, g a b ≠ .ex c
def Rule1 (K : PySem.W.Frag) (ca : Str → Addr) (g : Dt → Rs Dt) (r : V → Hp → VK → Prop) : Prop := ∀ (H : Hp) (a d : Dt) (x : V) (Q : VK), Rp K ca H a x → g a = .ok d → (∀ v, scal d = true → (∀ G, Rp K ca G d v) → Q v H) → r x H Q
theorem se_op2 {g : Dt → Dt → Rs Dt} {r : R2} (hr : Rule2 J.K J.ca g r) (hn : NoEx2 g) (ha : SemE J Γ .B Fa ta) (hb : SemE J Γ .B Fb tb) : SemE J Γ (.o .F) (op2E g Fa Fb) (tOp r ta tb) := fun {G0 H0 G H ρ σ Q} w p => by
  refine ha w (p.bind.imp (fun a _ p1 x G1 H1 _ e1 _ ra => ?_) fun _ q => q)
  refine hb (w.ext e1) (p1.bind.imp (fun b _ p2 y G2 H2 _ e2 _ rb => ?_) fun _ q H' dx s => q H' dx (e1.h.trans s))
  cases q : g a b with
  | ok d =>
    rw [q] at p2
    exact hr H2 a b d x y Q (Rp.mono e2.h ra) rb q fun v _ hv => p2.of_ok v G2 H2 Pno (e1.trans e2) Fr.no (.F (hv _))
  | ex c => exact absurd q (hn a b c)
  | no => rw [q] at p2; cases p2
theorem se_op1 {g : Dt → Rs Dt} {r : V → Hp → VK → Prop} (hr : Rule1 J.K J.ca g r) (hn : ∀ a c, g a ≠ .ex c) (ha : SemE J Γ .B Fa ta) : SemE J Γ (.o .F) (op1E g Fa) (tUn r ta) := fun {G0 H0 G H ρ σ Q} w p => by
  refine ha w (p.bind.imp (fun a _ p1 x G1 H1 _ e1 _ ra => ?_) fun _ q => q)
  cases q : g a with
  | ok d =>
    rw [q] at p1
    exact hr H1 a d x Q ra q fun v _ hv => p1.of_ok v G1 H1 Pno e1 Fr.no (.F (hv _))
  | ex c => exact absurd q (hn a c)
  | no => rw [q] at p1; cases p1
/-! the ints -/
def i2 (f : Int → Int → Rs Dt) : Dt → Dt → Rs Dt
  | .int a, .int b => f a b
  | _, _ => .no
theorem rule_i2 {K : PySem.W.Frag} {ca : Str → Addr} {f : Int → Int → Rs Dt} {r : R2} (h : ∀ i j d H Q, f i j = .ok d → (∀ v, scal d = true → (∀ G, Rp K ca G d v) → Q v H) → r (.int i) (.int j) H Q) : Rule2 K ca (i2 f) r := by
  intro H a b d x y Q ra rb q k
  cases ra with
  | int i =>
    cases rb with
    | int j => exact h i j d H Q q k
    | _ => cases q
  | _ => cases rb <;> cases q
theorem nx_i2 {f : Int → Int → Rs Dt} (h : ∀ i j c, f i j ≠ .ex c) : NoEx2 (i2 f) := by
  intro a b c
  unfold i2
  split
  · exact h _ _ _
  · exact fun q => by cases q
@[irreducible] def smallI (i : Int) : Bool := decide (-(2 ^ 64) < i) && decide (i < 2 ^ 64)
def addI (i j : Int) : Rs Dt := .ok (.int (i + j))
def subI (i j : Int) : Rs Dt := .ok (.int (i - j))
def mulI (i j : Int) : Rs Dt := if (smallI i || smallI j) = true then .ok (.int (i * j)) else .no
@[irreducible] def divOk (j : Int) : Bool := decide (0 < j) && decide (j < 1073741824)
@[irreducible] def powOk (i j : Int) : Bool := decide (0 ≤ j) && (decide (j ≤ 1000) && decide (i.natAbs < 2 ^ 64))
def divI (i j : Int) : Rs Dt := if divOk j = true then .ok (.int (i / j)) else .no
def modI (i j : Int) : Rs Dt := if decide (0 < j) = true then .ok (.int (i % j)) else .no
def powI (i j : Int) : Rs Dt := if powOk i j = true then .ok (.int (i ^ j.toNat)) else .no
def shlI (i j : Int) : Rs Dt := if powOk i j = true then .ok (.int (i * 2 ^ j.toNat)) else .no
def ltI (i j : Int) : Rs Dt := .ok (.bl (decide (i < j)))
def leI (i j : Int) : Rs Dt := .ok (.bl (decide (i ≤ j)))
def gtI (i j : Int) : Rs Dt := .ok (.bl (decide (j < i)))
def geI (i j : Int) : Rs Dt := .ok (.bl (decide (j ≤ i)))
def addE := op2E (i2 addI)
def subE := op2E (i2 subI)
def mulE := op2E (i2 mulI)
def divE := op2E (i2 divI)
def modE := op2E (i2 modI)
def powE := op2E (i2 powI)
def shlE := op2E (i2 shlI)
def ltE := op2E (i2 ltI)
def leE := op2E (i2 leI)
def gtE := op2E (i2 gtI)
def geE := op2E (i2 geI)
theorem nx_if {α : Type} {c : Prop} [Decidable c] {a b : Rs α} {e : Xn} (ha : a ≠ .ex e) (hb : b ≠ .ex e) : (if c then a else b) ≠ .ex e := by
  split
  · exact ha
  · exact hb
theorem ok_if {α : Type} {c : Prop} [Decidable c] {a : Rs α} {d : α} (h : (if c then a else .no) = .ok d) : c ∧ a = .ok d := by
  split at h
  · exact ⟨by assumption, h⟩
  · cases h
section
variable (ha : SemE J Γ .B Fa ta) (hb : SemE J Γ .B Fb tb)
include ha hb
theorem se_add : SemE J Γ (.o .F) (addE Fa Fb) (tOp (rI0 fun i j => .int (i + j)) ta tb) :=
  se_op2 (rule_i2 fun i j d H Q q k => by cases q; exact ⟨i, j, rfl, rfl, k _ rfl fun _ => .int _⟩) (nx_i2 fun _ _ _ q => by cases q) ha hb
theorem se_sub : SemE J Γ (.o .F) (subE Fa Fb) (tOp (rI0 fun i j => .int (i - j)) ta tb) :=
  se_op2 (rule_i2 fun i j d H Q q k => by cases q; exact ⟨i, j, rfl, rfl, k _ rfl fun _ => .int _⟩) (nx_i2 fun _ _ _ q => by cases q) ha hb
theorem se_mul : SemE J Γ (.o .F) (mulE Fa Fb) (tOp (rI CMul fun i j => .int (i * j)) ta tb) :=
  se_op2 (rule_i2 fun i j d H Q q k => by
    obtain ⟨c, q⟩ := ok_if q
    cases q
    refine ⟨i, j, rfl, rfl, ?_, k _ rfl fun _ => .int _⟩
    unfold smallI at c
    rw [Bool.or_eq_true, Bool.and_eq_true, Bool.and_eq_true] at c
    rcases c with ⟨c1, c2⟩ | ⟨c1, c2⟩
    · exact .inl ⟨of_decide_eq_true c1, of_decide_eq_true c2⟩
    · exact .inr ⟨of_decide_eq_true c1, of_decide_eq_true c2⟩) (nx_i2 fun _ _ _ => nx_if (fun q => by cases q) fun q => by cases q) ha hb
theorem se_div : SemE J Γ (.o .F) (divE Fa Fb) (tOp (rI CDiv fun i j => .int (i / j)) ta tb) :=
  se_op2 (rule_i2 fun i j d H Q q k => by
    obtain ⟨c, q⟩ := ok_if q
    cases q
    unfold divOk at c
    rw [Bool.and_eq_true] at c
    exact ⟨i, j, rfl, rfl, ⟨of_decide_eq_true c.1, of_decide_eq_true c.2⟩, k _ rfl fun _ => .int _⟩) (nx_i2 fun _ _ _ => nx_if (fun q => by cases q) fun q => by cases q) ha hb
theorem se_mod : SemE J Γ (.o .F) (modE Fa Fb) (tOp (rI (fun _ j => 0 < j) fun i j => .int (i % j)) ta tb) :=
  se_op2 (rule_i2 fun i j d H Q q k => by
    obtain ⟨c, q⟩ := ok_if q
    cases q
    exact ⟨i, j, rfl, rfl, of_decide_eq_true c, k _ rfl fun _ => .int _⟩) (nx_i2 fun _ _ _ => nx_if (fun q => by cases q) fun q => by cases q) ha hb
theorem se_pow : SemE J Γ (.o .F) (powE Fa Fb) (tOp (rI CPow fun i j => .int (i ^ j.toNat)) ta tb) :=
  se_op2 (rule_i2 fun i j d H Q q k => by
    obtain ⟨c, q⟩ := ok_if q
    cases q
    unfold powOk at c
    rw [Bool.and_eq_true, Bool.and_eq_true] at c
    have c2 := of_decide_eq_true c.2.1
    exact ⟨i, j, rfl, rfl, ⟨of_decide_eq_true c.1, by omega, of_decide_eq_true c.2.2⟩, k _ rfl fun _ => .int _⟩) (nx_i2 fun _ _ _ => nx_if (fun q => by cases q) fun q => by cases q) ha hb
theorem se_shl : SemE J Γ (.o .F) (shlE Fa Fb) (tOp (rI CPow fun i j => .int (i * 2 ^ j.toNat)) ta tb) :=
  se_op2 (rule_i2 fun i j d H Q q k => by
    obtain ⟨c, q⟩ := ok_if q
    cases q
    unfold powOk at c
    rw [Bool.and_eq_true, Bool.and_eq_true] at c
    have c2 := of_decide_eq_true c.2.1
    exact ⟨i, j, rfl, rfl, ⟨of_decide_eq_true c.1, by omega, of_decide_eq_true c.2.2⟩, k _ rfl fun _ => .int _⟩) (nx_i2 fun _ _ _ => nx_if (fun q => by cases q) fun q => by cases q) ha hb
theorem se_lt : SemE J Γ (.o .F) (ltE Fa Fb) (tOp (rI0 fun i j => .bl (decide (i < j))) ta tb) :=
  se_op2 (rule_i2 fun i j d H Q q k => by cases q; exact ⟨i, j, rfl, rfl, k _ rfl fun _ => .bl _⟩) (nx_i2 fun _ _ _ q => by cases q) ha hb
theorem se_le : SemE J Γ (.o .F) (leE Fa Fb) (tOp (rI0 fun i j => .bl (decide (i ≤ j))) ta tb) :=
  se_op2 (rule_i2 fun i j d H Q q k => by cases q; exact ⟨i, j, rfl, rfl, k _ rfl fun _ => .bl _⟩) (nx_i2 fun _ _ _ q => by cases q) ha hb
theorem se_gt : SemE J Γ (.o .F) (gtE Fa Fb) (tOp (rI0 fun i j => .bl (decide (j < i))) ta tb) :=
  se_op2 (rule_i2 fun i j d H Q q k => by cases q; exact ⟨i, j, rfl, rfl, k _ rfl fun _ => .bl _⟩) (nx_i2 fun _ _ _ q => by cases q) ha hb
theorem se_ge : SemE J Γ (.o .F) (geE Fa Fb) (tOp (rI0 fun i j => .bl (decide (j ≤ i))) ta tb) :=
  se_op2 (rule_i2 fun i j d H Q q k => by cases q; exact ⟨i, j, rfl, rfl, k _ rfl fun _ => .bl _⟩) (nx_i2 fun _ _ _ q => by cases q) ha hb
end
end
end Pm
namespace Pm
open PySem PySem.Spec PyProof.Rows L2
open Classical
/-! ### == -/
mutual
def pyD : Dt → PyData
  | .non => .none
  | .bl b => .bool b
  | .int i => .int i
  | .str x => .str x
  | .lst ds => .list (pyDs ds)
  | .scr ds => .list (pyDs ds)
  | .tup ds => .tuple (pyDs ds)
  | .ktp ds => .tuple (pyDs ds)
  | .ins _ _ _ => .dict []
  | .dic _ _ => .dict []
  | .dit _ _ => .dict []
def pyDs : List Dt → List PyData
  | [] => []
  | d :: ds => pyD d :: pyDs ds
end
theorem pyDs_map : ∀ ds : List Dt, pyDs ds = ds.map pyD
  | [] => rfl
  | d :: ds => by rw [pyDs, pyDs_map ds, List.map_cons]
section
variable {K : PySem.W.Frag} {ca : Str → Addr} {H : Hp}
mutual
theorem Rp.dp : ∀ {d : Dt} {v : V}, (pyD d).canLay0 = true → Rp K ca H d v → Dp K H v (pyD d)
  | .non, _, _, h => by cases h; exact .non
  | .bl b, _, _, h => by cases h; exact .bl b
  | .int i, _, _, h => by cases h; exact .int i
  | .str x, _, _, h => by cases h; exact .str x
  | .lst ds, _, c, h => by
    cases h with
    | lst h1 h2 => exact .lst (.of h1) (Rps.dp (by simpa [pyD, PyData.canLay0] using c) h2)
  | .scr ds, _, c, h => by
    cases h with
    | scr h1 h2 => exact .lst h1 (Rps.dp (by simpa [pyD, PyData.canLay0] using c) h2)
  | .tup ds, _, c, h => by
    cases h with
    | tup h1 h2 => exact .tup (.of h1) (Rps.dp (by simpa [pyD, PyData.canLay0] using c) h2)
  | .ktp ds, _, c, h => by
    cases h with
    | ktp h1 h2 => exact .tup h1 (Rps.dp (by simpa [pyD, PyData.canLay0] using c) h2)
  | .ins _ _ _, _, c, _ => by simp [pyD, PyData.canLay0] at c
  | .dic _ _, _, c, _ => by simp [pyD, PyData.canLay0] at c
  | .dit _ _, _, c, _ => by simp [pyD, PyData.canLay0] at c
theorem Rps.dp : ∀ {ds : List Dt} {vs : List V}, PyData.canLayAll0 (pyDs ds) = true → Rps K ca H ds vs → DpAll K H vs (pyDs ds)
  | [], _, _, h => by cases h; exact .nil
  | d :: ds, _, c, h => by
    cases h with
    | cons h1 h2 =>
      have c2 : PyData.canLay0 (pyD d) = true ∧ PyData.canLayAll0 (pyDs ds) = true := by simpa [pyDs, PyData.canLayAll0] using c
      exact .cons (Rp.dp c2.1 h1) (Rps.dp c2.2 h2)
end
end
def eqOK (d : Dt) : Bool := SeqAt.shaped (pyD d)
def deq (a b : Dt) : Bool := PyData.eqv (pyD a) (pyD b)
def eqD (a b : Dt) : Rs Dt := if (eqOK a && eqOK b) = true then .ok (.bl (deq a b)) else .no
def neD (a b : Dt) : Rs Dt := if (eqOK a && eqOK b) = true then .ok (.bl (!deq a b)) else .no
def eqE := op2E eqD
def neE := op2E neD
def isNonD (d : Dt) : Bool := match d with
  | .non => true
  | _ => false
def isNE := op1E fun a => .ok (.bl (isNonD a))
def notNE := op1E fun a => .ok (.bl (!isNonD a))
def seqD : Dt → Option (List Dt)
  | .lst ds => some ds
  | .scr ds => some ds
  | .tup ds => some ds
  | _ => none
def kseqD : Dt → Option (List Dt)
  | .lst ds => some ds
  | .scr ds => some ds
  | .tup ds => some ds
  | .ktp ds => some ds
  | _ => none
def inD (a : Dt) (ds : List Dt) : Bool := ds.any fun y => deq y a
def memD (neg : Bool) (a b : Dt) : Rs Dt := match kseqD b with
  | some ds => if (scal a && ds.all scal) = true then .ok (.bl (if neg then !inD a ds else inD a ds)) else .no
  | none => .no
def inE := op2E (memD false)
def ninE := op2E (memD true)
@[irreducible] def strSz (x : Str) : Bool := decide (x.length ≤ 1000000)
theorem strSz_ok {x : Str} (h : strSz x = true) : x.length ≤ 1000000 := by
  unfold strSz at h
  exact of_decide_eq_true h
def lenD : Dt → Rs Dt
  | .lst ds => .ok (.int ds.length)
  | .scr ds => .ok (.int ds.length)
  | .tup ds => .ok (.int ds.length)
  | .ktp ds => .ok (.int ds.length)
  | .str x => if strSz x = true then .ok (.int x.length) else .no
  | _ => .no
def lenE := op1E lenD
def ixD : Dt → Dt → Rs Dt
  | .lst ds, .int i => (match atI ds i with | some d => .ok d | none => .no)
  | .scr ds, .int i => (match atI ds i with | some d => .ok d | none => .no)
  | .tup ds, .int i => (match atI ds i with | some d => .ok d | none => .no)
  | .str x, .int i => if strSz x = true then (match atI x.cps.toList i with | some c => .ok (.str ⟨#[c]⟩) | none => .no) else .no
  | _, _ => .no
def ixE := op2E ixD
section
variable {J : Jc} {Γ : List Mode} {em : EM} {m : Mode} {F Fa Fb : Ev → Rs Dt} {te ta tb : TE} {G0 H0 G H G' H' : Hp} {ρ : Ev} {σ : L2.St}
theorem sz1000000 {n : Nat} (h : n ≤ 1000000) : n ≤ sizeLine := Nat.le_trans h (by decide)
section
variable (ha : SemE J Γ .B Fa ta) (hb : SemE J Γ .B Fb tb)
include ha hb
theorem se_eq : SemE J Γ (.o .F) (eqE Fa Fb) (tOp (rEqD J.K) ta tb) := se_op2 (fun H a b d x y Q ra rb q k => by
  obtain ⟨c, q⟩ := ok_if q
  cases q
  rw [Bool.and_eq_true] at c
  exact ⟨_, _, ra.dp (SeqAt.canLay_of_shaped c.1), rb.dp (SeqAt.canLay_of_shaped c.2), c.1, c.2, k _ rfl fun _ => .bl _⟩) (fun _ _ _ => nx_if (fun q => by cases q) fun q => by cases q) ha hb
theorem se_ne : SemE J Γ (.o .F) (neE Fa Fb) (tOp (rNeD J.K) ta tb) := se_op2 (fun H a b d x y Q ra rb q k => by
  obtain ⟨c, q⟩ := ok_if q
  cases q
  rw [Bool.and_eq_true] at c
  exact ⟨_, _, ra.dp (SeqAt.canLay_of_shaped c.1), rb.dp (SeqAt.canLay_of_shaped c.2), c.1, c.2, k _ rfl fun _ => .bl _⟩) (fun _ _ _ => nx_if (fun q => by cases q) fun q => by cases q) ha hb
end
theorem rp_non {K : PySem.W.Frag} {ca : Str → Addr} {d : Dt} {v : V} (h : Rp K ca H d v) : decide (v = .non) = isNonD d := by
  cases h <;> rfl
theorem se_op2n {g : Dt → Rs Dt} {r : R2} (hr : ∀ (H : Hp) (a d : Dt) (x : V) (Q : VK), Rp J.K J.ca H a x → g a = .ok d → (∀ v, scal d = true → (∀ G, Rp J.K J.ca G d v) → Q v H) → r x .non H Q) (hn : ∀ a c, g a ≠ .ex c) (ha : SemE J Γ .B Fa ta) :
    SemE J Γ (.o .F) (op1E g Fa) (tOp r ta (tC .non)) := fun {G0 H0 G H ρ σ Q} w p => by
  refine ha w (p.bind.imp (fun a _ p1 x G1 H1 _ e1 _ ra => ?_) fun _ q => q)
  show r x .non H1 Q
  cases q : g a with
  | ok d =>
    rw [q] at p1
    exact hr H1 a d x Q ra q fun v _ hv => p1.of_ok v G1 H1 Pno e1 Fr.no (.F (hv _))
  | ex c => exact absurd q (hn a c)
  | no => rw [q] at p1; cases p1
theorem se_isN (ha : SemE J Γ .B Fa ta) : SemE J Γ (.o .F) (isNE Fa) (tOp (fun x y H Q => y = .non ∧ Q (.bl (decide (x = .non))) H) ta (tC .non)) :=
  se_op2n (fun H a d x Q ra q k => by cases q; exact ⟨rfl, by rw [rp_non ra]; exact k _ rfl fun _ => .bl _⟩) (fun _ _ q => by cases q) ha
theorem se_notN (ha : SemE J Γ .B Fa ta) : SemE J Γ (.o .F) (notNE Fa) (tOp (fun x y H Q => y = .non ∧ Q (.bl (!decide (x = .non))) H) ta (tC .non)) :=
  se_op2n (fun H a d x Q ra q k => by cases q; exact ⟨rfl, by rw [rp_non ra]; exact k _ rfl fun _ => .bl _⟩) (fun _ _ q => by cases q) ha
/-! ### in, len, items -/
theorem scal_flat {K : PySem.W.Frag} {ca : Str → Addr} {d : Dt} {v : V} (s : scal d = true) (h : Rp K ca H d v) : flatV v = true := by
  cases h <;> first | rfl | cases s
theorem eqV_deq {K : PySem.W.Frag} {ca : Str → Addr} {d e : Dt} {v u : V} (s : scal d = true) (s2 : scal e = true) (h : Rp K ca H d v) (k : Rp K ca H e u) : eqV v u = deq d e := by
  cases h <;> first | (cases s; done) | (cases k <;> first | (cases s2; done) | rfl)
theorem inV_inD {K : PySem.W.Frag} {ca : Str → Addr} {a : Dt} {x : V} (s : scal a = true) (ra : Rp K ca H a x) : ∀ {ds : List Dt} {vs : List V}, ds.all scal = true → Rps K ca H ds vs → vs.all flatV = true ∧ inV x vs = inD a ds
  | [], _, _, h => by cases h; exact ⟨rfl, rfl⟩
  | d :: ds, _, c, h => by
    cases h with
    | cons h1 h2 =>
      rw [List.all_cons, Bool.and_eq_true] at c
      obtain ⟨q1, q2⟩ := inV_inD s ra c.2 h2
      refine ⟨by rw [List.all_cons, scal_flat c.1 h1, q1]; rfl, ?_⟩
      unfold inV inD at q2 ⊢
      rw [List.any_cons, List.any_cons, q2, eqV_deq c.1 s h1 ra]
theorem seq_rp {K : PySem.W.Frag} {ca : Str → Addr} {b : Dt} {y : V} {ds : List Dt} (q : kseqD b = some ds) (rb : Rp K ca H b y) : ∃ a vs, y = .ref a ∧ (SqL K H a vs ∨ SqT K H a vs) ∧ Rps K ca H ds vs := by
  cases rb with
  | lst h1 h2 => cases q; exact ⟨_, _, rfl, .inl (.of h1), h2⟩
  | scr h1 h2 => cases q; exact ⟨_, _, rfl, .inl h1, h2⟩
  | tup h1 h2 => cases q; exact ⟨_, _, rfl, .inr (.of h1), h2⟩
  | ktp h1 h2 => cases q; exact ⟨_, _, rfl, .inr h1, h2⟩
  | _ => cases q
theorem rule_mem {K : PySem.W.Frag} {ca : Str → Addr} (neg : Bool) : Rule2 K ca (memD neg) (rIn K neg) := by
  intro H a b d x y Q ra rb q k
  unfold memD at q
  cases e : kseqD b with
  | none => rw [e] at q; cases q
  | some ds =>
    rw [e] at q
    obtain ⟨c, q⟩ := ok_if q
    cases q
    rw [Bool.and_eq_true] at c
    obtain ⟨p, vs, rfl, hs, hr⟩ := seq_rp e rb
    obtain ⟨f1, f2⟩ := inV_inD c.1 ra c.2 hr
    refine ⟨p, vs, rfl, hs, scal_flat c.1 ra, f1, ?_⟩
    rw [f2]
    exact k _ rfl fun _ => .bl _
theorem nx_mem (neg : Bool) : NoEx2 (memD neg) := by
  intro a b c
  unfold memD
  split
  · exact nx_if (fun q => by cases q) fun q => by cases q
  · exact fun q => by cases q
theorem se_in (ha : SemE J Γ .B Fa ta) (hb : SemE J Γ .B Fb tb) : SemE J Γ (.o .F) (inE Fa Fb) (tOp (rIn J.K false) ta tb) := se_op2 (rule_mem false) (nx_mem false) ha hb
theorem se_nin (ha : SemE J Γ .B Fa ta) (hb : SemE J Γ .B Fb tb) : SemE J Γ (.o .F) (ninE Fa Fb) (tOp (rIn J.K true) ta tb) := se_op2 (rule_mem true) (nx_mem true) ha hb
/-- f(a) that looks at a and gives a scalar -/
theorem se_cb1 {g : Dt → Rs Dt} {r : List V → Hp → VK → Prop} (hr : ∀ (H : Hp) (a d : Dt) (x : V) (Q : VK), Rp J.K J.ca H a x → g a = .ok d → (∀ v, scal d = true → (∀ G, Rp J.K J.ca G d v) → Q v H) → r [x] H Q) (hn : ∀ a c, g a ≠ .ex c) (ha : SemE J Γ .B Fa ta) :
    SemE J Γ (.o .F) (op1E g Fa) (tCB r (tCons ta tNil)) := fun {G0 H0 G H ρ σ Q} w p => by
  refine ha w (p.bind.imp (fun a _ p1 x G1 H1 _ e1 _ ra => ?_) fun _ q => q)
  show r [x] H1 Q
  cases q : g a with
  | ok d =>
    rw [q] at p1
    exact hr H1 a d x Q ra q fun v _ hv => p1.of_ok v G1 H1 Pno e1 Fr.no (.F (hv _))
  | ex c => exact absurd q (hn a c)
  | no => rw [q] at p1; cases p1
theorem nx_len : ∀ a c, lenD a ≠ .ex c := by
  intro a c
  unfold lenD
  split <;> first | (intro q; cases q; done) | exact nx_if (fun q => by cases q) fun q => by cases q
theorem se_len (ha : SemE J Γ .B Fa ta) : SemE J Γ (.o .F) (lenE Fa) (tCB (fun xs H Q => ∃ x n, xs = [x] ∧ LenV J.K x H n ∧ Q (.int n) H) (tCons ta tNil)) :=
  se_cb1 (fun H a d x Q ra q k => by
    cases ra with
    | lst h1 h2 => cases q; exact ⟨_, _, rfl, .inl ⟨_, .of h1, rfl⟩, by rw [← h2.length]; exact k _ rfl fun _ => .int _⟩
    | scr h1 h2 => cases q; exact ⟨_, _, rfl, .inl ⟨_, h1, rfl⟩, by rw [← h2.length]; exact k _ rfl fun _ => .int _⟩
    | tup h1 h2 => cases q; exact ⟨_, _, rfl, .inr ⟨_, .of h1, rfl⟩, by rw [← h2.length]; exact k _ rfl fun _ => .int _⟩
    | ktp h1 h2 => cases q; exact ⟨_, _, rfl, .inr ⟨_, h1, rfl⟩, by rw [← h2.length]; exact k _ rfl fun _ => .int _⟩
    | str z =>
      obtain ⟨c, q⟩ := ok_if q
      cases q
      exact ⟨_, _, rfl, ⟨sz1000000 (strSz_ok c), rfl⟩, k _ rfl fun _ => .int _⟩
    | _ => cases q) nx_len ha
theorem nx_ix : NoEx2 ixD := by
  intro a b c
  unfold ixD
  split <;> first | (intro q; cases q; done) | (split <;> intro q <;> cases q; done) | (refine nx_if ?_ (fun q => by cases q); split <;> intro q <;> cases q)
theorem Rps.atI {K : PySem.W.Frag} {ca : Str → Addr} {ds : List Dt} {vs : List V} {i : Int} {d : Dt} (h : Rps K ca H ds vs) (e : L2.atI ds i = some d) : ∃ v, L2.atI vs i = some v ∧ Rp K ca H d v := by
  unfold L2.atI at e ⊢
  rw [← h.length]
  cases q : ixN ds.length i with
  | none => rw [q] at e; cases e
  | some j =>
    rw [q] at e
    obtain ⟨v, h1, h2⟩ := h.get (show ds[j]? = some d from e)
    exact ⟨v, h1, h2⟩
theorem mt_at {ds : List Dt} {i : Int} {d : Dt} (h : (match L2.atI ds i with | some d => (Rs.ok d : Rs Dt) | none => .no) = .ok d) : L2.atI ds i = some d := by
  cases q : L2.atI ds i with
  | none => rw [q] at h; cases h
  | some e => rw [q] at h; cases h; rfl
/-- an item of something looked at -/
theorem rIx_run {K : PySem.W.Frag} {ca : Str → Addr} {a b d : Dt} {x y : V} {Q : VK} (ra : Rp K ca H a x) (rb : Rp K ca H b y) (q : ixD a b = .ok d) (k : ∀ v, Rp K ca H d v → Q v H) : rIx K x y H Q := by
  cases rb with
  | int i =>
    cases ra with
    | lst h1 h2 =>
      obtain ⟨v, e, r⟩ := h2.atI (mt_at q)
      exact .inl ⟨_, _, i, v, rfl, rfl, .of h1, e, k v r⟩
    | scr h1 h2 =>
      obtain ⟨v, e, r⟩ := h2.atI (mt_at q)
      exact .inl ⟨_, _, i, v, rfl, rfl, h1, e, k v r⟩
    | tup h1 h2 =>
      obtain ⟨v, e, r⟩ := h2.atI (mt_at q)
      exact .inr (.inl ⟨_, _, i, v, rfl, rfl, .of h1, e, k v r⟩)
    | str z =>
      obtain ⟨c, q⟩ := ok_if q
      cases e : L2.atI z.cps.toList i with
      | none => rw [e] at q; cases q
      | some w =>
        rw [e] at q
        cases q
        exact .inr (.inr ⟨z, i, w, rfl, rfl, sz1000000 (strSz_ok c), e, k _ (.str _)⟩)
    | _ => cases q
  | _ => cases ra <;> cases q
theorem se_ixB (ha : SemE J Γ .B Fa ta) (hb : SemE J Γ .B Fb tb) : SemE J Γ .B (ixE Fa Fb) (tOp (rIx J.K) ta tb) := fun {G0 H0 G H ρ σ Q} w p => by
  refine ha w (p.bind.imp (fun a _ p1 x G1 H1 _ e1 _ ra => ?_) fun _ q => q)
  refine hb (w.ext e1) (p1.bind.imp (fun b _ p2 y G2 H2 _ e2 _ rb => ?_) fun _ q H' dx s => q H' dx (e1.h.trans s))
  cases q : ixD a b with
  | ok d =>
    rw [q] at p2
    exact rIx_run (Rp.mono e2.h ra) rb q fun v hv => p2.of_ok v G2 H2 Pno (e1.trans e2) Fr.no hv
  | ex c => exact absurd q (nx_ix a b c)
  | no => rw [q] at p2; cases p2
/-- an item of a list, tuple whose parts are frozen -/
theorem se_ix (ha : SemE J Γ .S Fa ta) (hb : SemE J Γ .B Fb tb) : SemE J Γ (.o .F) (ixE Fa Fb) (tOp (rIx J.K) ta tb) := fun {G0 H0 G H ρ σ Q} w p => by
  refine ha w (p.bind.imp (fun a _ p1 x G1 H1 _ e1 _ ra => ?_) fun _ q => q)
  refine hb (w.ext e1) (p1.bind.imp (fun b _ p2 y G2 H2 _ e2 _ rb => ?_) fun _ q H' dx s => q H' dx (e1.h.trans s))
  cases q : ixD a b with
  | ok d =>
    rw [q] at p2
    have fin : ∀ v, Rp J.K J.ca G2 d v → Q v H2 := fun v hv => p2.of_ok v G2 H2 Pno (e1.trans e2) Fr.no (.F hv)
    cases rb with
    | int i =>
      obtain ⟨rx, rs⟩ := ra
      cases a with
      | lst ds =>
        obtain ⟨p, vs, rfl, sq, hr⟩ := rs ds (.inl rfl)
        rcases sq with ⟨z, s⟩ | ⟨z, s⟩ | ⟨z, s⟩ <;> try cases z
        obtain ⟨v, e, r⟩ := hr.atI (mt_at q)
        exact .inl ⟨_, _, i, v, rfl, rfl, .of (e2.h _ _ s), e, fin v (r.mono e2.g)⟩
      | scr ds =>
        obtain ⟨p, vs, rfl, sq, hr⟩ := rs ds (.inr (.inl rfl))
        rcases sq with ⟨z, s⟩ | ⟨z, s⟩ | ⟨z, s⟩ <;> try cases z
        obtain ⟨v, e, r⟩ := hr.atI (mt_at q)
        exact .inl ⟨_, _, i, v, rfl, rfl, e2.h.seq s, e, fin v (r.mono e2.g)⟩
      | tup ds =>
        obtain ⟨p, vs, rfl, sq, hr⟩ := rs ds (.inr (.inr rfl))
        rcases sq with ⟨z, s⟩ | ⟨z, s⟩ | ⟨z, s⟩ <;> try cases z
        obtain ⟨v, e, r⟩ := hr.atI (mt_at q)
        exact .inr (.inl ⟨_, _, i, v, rfl, rfl, .of (e2.h _ _ s), e, fin v (r.mono e2.g)⟩)
      | str z =>
        cases rx with
        | str z =>
          obtain ⟨c, q⟩ := ok_if q
          cases e : L2.atI z.cps.toList i with
          | none => rw [e] at q; cases q
          | some w =>
            rw [e] at q
            cases q
            exact .inr (.inr ⟨z, i, w, rfl, rfl, sz1000000 (strSz_ok c), e, fin _ (.str _)⟩)
      | _ => cases q
    | _ => cases a <;> cases q
  | ex c => exact absurd q (nx_ix a b c)
  | no => rw [q] at p2; cases p2
/-! ### isinstance against the plain types -/
inductive Ty | none | bool | int | str | list | tuple | dict
  deriving DecidableEq
def Ty.nm : Ty → String
  | .none => "NoneType" | .bool => "bool" | .int => "int" | .str => "str" | .list => "list" | .tuple => "tuple" | .dict => "dict"
def tyD : Dt → Option Ty
  | .non => some .none
  | .bl _ => some .bool
  | .int _ => some .int
  | .str _ => some .str
  | .lst _ => some .list
  | .tup _ => some .tuple
  | .dic _ _ => some .dict
  | _ => Option.none
def isTy (a b : Ty) : Bool := decide (a = b) || (decide (a = .bool) && decide (b = .int))
theorem kit_isTy (a b : Ty) (h : b ≠ .none) : kitB a.nm b.nm = some (isTy a b) := by
  cases a <;> cases b <;> first | exact absurd rfl h | decide +kernel
def isiD (c : Ty) (d : Dt) : Rs Dt := match tyD d with
  | some t => .ok (.bl (isTy t c))
  | Option.none => .no
def isiE (c : Ty) := op1E (isiD c)
theorem se_isi {c : Ty} (hc : c ≠ .none) (ha : SemE J Γ .B Fa ta) : SemE J Γ (.o .F) (isiE c Fa) (tCB (rIsi J.K) (tCons ta (tCons (tC (.ty c.nm)) tNil))) := fun {G0 H0 G H ρ σ Q} w p => by
  refine ha w (p.bind.imp (fun a _ p1 x G1 H1 _ e1 _ ra => ?_) fun _ q => q)
  have fin : ∀ t, tyD a = some t → Q (.bl (isTy t c)) H1 := fun t e => by
    unfold isiD at p1
    rw [e] at p1
    exact p1.of_ok _ G1 H1 Pno e1 Fr.no (.F (.bl _))
  have go : ∀ t : Ty, tyD a = some t → TyX J.K H1 x (.type t.nm) → rIsi J.K [x, .ty c.nm] H1 Q := fun t e z => ⟨x, .ty c.nm, .type t.nm, .type c.nm, isTy t c, rfl, .ty _, z, kit_ty (kit_isTy t c hc), fin t e⟩
  show rIsi J.K [x, .ty c.nm] H1 Q
  cases ra with
  | non => exact go .none rfl (.base .non)
  | bl b => exact go .bool rfl (.base (.bl b))
  | int i => exact go .int rfl (.base (.int i))
  | str z => exact go .str rfl (.base (.str z))
  | lst h1 h2 => exact go .list rfl (.base (.lst h1))
  | tup h1 h2 => exact go .tuple rfl (.base (.tup h1))
  | ktp _ _ => unfold isiD tyD at p1; cases p1
  | dic h1 h2 h3 => exact go .dict rfl (.base (.dK h1))
  | dit _ _ _ => unfold isiD tyD at p1; cases p1
  | scr _ _ => unfold isiD tyD at p1; cases p1
  | ins _ _ _ => unfold isiD tyD at p1; cases p1
end
end Pm
namespace Pm
open PySem PySem.Spec PyProof.Rows L2
open Classical
/-! ### tests -/
def asB : Dt → Rs Bool
  | .bl b => .ok b
  | _ => .no
def boolT (F : Ev → Rs Dt) (ρ : Ev) : Rs Bool := F ρ >>= asB
def notT (F : Ev → Rs Bool) (ρ : Ev) : Rs Bool := F ρ >>= fun b => .ok (!b)
def andT (Fa Fb : Ev → Rs Bool) (ρ : Ev) : Rs Bool := Fa ρ >>= fun b => if b = true then Fb ρ else .ok false
def orT (Fa Fb : Ev → Rs Bool) (ρ : Ev) : Rs Bool := Fa ρ >>= fun b => if b = true then .ok true else Fb ρ
def andE (Fa Fb : Ev → Rs Dt) (ρ : Ev) : Rs Dt := Fa ρ >>= fun a => asB a >>= fun b => if b = true then Fb ρ else .ok (.bl false)
def orE (Fa Fb : Ev → Rs Dt) (ρ : Ev) : Rs Dt := Fa ρ >>= fun a => asB a >>= fun b => if b = true then .ok (.bl true) else Fb ρ
def notE (Fa : Ev → Rs Dt) (ρ : Ev) : Rs Dt := Fa ρ >>= fun a => asB a >>= fun b => .ok (.bl (!b))
def ifE (Ft : Ev → Rs Bool) (Fa Fb : Ev → Rs Dt) (ρ : Ev) : Rs Dt := Ft ρ >>= fun b => if b = true then Fa ρ else Fb ρ
section
variable {J : Jc} {Γ : List Mode} {em : EM} {m : Mode} {F Fa Fb : Ev → Rs Dt} {Ft Fu : Ev → Rs Bool} {te ta tb : TE} {tt tu : TT} {G0 H0 G H G' H' : Hp} {ρ : Ev} {σ : L2.St}
theorem st_val (h : SemE J Γ .B F te) : SemT J Γ (boolT F) (tTest te) := fun {G0 H0 G H ρ σ Q} w p => h w (p.bind.imp (fun d _ q v G' H' P e _ r => by
  cases r with
  | bl b => exact ⟨b, rfl, q.of_ok G' H' e⟩
  | _ => cases q) fun _ q => q)
theorem st_valB (h : SemE J Γ .B F te) : SemT J Γ (boolT F) (tB te) := st_val h
theorem st_not (h : SemT J Γ Ft tt) : SemT J Γ (notT Ft) (tNot tt) := fun {G0 H0 G H ρ σ Q} w p => h w (p.bind.imp (fun d _ q G' H' e => q.of_ok G' H' e) fun _ q => q)
theorem st_and (h : SemT J Γ Ft tt) (k : SemT J Γ Fu tu) : SemT J Γ (andT Ft Fu) (tAnd tt tu) := fun {G0 H0 G H ρ σ Q} w p => h w (p.bind.imp (fun b _ q G' H' e => by
  cases b with
  | true => exact k (w.ext e) (Rs.Post.imp q (fun c _ r G2 H2 e2 => r G2 H2 (e.trans e2)) fun c r H2 dx s => r H2 dx (e.h.trans s))
  | false => exact Rs.Post.of_ok q G' H' e) fun _ q => q)
theorem st_or (h : SemT J Γ Ft tt) (k : SemT J Γ Fu tu) : SemT J Γ (orT Ft Fu) (tOr tt tu) := fun {G0 H0 G H ρ σ Q} w p => h w (p.bind.imp (fun b _ q G' H' e => by
  cases b with
  | false => exact k (w.ext e) (Rs.Post.imp q (fun c _ r G2 H2 e2 => r G2 H2 (e.trans e2)) fun c r H2 dx s => r H2 dx (e.h.trans s))
  | true => exact Rs.Post.of_ok q G' H' e) fun _ q => q)
theorem se_and (h : SemE J Γ .B Fa ta) (k : SemE J Γ (.o .F) Fb tb) : SemE J Γ (.o .F) (andE Fa Fb) (tAndV ta tb) := fun {G0 H0 G H ρ σ Q} w p => h w (p.bind.imp (fun d _ q v G' H' P e _ r => by
  cases r with
  | bl b =>
    cases b with
    | true => exact ⟨true, rfl, k (w.ext e) (Rs.Post.imp q (fun c _ r v2 G2 H2 P2 e2 f2 o2 => r v2 G2 H2 Pno (e.trans e2) Fr.no (by cases o2 with | F o2 => exact .F o2)) fun c r H2 dx s => r H2 dx (e.h.trans s))⟩
    | false => exact ⟨false, rfl, Rs.Post.of_ok q _ G' H' Pno e Fr.no (.F (.bl _))⟩
  | _ => cases q) fun _ q => q)
theorem se_or (h : SemE J Γ .B Fa ta) (k : SemE J Γ (.o .F) Fb tb) : SemE J Γ (.o .F) (orE Fa Fb) (tOrV ta tb) := fun {G0 H0 G H ρ σ Q} w p => h w (p.bind.imp (fun d _ q v G' H' P e _ r => by
  cases r with
  | bl b =>
    cases b with
    | false => exact ⟨false, rfl, k (w.ext e) (Rs.Post.imp q (fun c _ r v2 G2 H2 P2 e2 f2 o2 => r v2 G2 H2 Pno (e.trans e2) Fr.no (by cases o2 with | F o2 => exact .F o2)) fun c r H2 dx s => r H2 dx (e.h.trans s))⟩
    | true => exact ⟨true, rfl, Rs.Post.of_ok q _ G' H' Pno e Fr.no (.F (.bl _))⟩
  | _ => cases q) fun _ q => q)
theorem se_not (h : SemE J Γ .B Fa ta) : SemE J Γ (.o .F) (notE Fa) (tNotV ta) := fun {G0 H0 G H ρ σ Q} w p => h w (p.bind.imp (fun d _ q v G' H' P e _ r => by
  cases r with
  | bl b => exact ⟨b, rfl, Rs.Post.of_ok q _ G' H' Pno e Fr.no (.F (.bl _))⟩
  | _ => cases q) fun _ q => q)
theorem se_if (h : SemT J Γ Ft tt) (k : SemE J Γ (.o .F) Fa ta) (l : SemE J Γ (.o .F) Fb tb) : SemE J Γ (.o .F) (ifE Ft Fa Fb) (tIf tt ta tb) := fun {G0 H0 G H ρ σ Q} w p => h w (p.bind.imp (fun b _ q G' H' e => by
  cases b with
  | true => exact k (w.ext e) (Rs.Post.imp q (fun c _ r v2 G2 H2 P2 e2 f2 o2 => r v2 G2 H2 Pno (e.trans e2) Fr.no (by cases o2 with | F o2 => exact .F o2)) fun c r H2 dx s => r H2 dx (e.h.trans s))
  | false => exact l (w.ext e) (Rs.Post.imp q (fun c _ r v2 G2 H2 P2 e2 f2 o2 => r v2 G2 H2 Pno (e.trans e2) Fr.no (by cases o2 with | F o2 => exact .F o2)) fun c r H2 dx s => r H2 dx (e.h.trans s))) fun _ q => q)
/-- -a -/
def negD : Dt → Rs Dt
  | .int i => .ok (.int (-i))
  | _ => .no
def negE := op1E negD
theorem se_neg (ha : SemE J Γ .B Fa ta) : SemE J Γ (.o .F) (negE Fa) (tUn (rU fun i => .int (-i)) ta) := se_op1 (fun H a d x Q ra q k => by
  cases ra with
  | int i => cases q; exact ⟨i, rfl, k _ rfl fun _ => .int _⟩
  | _ => cases q) (fun a c => by unfold negD; split <;> intro q <;> cases q) ha
/-! ### argument lists -/
def argsE : List (Ev → Rs Dt) → Ev → Rs (List Dt)
  | [], _ => .ok []
  | f :: fs, ρ => f ρ >>= fun d => argsE fs ρ >>= fun ds => .ok (d :: ds)
theorem argsE_len : ∀ {fs : List (Ev → Rs Dt)} {ρ : Ev} {ds : List Dt}, argsE fs ρ = .ok ds → ds.length = fs.length
  | [], _, _, h => by cases h; rfl
  | f :: fs, ρ, ds, h => by
    unfold argsE at h
    cases q : f ρ with
    | ok d =>
      rw [q, ok_bind] at h
      cases q2 : argsE fs ρ with
      | ok es =>
        rw [q2, ok_bind] at h
        cases h
        rw [List.length_cons, List.length_cons, argsE_len q2]
      | ex c => rw [q2] at h; cases h
      | no => rw [q2] at h; cases h
    | ex c => rw [q] at h; cases h
    | no => rw [q] at h; cases h
end
def SemZ (J : Jc) (Γ : List Mode) (ms : List Mode) (Fs : List (Ev → Rs Dt)) (ta : TA) : Prop := ∀ ⦃G0 H0 G H : Hp⦄ ⦃ρ : Ev⦄ ⦃σ : L2.St⦄ ⦃Q : List V → Hp → Prop⦄, Wd J G0 H0 Γ ρ σ G H →
  Rs.Post (fun ds => ∀ vs G' H' P, Ext G H G' H' → Fr G' H H' P → Ows J.K J.ca G' H' ms ds vs P → Q vs H') (fun c => ∀ H' dx, Same H H' → XR c dx H' → J.W (.ref (J.ca c.1)) dx σ H') (argsE Fs ρ) → ta σ H Q
def SemBs (J : Jc) (Γ : List Mode) (Fs : List (Ev → Rs Dt)) (ta : TA) : Prop := ∀ ⦃G0 H0 G H : Hp⦄ ⦃ρ : Ev⦄ ⦃σ : L2.St⦄ ⦃Q : List V → Hp → Prop⦄, Wd J G0 H0 Γ ρ σ G H →
  Rs.Post (fun ds => ∀ vs G' H', Ext G H G' H' → Rps J.K J.ca H' ds vs → Q vs H') (fun c => ∀ H' dx, Same H H' → XR c dx H' → J.W (.ref (J.ca c.1)) dx σ H') (argsE Fs ρ) → ta σ H Q
/-- all F -/
def allF : List Mode → Bool
  | [] => true
  | .F :: ms => allF ms
  | _ => false
section
variable {J : Jc} {Γ : List Mode} {em : EM} {m : Mode} {ms : List Mode} {F Fa Fb : Ev → Rs Dt} {Fs : List (Ev → Rs Dt)} {te ta tb : TE} {tr : TA} {G0 H0 G H G' H' : Hp} {ρ : Ev} {σ : L2.St}
theorem Ows.allF {K : PySem.W.Frag} {ca : Str → Addr} : ∀ {ms : List Mode} {ds : List Dt} {vs : List V} {P : Addr → Prop}, Pm.allF ms = true → Ows K ca G H ms ds vs P → Rps K ca G ds vs
  | [], _, _, _, _, h => by cases h; exact .nil
  | m :: ms, _, _, _, c, h => by
    cases h with
    | cons h1 h2 _ _ _ =>
      cases m with
      | F =>
        cases h1 with
        | F h1 => exact .cons h1 (Ows.allF (by simpa [Pm.allF] using c) h2)
      | _ => simp [Pm.allF] at c
theorem sz_nil : SemZ J Γ [] [] tNil := fun {G0 H0 G H ρ σ Q} w p => p.of_ok [] G H Pno (Ext.refl w.gh) Fr.no .nil
theorem sz_cons (h : SemE J Γ (.o m) F te) (k : SemZ J Γ ms Fs tr) : SemZ J Γ (m :: ms) (F :: Fs) (tCons te tr) := fun {G0 H0 G H ρ σ Q} w p => by
  refine h w (p.bind.imp (fun d _ q v G1 H1 P1 e1 f1 o1 => ?_) fun _ q => q)
  refine k (w.ext e1) (q.bind.imp (fun ds _ q vs G2 H2 P2 e2 f2 o2 => ?_) fun _ q H' dx s => q H' dx (e1.h.trans s))
  refine q.of_ok (v :: vs) G2 H2 (fun b => P1 b ∨ P2 b) (e1.trans e2) (fun b hb => ?_) (.cons (o1.carry e2.g fun b hb => ?_) o2 (fun _ => .inl) (fun _ => .inr) fun b h1 h2 => ?_)
  · rcases hb with hb | hb
    · obtain ⟨a1, a2, a3⟩ := f1 b hb
      exact ⟨by rw [e2.base b a3]; exact a1, a2, e2.h.nn a3⟩
    · obtain ⟨a1, a2, a3⟩ := f2 b hb
      exact ⟨a1, e1.h.free a2, a3⟩
  · obtain ⟨a1, a2, a3⟩ := f1 b hb
    exact ⟨e2.h.at a3, by rw [e2.base b a3]; exact a1⟩
  · exact (f1 b h1).2.2 (f2 b h2).2.1
theorem sb_nil : SemBs J Γ [] tNil := fun {G0 H0 G H ρ σ Q} w p => p.of_ok [] G H (Ext.refl w.gh) .nil
theorem sb_cons (h : SemE J Γ .B F te) (k : SemBs J Γ Fs tr) : SemBs J Γ (F :: Fs) (tCons te tr) := fun {G0 H0 G H ρ σ Q} w p => by
  refine h w (p.bind.imp (fun d _ q v G1 H1 P1 e1 f1 o1 => ?_) fun _ q => q)
  refine k (w.ext e1) (q.bind.imp (fun ds _ q vs G2 H2 e2 o2 => ?_) fun _ q H' dx s => q H' dx (e1.h.trans s))
  exact q.of_ok (v :: vs) G2 H2 (e1.trans e2) (.cons (Rp.mono e2.h o1) o2)
theorem Fr.upd {p : Addr} {o : HO} {P : Addr → Prop} (e : Same G' H') (f : Fr G' H H' P) (hp : H' p = none) (hq : H p = none) : Fr G' H (upd H' p o) (fun b => b = p ∨ P b) := fun b hb => by
  by_cases z : b = p
  · subst z
    exact ⟨e.free hp, hq, by rw [upd_same]; exact fun w => by cases w⟩
  · rcases hb with hb | hb
    · exact absurd hb z
    · obtain ⟨a1, a2, a3⟩ := f b hb
      exact ⟨a1, a2, by rw [upd_ne z]; exact a3⟩
theorem Ext.upd {p : Addr} {o : HO} (e : Ext G H G' H') (hp : H' p = none) : Ext G H G' (upd H' p o) := e.trans (Ext.heap e.gh (Same.new hp))
theorem Ows.upd {K : PySem.W.Frag} {ca : Str → Addr} {p : Addr} {o : HO} {ms : List Mode} {ds : List Dt} {vs : List V} {P : Addr → Prop} (f : Fr G' H H' P) (hp : H' p = none) (h : Ows K ca G' H' ms ds vs P) : Ows K ca G' (L2.upd H' p o) ms ds vs (fun b => (b = p ∨ P b) ∧ b ≠ p) :=
  (h.carry (Same.refl _) fun b hb => by
    obtain ⟨a1, a2, a3⟩ := f b hb
    exact ⟨upd_ne fun z => a3 (by rw [z]; exact hp), a1⟩).weaken fun b hb => ⟨.inr hb, fun z => (f b hb).2.2 (by rw [z]; exact hp)⟩
/-- displays -/
def tupE (Fs : List (Ev → Rs Dt)) (ρ : Ev) : Rs Dt := argsE Fs ρ >>= fun ds => .ok (.tup ds)
def lstE (Fs : List (Ev → Rs Dt)) (ρ : Ev) : Rs Dt := argsE Fs ρ >>= fun ds => .ok (.lst ds)
theorem Ows.len {K : PySem.W.Frag} {ca : Str → Addr} : ∀ {ms : List Mode} {ds : List Dt} {vs : List V} {P : Addr → Prop}, Ows K ca G H ms ds vs P → ds.length = vs.length ∧ ms.length = ds.length
  | _, [], _, _, h => by cases h; exact ⟨rfl, rfl⟩
  | _, d :: ds, _, _, h => by
    cases h with
    | cons h1 h2 _ _ _ =>
      obtain ⟨a, b⟩ := Ows.len h2
      exact ⟨by rw [List.length_cons, List.length_cons, a], by rw [List.length_cons, List.length_cons, b]⟩
theorem se_tup (h : SemZ J Γ ms Fs tr) (hl : Fs.length ≤ 1000000 := by decide) : SemE J Γ (.o (.T ms)) (tupE Fs) (tTup tr) := fun {G0 H0 G H ρ σ Q} w p => by
  refine h w (p.bind.imp (fun ds hd q vs G1 H1 P1 e1 f1 o1 => ⟨?_, fun a ha => ?_⟩) fun _ q => q)
  · rw [← o1.len.1, argsE_len hd]; exact sz1000000 hl
  · exact q.of_ok (.ref a) G1 _ (fun b => b = a ∨ P1 b) (e1.upd ha) (f1.upd e1.gh ha (e1.h.free ha)) (.T upd_same (e1.gh.free ha) (.inl rfl) (o1.upd f1 ha))
theorem se_tupF (h : SemZ J Γ ms Fs tr) (hl : Fs.length ≤ 1000000 := by decide) : SemE J Γ (.o .F) (tupE Fs) (tTup tr) := se_frz (se_tup h hl)
theorem rep_of : ∀ {ms : List Mode} {n : Nat}, ms = List.replicate n m → ms.length = n := fun h => by rw [h, List.length_replicate]
theorem se_lst (h : SemZ J Γ ms Fs tr) (hm : ms = List.replicate Fs.length m := by rfl) (hl : Fs.length ≤ 1000000 := by decide) : SemE J Γ (.o (.L m)) (lstE Fs) (tLst tr) := fun {G0 H0 G H ρ σ Q} w p => by
  refine h w (p.bind.imp (fun ds hd q vs G1 H1 P1 e1 f1 o1 => ⟨?_, fun a ha => ?_⟩) fun _ q => q)
  · rw [← o1.len.1, argsE_len hd]; exact sz1000000 hl
  · refine q.of_ok (.ref a) G1 _ (fun b => b = a ∨ P1 b) (e1.upd ha) (f1.upd e1.gh ha (e1.h.free ha)) (.L upd_same (e1.gh.free ha) (.inl rfl) ?_)
    rw [argsE_len hd, ← hm]
    exact o1.upd f1 ha
theorem se_lstF (h : SemZ J Γ ms Fs tr) (hm : ms = List.replicate Fs.length .F := by rfl) (hl : Fs.length ≤ 1000000 := by decide) : SemE J Γ (.o .F) (lstE Fs) (tLst tr) := se_frz (se_lst h hm hl)
/-! ### a new list, tuple of frozen parts -/
theorem Rps.own {K : PySem.W.Frag} {ca : Str → Addr} : ∀ {ds : List Dt} {vs : List V} {P : Addr → Prop}, Rps K ca G ds vs → Ows K ca G H (List.replicate ds.length .F) ds vs P
  | [], _, _, h => by cases h; exact .nil
  | d :: ds, _, _, h => by
    cases h with
    | cons h1 h2 => exact .cons (P1 := Pno) (P2 := Pno) (.F h1) (Rps.own h2) (fun _ z => z.elim) (fun _ z => z.elim) (fun _ z => z.elim)
theorem new_lst {K : PySem.W.Frag} {ca : Str → Addr} {a : Addr} {ds : List Dt} {vs : List V} (e : Same G H) (ha : H a = none) (h : Rps K ca G ds vs) : Ext G H G (upd H a (.lst vs)) ∧ Fr G H (upd H a (.lst vs)) (fun b => b = a) ∧ Ow K ca G (upd H a (.lst vs)) (.L .F) (.lst ds) (.ref a) (fun b => b = a) :=
  ⟨Ext.heap e (Same.new ha), fun b hb => by rw [hb, upd_same]; exact ⟨e.free ha, ha, fun w => by cases w⟩, .L upd_same (e.free ha) rfl h.own⟩
theorem new_tup {K : PySem.W.Frag} {ca : Str → Addr} {a : Addr} {ds : List Dt} {vs : List V} (e : Same G H) (ha : H a = none) (h : Rps K ca G ds vs) : Ext G H (upd G a (.tup vs)) (upd H a (.tup vs)) ∧ Rp K ca (upd G a (.tup vs)) (.tup ds) (.ref a) :=
  ⟨Ext.new e ha, .tup upd_same (h.mono (Same.new (e.free ha)))⟩
/-- what S says of a sequence -/
theorem S_seq {K : PySem.W.Frag} {ca : Str → Addr} {d : Dt} {v : V} {P : Addr → Prop} {ds : List Dt} (h : Res K ca G H .S d v P) (q : seqD d = some ds) : ∃ a vs, v = .ref a ∧ (SqL K H a vs ∨ SqT K H a vs) ∧ Rps K ca G ds vs := by
  have hd : d = .lst ds ∨ d = .scr ds ∨ d = .tup ds := by
    cases d <;> first | (cases q; exact .inl rfl) | (cases q; exact .inr (.inl rfl)) | (cases q; exact .inr (.inr rfl)) | cases q
  obtain ⟨a, vs, e, sq, r⟩ := h.2 ds hd
  refine ⟨a, vs, e, ?_, r⟩
  rcases sq with ⟨_, s⟩ | ⟨_, s⟩ | ⟨_, s⟩
  · exact .inl (.of s)
  · exact .inl s
  · exact .inr (.of s)
/-- list(x) -/
def listD (d : Dt) : Rs Dt := match seqD d with
  | some ds => .ok (.lst ds)
  | none => .no
def listE := op1E listD
theorem se_list (h : SemE J Γ .S F te) : SemE J Γ (.o (.L .F)) (listE F) (tCB (fun xs H Q => ∃ p ys, xs = [.ref p] ∧ (SqL J.K H p ys ∨ SqT J.K H p ys) ∧ ∀ l, H l = none → Q (.ref l) (upd H l (.lst ys))) (tCons te tNil)) := fun {G0 H0 G H ρ σ Q} w p => by
  refine h w (p.bind.imp (fun d _ q v G1 H1 P1 e1 _ r1 => ?_) fun _ q => q)
  unfold listD at q
  cases e : seqD d with
  | none => rw [e] at q; cases q
  | some ds =>
    rw [e] at q
    obtain ⟨a, vs, rfl, sq, r⟩ := S_seq r1 e
    refine ⟨a, vs, rfl, sq, fun l hl => ?_⟩
    obtain ⟨e2, f2, o2⟩ := new_lst e1.gh hl r
    exact q.of_ok (.ref l) G1 _ _ (e1.trans e2) (fun b hb => ⟨(f2 b hb).1, e1.h.free (f2 b hb).2.1, (f2 b hb).2.2⟩) o2
/-- tuple(x) -/
def tupleD (d : Dt) : Rs Dt := match seqD d with
  | some ds => .ok (.tup ds)
  | none => .no
def tupleE := op1E tupleD
abbrev rTupleOf (K : PySem.W.Frag) : List V → Hp → VK → Prop := fun xs H Q => ∃ p ys, xs = [.ref p] ∧ ((SqL K H p ys ∧ ∀ l, H l = none → Q (.ref l) (upd H l (.tup ys))) ∨ (SqT K H p ys ∧ Q (.ref p) H))
theorem tuple_new {K : PySem.W.Frag} {ca : Str → Addr} {a l : Addr} {ds : List Dt} {vs : List V} {Q : VK} {E : Xn → Prop} (e1 : Ext G H G' H') (r : Rps K ca G' ds vs) (hl : H' l = none)
    (q : ∀ v G2 H2 P, Ext G H G2 H2 → Fr G2 H H2 P → Res K ca G2 H2 (.o .F) (.tup ds) v P → Q v H2) : Q (.ref l) (upd H' l (.tup vs)) := by
  obtain ⟨e2, o2⟩ := new_tup e1.gh hl r
  exact q _ _ _ Pno (e1.trans e2) Fr.no (.F o2)
theorem se_tuple (h : SemE J Γ (.o .F) F te) : SemE J Γ (.o .F) (tupleE F) (tCB (rTupleOf J.K) (tCons te tNil)) := fun {G0 H0 G H ρ σ Q} w p => by
  refine h w (p.bind.imp (fun d _ q v G1 H1 P1 e1 _ r1 => ?_) fun _ q => q)
  unfold tupleD at q
  cases r1 with
  | F r1 =>
    cases r1 with
    | lst h1 h2 => exact ⟨_, _, rfl, .inl ⟨.of (e1.gh _ _ h1), fun l hl => tuple_new (a := l) (E := fun _ => True) e1 h2 hl (q.of_ok)⟩⟩
    | scr h1 h2 => exact ⟨_, _, rfl, .inl ⟨e1.gh.seq h1, fun l hl => tuple_new (a := l) (E := fun _ => True) e1 h2 hl (q.of_ok)⟩⟩
    | tup h1 h2 => exact ⟨_, _, rfl, .inr ⟨.of (e1.gh _ _ h1), q.of_ok _ G1 H1 Pno e1 Fr.no (.F (.tup h1 h2))⟩⟩
    | _ => cases q
/-- of a list looked at -/
def tupleLD : Dt → Rs Dt
  | .lst ds => .ok (.tup ds)
  | _ => .no
def tupleLE := op1E tupleLD
theorem se_tupleL (h : SemE J Γ .S F te) : SemE J Γ (.o .F) (tupleLE F) (tCB (rTupleOf J.K) (tCons te tNil)) := fun {G0 H0 G H ρ σ Q} w p => by
  refine h w (p.bind.imp (fun d _ q v G1 H1 P1 e1 _ r1 => ?_) fun _ q => q)
  unfold tupleLD at q
  cases d with
  | lst ds =>
    obtain ⟨a, vs, rfl, sq, r⟩ := r1.2 ds (.inl rfl)
    rcases sq with ⟨_, s⟩ | ⟨z, _⟩ | ⟨z, _⟩ <;> try cases z
    exact ⟨_, _, rfl, .inl ⟨.of s, fun l hl => tuple_new (a := l) (E := fun _ => True) e1 r hl (q.of_ok)⟩⟩
  | _ => cases q
/-! ### slices -/
def SemOo := SemO
def noPart (_ : Ev) : Rs (Option Int) := .ok none
def asI : Dt → Rs (Option Int)
  | .int i => .ok (some i)
  | _ => .no
def partO (F : Ev → Rs Dt) (ρ : Ev) : Rs (Option Int) := F ρ >>= asI
theorem so_none : SemO J Γ noPart tNoPart := fun {G0 H0 G H ρ σ Q} w p => p.of_ok G H (Ext.refl w.gh)
theorem so_some (h : SemE J Γ .B F te) : SemO J Γ (partO F) (tPart te) := fun {G0 H0 G H ρ σ Q} w p => h w (p.bind.imp (fun d _ q v G' H' P e _ r => by
  cases r with
  | int i => exact ⟨i, rfl, q.of_ok G' H' e⟩
  | _ => cases q) fun _ q => q)
def cutL {α : Type} (xs : List α) (lo hi : Option Int) : List α := (xs.drop (HT.sIx xs.length 0 lo)).take (HT.sIx xs.length xs.length hi - HT.sIx xs.length 0 lo)
theorem Rps.cut {K : PySem.W.Frag} {ca : Str → Addr} {ds : List Dt} {vs : List V} (h : Rps K ca H ds vs) (lo hi : Option Int) : Rps K ca H (cutL ds lo hi) (cutV vs lo hi) := by
  unfold cutL cutV
  rw [h.length]
  exact (h.drop _).take _
def cutD : Dt → Option Int → Option Int → Rs Dt
  | .lst ds, lo, hi => .ok (.lst (cutL ds lo hi))
  | .scr ds, lo, hi => .ok (.lst (cutL ds lo hi))
  | .tup ds, lo, hi => .ok (.tup (cutL ds lo hi))
  | .str z, lo, hi => if strSz z = true then .ok (.str (cutS z lo hi)) else .no
  | _, _, _ => .no
def slcE (F : Ev → Rs Dt) (Fl Fh : Ev → Rs (Option Int)) (ρ : Ev) : Rs Dt := F ρ >>= fun d => Fl ρ >>= fun l => Fh ρ >>= fun u => cutD d l u
abbrev rSlice (K : PySem.W.Frag) : V → Option Int → Option Int → Hp → VK → Prop := fun x lo hi H Q => rSlL K x lo hi H Q ∨ rSlA K x lo hi H Q ∨ rSlS x lo hi H Q
theorem sl_any {X : Cx} : SlR X (fun x lo hi H Q => rSlL X.K x lo hi H Q ∨ (rSlA X.K x lo hi H Q ∨ rSlS x lo hi H Q)) := sl_list.or (sl_tupA.or sl_str)
variable {Fl Fh : Ev → Rs (Option Int)} {tl th : TO}
theorem cut_whole {α : Type} {xs : List α} {lo hi : Option Int} (h : HT.sIx xs.length 0 lo = 0 ∧ HT.sIx xs.length xs.length hi = xs.length) : cutL xs lo hi = xs := by
  unfold cutL
  rw [h.1, h.2]
  simp
theorem se_slc (h : SemE J Γ (.o .F) F te) (hl : SemO J Γ Fl tl) (hh : SemO J Γ Fh th) : SemE J Γ (.o .F) (slcE F Fl Fh) (tSl (fun x lo hi H Q => rSlL J.K x lo hi H Q ∨ (rSlA J.K x lo hi H Q ∨ rSlS x lo hi H Q)) te tl th) := fun {G0 H0 G H ρ σ Q} w p => by
  refine h w (p.bind.imp (fun d _ q v G1 H1 P1 e1 _ r1 => ?_) fun _ q => q)
  refine hl (w.ext e1) (q.bind.imp (fun l _ q G2 H2 e2 => ?_) fun _ q H' dx s => q H' dx (e1.h.trans s))
  refine hh (w.ext (e1.trans e2)) (q.bind.imp (fun u _ q G3 H3 e3 => ?_) fun _ q H' dx s => q H' dx ((e1.trans e2).h.trans s))
  have e := (e1.trans e2).trans e3
  have e23 := e2.trans e3
  unfold cutD at q
  cases r1 with
  | F r1 =>
    cases r1 with
    | lst h1 h2 =>
      refine .inl ⟨_, _, rfl, .of (e23.h _ _ (e1.gh _ _ h1)), fun a ha => ?_⟩
      obtain ⟨e4, f4, o4⟩ := new_lst e3.gh ha ((h2.mono e23.g).cut l u)
      obtain ⟨G5, e5, r5, _⟩ := frz_ext e4 f4 o4
      exact q.of_ok _ _ _ Pno (e.trans e5) Fr.no (.F r5)
    | scr h1 h2 =>
      refine .inl ⟨_, _, rfl, e23.h.seq (e1.gh.seq h1), fun a ha => ?_⟩
      obtain ⟨e4, f4, o4⟩ := new_lst e3.gh ha ((h2.mono e23.g).cut l u)
      obtain ⟨G5, e5, r5, _⟩ := frz_ext e4 f4 o4
      exact q.of_ok _ _ _ Pno (e.trans e5) Fr.no (.F r5)
    | tup h1 h2 =>
      refine .inr (.inl ⟨_, _, rfl, .of (e23.h _ _ (e1.gh _ _ h1)), fun hw => ?_, fun hw a ha => ?_⟩)
      · have c := cut_whole (xs := _) hw
        have hw2 := hw
        rw [← h2.length] at hw2
        have c2 := cut_whole hw2
        have q := q.of_ok
        simp only [c2] at q
        exact q _ G3 H3 Pno e Fr.no (.F (.tup (e23.g _ _ h1) (h2.mono e23.g)))
      · obtain ⟨e4, o4⟩ := new_tup e3.gh ha ((h2.mono e23.g).cut l u)
        exact q.of_ok _ _ _ Pno (e.trans e4) Fr.no (.F o4)
    | str z =>
      have q : Rs.Post _ _ (if strSz z = true then Rs.ok (Dt.str (cutS z l u)) else Rs.no) := q
      by_cases c : strSz z = true
      · rw [if_pos c] at q
        exact .inr (.inr ⟨z, rfl, sz1000000 (strSz_ok c), q.of_ok _ G3 H3 Pno e Fr.no (.F (.str _))⟩)
      · rw [if_neg c] at q; cases q
    | _ => cases q
/-- of a list looked at -/
def cutLD : Dt → Option Int → Option Int → Rs Dt
  | .lst ds, lo, hi => .ok (.lst (cutL ds lo hi))
  | .scr ds, lo, hi => .ok (.lst (cutL ds lo hi))
  | _, _, _ => .no
def slcLE (F : Ev → Rs Dt) (Fl Fh : Ev → Rs (Option Int)) (ρ : Ev) : Rs Dt := F ρ >>= fun d => Fl ρ >>= fun l => Fh ρ >>= fun u => cutLD d l u
theorem se_slcL (h : SemE J Γ .S F te) (hl : SemO J Γ Fl tl) (hh : SemO J Γ Fh th) : SemE J Γ (.o (.L .F)) (slcLE F Fl Fh) (tSl (fun x lo hi H Q => rSlL J.K x lo hi H Q ∨ (rSlA J.K x lo hi H Q ∨ rSlS x lo hi H Q)) te tl th) := fun {G0 H0 G H ρ σ Q} w p => by
  refine h w (p.bind.imp (fun d _ q v G1 H1 P1 e1 _ r1 => ?_) fun _ q => q)
  refine hl (w.ext e1) (q.bind.imp (fun l _ q G2 H2 e2 => ?_) fun _ q H' dx s => q H' dx (e1.h.trans s))
  refine hh (w.ext (e1.trans e2)) (q.bind.imp (fun u _ q G3 H3 e3 => ?_) fun _ q H' dx s => q H' dx ((e1.trans e2).h.trans s))
  have e := (e1.trans e2).trans e3
  have e23 := e2.trans e3
  have go : ∀ (ds : List Dt) (vs : List V) (a : Addr), v = .ref a → SqL J.K H1 a vs → Rps J.K J.ca G1 ds vs → cutLD d l u = .ok (.lst (cutL ds l u)) → rSlL J.K v l u H3 Q := fun ds vs a ev s r z => by
    rw [z] at q
    refine ⟨a, vs, ev, e23.h.seq s, fun b hb => ?_⟩
    obtain ⟨e4, f4, o4⟩ := new_lst e3.gh hb ((r.mono e23.g).cut l u)
    exact q.of_ok _ _ _ _ (e.trans e4) (fun b hb => ⟨(f4 b hb).1, e.h.free (f4 b hb).2.1, (f4 b hb).2.2⟩) o4
  cases d with
  | lst ds =>
    obtain ⟨a, vs, ev, sq, r⟩ := r1.2 ds (.inl rfl)
    rcases sq with ⟨_, s⟩ | ⟨z, _⟩ | ⟨z, _⟩ <;> try cases z
    exact .inl (go ds vs a ev (.of s) r rfl)
  | scr ds =>
    obtain ⟨a, vs, ev, sq, r⟩ := r1.2 ds (.inr (.inl rfl))
    rcases sq with ⟨z, _⟩ | ⟨_, s⟩ | ⟨z, _⟩ <;> try cases z
    exact .inl (go ds vs a ev s r rfl)
  | _ => cases q
/-! ### + of everything, list times int -/
abbrev rPlus (K : PySem.W.Frag) : R2 := fun x y H Q => rI0 (fun i j => .int (i + j)) x y H Q ∨ ((∃ i j, x = .str i ∧ y = .str j ∧ i.length + j.length ≤ sizeLine ∧ Q (.str (i ++ j)) H) ∨ (rCat x y H Q ∨ rCatA K x y H Q))
theorem op_plus {X : Cx} : OpR X (binaryOp .Add) (fun x y H Q => rI0 (fun i j => .int (i + j)) x y H Q ∨ ((∃ i j, x = .str i ∧ y = .str j ∧ i.length + j.length ≤ sizeLine ∧ Q (.str (i ++ j)) H) ∨ (rCat x y H Q ∨ rCatA X.K x y H Q))) := op_add.or (op_add_str.or (op_cat.or op_catA))
@[irreducible] def lenSz (n : Nat) : Bool := decide (n ≤ 1000000)
theorem lenSz_le {n : Nat} (h : lenSz n = true) : n ≤ 1000000 := by
  unfold lenSz at h
  exact of_decide_eq_true h
def plusD : Dt → Dt → Rs Dt
  | .int i, .int j => .ok (.int (i + j))
  | .str i, .str j => if lenSz (i.length + j.length) = true then .ok (.str (i ++ j)) else .no
  | .lst a, .lst b => if lenSz (a.length + b.length) = true then .ok (.lst (a ++ b)) else .no
  | .tup a, .tup b => if lenSz (a.length + b.length) = true then .ok (.tup (a ++ b)) else .no
  | _, _ => .no
def plusE := op2E plusD
theorem lenSz_ok {n : Nat} (h : lenSz n = true) : n ≤ sizeLine := sz1000000 (lenSz_le h)
theorem Rps.nil_iff {K : PySem.W.Frag} {ca : Str → Addr} {ds : List Dt} {vs : List V} (h : Rps K ca H ds vs) : vs = [] ↔ ds = [] := by
  cases h with
  | nil => simp
  | cons _ _ => simp
theorem se_plus (ha : SemE J Γ (.o .F) Fa ta) (hb : SemE J Γ (.o .F) Fb tb) : SemE J Γ (.o .F) (plusE Fa Fb) (tOp (fun x y H Q => rI0 (fun i j => .int (i + j)) x y H Q ∨ ((∃ i j, x = .str i ∧ y = .str j ∧ i.length + j.length ≤ sizeLine ∧ Q (.str (i ++ j)) H) ∨ (rCat x y H Q ∨ rCatA J.K x y H Q))) ta tb) := fun {G0 H0 G H ρ σ Q} w p => by
  refine ha w (p.bind.imp (fun a _ p1 x G1 H1 _ e1 _ ra => ?_) fun _ q => q)
  refine hb (w.ext e1) (p1.bind.imp (fun b _ q y G2 H2 _ e2 _ rb => ?_) fun _ q H' dx s => q H' dx (e1.h.trans s))
  have e := e1.trans e2
  cases ra with
  | F ra =>
    cases rb with
    | F rb =>
      have ra := ra.mono e2.g
      cases ra with
      | int i =>
        cases rb with
        | int j => exact .inl ⟨i, j, rfl, rfl, q.of_ok _ G2 H2 Pno e Fr.no (.F (.int _))⟩
        | _ => cases q
      | str i =>
        cases rb with
        | str j =>
          by_cases c : lenSz (i.length + j.length) = true
          · have q : Rs.Post _ _ (if lenSz (i.length + j.length) = true then Rs.ok (Dt.str (i ++ j)) else Rs.no) := q
            rw [if_pos c] at q
            exact .inr (.inl ⟨i, j, rfl, rfl, lenSz_ok c, q.of_ok _ G2 H2 Pno e Fr.no (.F (.str _))⟩)
          · have q : Rs.Post _ _ (if lenSz (i.length + j.length) = true then Rs.ok (Dt.str (i ++ j)) else Rs.no) := q
            rw [if_neg c] at q; cases q
        | _ => cases q
      | @lst _ vs ds h1 h2 =>
        cases rb with
        | @lst _ us es k1 k2 =>
          by_cases c : lenSz (ds.length + es.length) = true
          · have q : Rs.Post _ _ (if lenSz (ds.length + es.length) = true then Rs.ok (Dt.lst (ds ++ es)) else Rs.no) := q
            rw [if_pos c] at q
            refine .inr (.inr (.inl ⟨_, _, _, _, rfl, rfl, e2.gh _ _ h1, e2.gh _ _ k1, by rw [← h2.length, ← k2.length]; exact lenSz_ok c, fun a ha => ?_⟩))
            obtain ⟨e4, f4, o4⟩ := new_lst e2.gh ha (h2.append k2)
            obtain ⟨G5, e5, r5, _⟩ := frz_ext e4 f4 o4
            exact q.of_ok _ _ _ Pno (e.trans e5) Fr.no (.F r5)
          · have q : Rs.Post _ _ (if lenSz (ds.length + es.length) = true then Rs.ok (Dt.lst (ds ++ es)) else Rs.no) := q
            rw [if_neg c] at q; cases q
        | _ => cases q
      | @tup _ vs ds h1 h2 =>
        cases rb with
        | @tup _ us es k1 k2 =>
          by_cases c : lenSz (ds.length + es.length) = true
          · have q : Rs.Post _ _ (if lenSz (ds.length + es.length) = true then Rs.ok (Dt.tup (ds ++ es)) else Rs.no) := q
            rw [if_pos c] at q
            refine .inr (.inr (.inr ⟨_, _, _, _, rfl, rfl, .of (e2.gh _ _ h1), .of (e2.gh _ _ k1), by rw [← h2.length, ← k2.length]; exact lenSz_ok c, fun z => ?_, fun z z2 => ?_, fun z z2 a ha => ?_⟩))
            · have z3 := h2.nil_iff.mp z
              subst z3
              exact q.of_ok _ G2 H2 Pno e Fr.no (.F (.tup k1 k2))
            · have z3 := k2.nil_iff.mp z2
              subst z3
              rw [List.append_nil] at q
              exact q.of_ok _ G2 H2 Pno e Fr.no (.F (.tup h1 h2))
            · obtain ⟨e4, o4⟩ := new_tup e2.gh ha (h2.append k2)
              exact q.of_ok _ _ _ Pno (e.trans e4) Fr.no (.F o4)
          · have q : Rs.Post _ _ (if lenSz (ds.length + es.length) = true then Rs.ok (Dt.tup (ds ++ es)) else Rs.no) := q
            rw [if_neg c] at q; cases q
        | _ => cases q
      | _ => cases rb <;> cases q
/-- list + list, looked at; list * int -/
def catD : Dt → Dt → Rs Dt
  | .lst a, .lst b => if lenSz (a.length + b.length) = true then .ok (.lst (a ++ b)) else .no
  | _, _ => .no
def catE := op2E catD
def repD : Dt → Dt → Rs Dt
  | .lst a, .int k => if (lenSz (a.length * k.toNat) && decide (k ≤ 1000000 ∧ -1000000 ≤ k)) = true then .ok (.lst (List.replicate k.toNat a).flatten) else .no
  | _, _ => .no
def repE := op2E repD
theorem S_lst {K : PySem.W.Frag} {ca : Str → Addr} {v : V} {P : Addr → Prop} {ds : List Dt} (h : Res K ca G H .S (.lst ds) v P) : ∃ a vs, v = .ref a ∧ H a = some (.lst vs) ∧ Rps K ca G ds vs := by
  obtain ⟨a, vs, e, sq, r⟩ := h.2 ds (.inl rfl)
  rcases sq with ⟨_, s⟩ | ⟨z, _⟩ | ⟨z, _⟩ <;> try cases z
  exact ⟨a, vs, e, s, r⟩
theorem se_cat (ha : SemE J Γ .S Fa ta) (hb : SemE J Γ .S Fb tb) : SemE J Γ (.o (.L .F)) (catE Fa Fb) (tOp (fun x y H Q => rI0 (fun i j => .int (i + j)) x y H Q ∨ ((∃ i j, x = .str i ∧ y = .str j ∧ i.length + j.length ≤ sizeLine ∧ Q (.str (i ++ j)) H) ∨ (rCat x y H Q ∨ rCatA J.K x y H Q))) ta tb) := fun {G0 H0 G H ρ σ Q} w p => by
  refine ha w (p.bind.imp (fun a _ p1 x G1 H1 _ e1 _ ra => ?_) fun _ q => q)
  refine hb (w.ext e1) (p1.bind.imp (fun b _ q y G2 H2 _ e2 _ rb => ?_) fun _ q H' dx s => q H' dx (e1.h.trans s))
  have e := e1.trans e2
  cases a with
  | lst ds =>
    cases b with
    | lst es =>
      obtain ⟨a, vs, rfl, s1, r1⟩ := S_lst ra
      obtain ⟨b, us, rfl, s2, r2⟩ := S_lst rb
      by_cases c : lenSz (ds.length + es.length) = true
      · have q : Rs.Post _ _ (if lenSz (ds.length + es.length) = true then Rs.ok (Dt.lst (ds ++ es)) else Rs.no) := q
        rw [if_pos c] at q
        refine .inr (.inr (.inl ⟨_, _, _, _, rfl, rfl, e2.h _ _ s1, s2, by rw [← r1.length, ← r2.length]; exact lenSz_ok c, fun a ha => ?_⟩))
        obtain ⟨e4, f4, o4⟩ := new_lst e2.gh ha ((r1.mono e2.g).append r2)
        exact q.of_ok _ _ _ _ (e.trans e4) (fun b hb => ⟨(f4 b hb).1, e.h.free (f4 b hb).2.1, (f4 b hb).2.2⟩) o4
      · have q : Rs.Post _ _ (if lenSz (ds.length + es.length) = true then Rs.ok (Dt.lst (ds ++ es)) else Rs.no) := q
        rw [if_neg c] at q; cases q
    | _ => cases q
  | _ => cases b <;> cases q
theorem se_rep (ha : SemE J Γ .S Fa ta) (hb : SemE J Γ .B Fb tb) : SemE J Γ (.o (.L .F)) (repE Fa Fb) (tOp rRep ta tb) := fun {G0 H0 G H ρ σ Q} w p => by
  refine ha w (p.bind.imp (fun a _ p1 x G1 H1 _ e1 _ ra => ?_) fun _ q => q)
  refine hb (w.ext e1) (p1.bind.imp (fun b _ q y G2 H2 _ e2 _ rb => ?_) fun _ q H' dx s => q H' dx (e1.h.trans s))
  have e := e1.trans e2
  cases a with
  | lst ds =>
    cases rb with
    | int k =>
      obtain ⟨a, vs, rfl, s1, r1⟩ := S_lst ra
      by_cases c : (lenSz (ds.length * k.toNat) && decide (k ≤ 1000000 ∧ -1000000 ≤ k)) = true
      · have q : Rs.Post _ _ (if (lenSz (ds.length * k.toNat) && decide (k ≤ 1000000 ∧ -1000000 ≤ k)) = true then Rs.ok (Dt.lst (List.replicate k.toNat ds).flatten) else Rs.no) := q
        rw [if_pos c] at q
        rw [Bool.and_eq_true] at c
        have c2 := of_decide_eq_true c.2
        refine ⟨_, k, _, rfl, rfl, e2.h _ _ s1, by omega, by omega, by rw [← r1.length]; exact lenSz_ok c.1, fun a ha => ?_⟩
        obtain ⟨e4, f4, o4⟩ := new_lst e2.gh ha ((r1.mono e2.g).flatrep k.toNat)
        exact q.of_ok _ _ _ _ (e.trans e4) (fun b hb => ⟨(f4 b hb).1, e.h.free (f4 b hb).2.1, (f4 b hb).2.2⟩) o4
      · have q : Rs.Post _ _ (if (lenSz (ds.length * k.toNat) && decide (k ≤ 1000000 ∧ -1000000 ≤ k)) = true then Rs.ok (Dt.lst (List.replicate k.toNat ds).flatten) else Rs.no) := q
        rw [if_neg c] at q; cases q
    | _ => cases q
  | _ => cases rb <;> cases q
end
end Pm
namespace Pm
open PySem PySem.Spec PyProof.Rows L2 RZ RT
open Classical
/-! ### what is walked -/
structure Walk (K : PySem.W.Frag) (ca : Str → Addr) (J : It) (G : Hp) (ds : List Dt) : Prop where
  go : ∀ i d G1 H1, ds[i]? = some d → Same G G1 → Same G1 H1 → J.go i H1 ∧ ∀ x H2, J.yld i H1 x H2 → ∃ G2, Ext G1 H1 G2 H2 ∧ Rp K ca G2 d x
  stop : ∀ G1 H1, Same G G1 → Same G1 H1 → J.stop ds.length H1
def SemI (J : Jc) (Γ : List Mode) (F : Ev → Rs (List Dt)) (wi : TI) : Prop := ∀ ⦃G0 H0 G H : Hp⦄ ⦃ρ : Ev⦄ ⦃σ : L2.St⦄ ⦃R : It → Hp → Prop⦄, Wd J G0 H0 Γ ρ σ G H →
  Rs.Post (fun ds => ∀ it G' H', Ext G H G' H' → Walk J.K J.ca it G' ds → R it H') (fun c => ∀ H' dx, Same H H' → XR c dx H' → J.W (.ref (J.ca c.1)) dx σ H') (F ρ) → wi σ H R
section
variable {J : Jc} {Γ : List Mode} {em : EM} {m : Mode} {ms : List Mode} {F Fa Fb : Ev → Rs Dt} {Fs : List (Ev → Rs Dt)} {te ta tb : TE} {tr : TA} {G0 H0 G H G' H' : Hp} {ρ : Ev} {σ : L2.St}
theorem walk_list {K : PySem.W.Frag} {ca : Str → Addr} {a : Addr} {vs : List V} {ds : List Dt} (h : SqL K G a vs) (r : Rps K ca G ds vs) : Walk K ca (Itl K a) G ds := by
  refine ⟨fun i d G1 H1 e g1 g2 => ?_, fun G1 H1 g1 g2 => ⟨vs, g2.seq (g1.seq h), by rw [r.length]; exact Nat.le_refl _⟩⟩
  obtain ⟨v, hv, rv⟩ := r.get e
  refine ⟨⟨vs, v, g2.seq (g1.seq h), hv⟩, fun x H2 y => ?_⟩
  obtain ⟨y1, y2⟩ := y
  subst y1
  have z := y2 vs (g2.seq (g1.seq h))
  rw [hv] at z
  cases z
  exact ⟨G1, Ext.refl g2, rv.mono g1⟩
theorem walk_tup {K : PySem.W.Frag} {ca : Str → Addr} {a : Addr} {vs : List V} {ds : List Dt} (h : SqT K G a vs) (r : Rps K ca G ds vs) : Walk K ca (Itt K a) G ds := by
  refine ⟨fun i d G1 H1 e g1 g2 => ?_, fun G1 H1 g1 g2 => ⟨vs, g2.sqt (g1.sqt h), by rw [r.length]; exact Nat.le_refl _⟩⟩
  obtain ⟨v, hv, rv⟩ := r.get e
  refine ⟨⟨vs, v, g2.sqt (g1.sqt h), hv⟩, fun x H2 y => ?_⟩
  obtain ⟨y1, y2⟩ := y
  subst y1
  have z := y2 vs (g2.sqt (g1.sqt h))
  rw [hv] at z
  cases z
  exact ⟨G1, Ext.refl g2, rv.mono g1⟩
def seqI (F : Ev → Rs Dt) (ρ : Ev) : Rs (List Dt) := F ρ >>= fun d => match d with
  | .lst ds => .ok ds
  | .scr ds => .ok ds
  | .tup ds => .ok ds
  | _ => .no
/-- a list or a tuple walked -/
def iSeqA (K : PySem.W.Frag) (te : TE) : TI := fun σ H R => iList K te σ H R ∨ iTup K te σ H R
theorem pi_seqA {X : Cx} {tg e : Expr} {te : TE} (he : PE X e te) : PI X tg e (iSeqA X.K te) := by
  refine ⟨fun pins s σ H R I h => ?_⟩
  rcases h with h | h
  · exact (pi_list he).run pins s σ H R I h
  · exact (pi_tup he).run pins s σ H R I h
def tupI (F : Ev → Rs Dt) (ρ : Ev) : Rs (List Dt) := F ρ >>= fun d => match d with
  | .tup ds => .ok ds
  | _ => .no
theorem si_seq (h : SemE J Γ (.o .F) F te) : SemI J Γ (seqI F) (iSeqA J.K te) := fun {G0 H0 G H ρ σ R} w p => by
  cases z : F ρ with
  | ex c =>
    refine .inl (h w ?_)
    unfold seqI at p
    rw [z] at p ⊢
    cases p with
    | ex p => exact .ex p
  | no => unfold seqI at p; rw [z] at p; cases p
  | ok d =>
    unfold seqI at p
    rw [z] at p
    cases d with
    | lst ds =>
      refine .inl (h w ?_)
      rw [z]
      exact .ok fun v G1 H1 P1 e1 _ r1 => by
        cases r1 with
        | F r1 =>
          cases r1 with
          | lst h1 h2 => exact ⟨_, rfl, ⟨_, .of (e1.gh _ _ h1)⟩, Rs.Post.of_ok p _ G1 H1 e1 (walk_list (.of h1) h2)⟩
    | scr ds =>
      refine .inl (h w ?_)
      rw [z]
      exact .ok fun v G1 H1 P1 e1 _ r1 => by
        cases r1 with
        | F r1 =>
          cases r1 with
          | scr h1 h2 => exact ⟨_, rfl, ⟨_, e1.gh.seq h1⟩, Rs.Post.of_ok p _ G1 H1 e1 (walk_list h1 h2)⟩
    | tup ds =>
      refine .inr (h w ?_)
      rw [z]
      exact .ok fun v G1 H1 P1 e1 _ r1 => by
        cases r1 with
        | F r1 =>
          cases r1 with
          | tup h1 h2 => exact ⟨_, rfl, ⟨_, .of (e1.gh _ _ h1)⟩, Rs.Post.of_ok p _ G1 H1 e1 (walk_tup (.of h1) h2)⟩
    | _ => cases p
theorem si_tup (h : SemE J Γ (.o .F) F te) : SemI J Γ (tupI F) (iTup J.K te) := fun {G0 H0 G H ρ σ R} w p => by
  refine h w (p.bind.imp (fun d _ q v G1 H1 P1 e1 _ r1 => ?_) fun _ q => q)
  cases r1 with
  | F r1 =>
    cases r1 with
    | tup h1 h2 => exact ⟨_, rfl, ⟨_, .of (e1.gh _ _ h1)⟩, Rs.Post.of_ok q _ G1 H1 e1 (walk_tup (.of h1) h2)⟩
    | _ => cases q
/-- ranges -/
def rangeL (lo : Int) (n : Nat) : List Dt := (List.range n).map fun i => Dt.int (lo + (i : Nat))
theorem walk_range {K : PySem.W.Frag} {ca : Str → Addr} (lo : Int) (n : Nat) : Walk K ca (Itr lo n) G (rangeL lo n) := by
  have hl : (rangeL lo n).length = n := by unfold rangeL; rw [List.length_map, List.length_range]
  refine ⟨fun i d G1 H1 e g1 g2 => ?_, fun G1 H1 g1 g2 => by rw [hl]; exact Nat.le_refl _⟩
  have hi : i < n := by have := (List.getElem?_eq_some_iff.mp e).1; rw [hl] at this; exact this
  refine ⟨hi, fun x H2 y => ?_⟩
  obtain ⟨y1, y2⟩ := y
  subst y1 y2
  have z : d = .int (lo + (i : Nat)) := by
    unfold rangeL at e
    rw [List.getElem?_map, List.getElem?_range hi] at e
    exact (Option.some.inj e).symm
  subst z
  exact ⟨G1, Ext.refl g2, .int _⟩
@[irreducible] def intSz (i : Int) : Bool := decide (-1000000000 ≤ i ∧ i ≤ 1000000000)
theorem intSz_ok {i : Int} (h : intSz i = true) : -1000000000 ≤ i ∧ i ≤ 1000000000 := by
  unfold intSz at h
  exact of_decide_eq_true h
def rng1I (Fs : List (Ev → Rs Dt)) (ρ : Ev) : Rs (List Dt) := argsE Fs ρ >>= fun ds => match ds with
  | [.int j] => if intSz j = true then .ok (rangeL 0 j.toNat) else .no
  | _ => .no
def rng2I (Fs : List (Ev → Rs Dt)) (ρ : Ev) : Rs (List Dt) := argsE Fs ρ >>= fun ds => match ds with
  | [.int i, .int j] => if (intSz i && intSz j) = true then .ok (rangeL i (j - i).toNat) else .no
  | _ => .no
theorem Rps.one {K : PySem.W.Frag} {ca : Str → Addr} {d : Dt} {vs : List V} (h : Rps K ca H [d] vs) : ∃ v, vs = [v] ∧ Rp K ca H d v := by
  cases h with
  | cons h1 h2 => cases h2; exact ⟨_, rfl, h1⟩
theorem Rps.two {K : PySem.W.Frag} {ca : Str → Addr} {d e : Dt} {vs : List V} (h : Rps K ca H [d, e] vs) : ∃ v u, vs = [v, u] ∧ Rp K ca H d v ∧ Rp K ca H e u := by
  cases h with
  | cons h1 h2 =>
    obtain ⟨u, rfl, h3⟩ := h2.one
    exact ⟨_, u, rfl, h1, h3⟩
theorem si_rng1 (h : SemBs J Γ Fs tr) : SemI J Γ (rng1I Fs) (iRng1 tr) := fun {G0 H0 G H ρ σ R} w p => by
  refine h w (p.bind.imp (fun ds _ q vs G1 H1 e1 r1 => ?_) fun _ q => q)
  split at q
  · rename_i j hj
    obtain ⟨v, rfl, r⟩ := r1.one
    cases r
    by_cases c : intSz j = true
    · rw [if_pos c] at q
      have c := intSz_ok c
      exact ⟨j, rfl, by omega, by omega, q.of_ok _ G1 H1 e1 (walk_range 0 _)⟩
    · rw [if_neg c] at q; cases q
  · cases q
theorem si_rng2 (h : SemBs J Γ Fs tr) : SemI J Γ (rng2I Fs) (iRng2 tr) := fun {G0 H0 G H ρ σ R} w p => by
  refine h w (p.bind.imp (fun ds _ q vs G1 H1 e1 r1 => ?_) fun _ q => q)
  split at q
  · rename_i i j hj
    obtain ⟨v, u, rfl, r, r'⟩ := r1.two
    cases r
    cases r'
    by_cases c : (intSz i && intSz j) = true
    · rw [if_pos c] at q
      rw [Bool.and_eq_true] at c
      have c1 := intSz_ok c.1
      have c2 := intSz_ok c.2
      exact ⟨i, j, rfl, by omega, q.of_ok _ G1 H1 e1 (walk_range i _)⟩
    · rw [if_neg c] at q; cases q
  · cases q
/-- zip of two tuples, of two lists, as long as each other -/
def zipL : List Dt → List Dt → List Dt
  | a :: as, b :: bs => .tup [a, b] :: zipL as bs
  | _, _ => []
theorem zipL_get : ∀ {as bs : List Dt} {i : Nat} {d : Dt}, (zipL as bs)[i]? = some d → ∃ a b, as[i]? = some a ∧ bs[i]? = some b ∧ d = .tup [a, b]
  | [], _, i, d, h => by simp [zipL] at h
  | _ :: _, [], i, d, h => by simp [zipL] at h
  | a :: as, b :: bs, 0, d, h => by
    have : Dt.tup [a, b] = d := by simpa [zipL] using h
    exact ⟨a, b, rfl, rfl, this.symm⟩
  | a :: as, b :: bs, i + 1, d, h => by
    obtain ⟨x, y, h1, h2, h3⟩ := zipL_get (as := as) (bs := bs) (i := i) (by simpa [zipL] using h)
    exact ⟨x, y, by simpa using h1, by simpa using h2, h3⟩
theorem zipL_len : ∀ {as bs : List Dt}, (zipL as bs).length = min as.length bs.length
  | [], bs => by simp [zipL]
  | _ :: _, [] => by simp [zipL]
  | a :: as, b :: bs => by
    rw [zipL, List.length_cons, List.length_cons, List.length_cons, zipL_len]
    omega
theorem zipL_length : ∀ {as bs : List Dt}, as.length = bs.length → (zipL as bs).length = as.length
  | [], [], _ => rfl
  | a :: as, b :: bs, h => by
    rw [zipL, List.length_cons, List.length_cons, zipL_length (by simpa using h)]
theorem walk_pairs {K : PySem.W.Frag} {ca : Str → Addr} {J : It} {ds : List Dt} (hgo : ∀ i d G1 H1, ds[i]? = some d → Same G G1 → Same G1 H1 → J.go i H1 ∧ ∀ x H2, J.yld i H1 x H2 → ∃ T a b u v, d = .tup [a, b] ∧ x = .ref T ∧ H1 T = none ∧ H2 = upd H1 T (.tup [u, v]) ∧ Rp K ca G1 a u ∧ Rp K ca G1 b v)
    (hs : ∀ G1 H1, Same G G1 → Same G1 H1 → J.stop ds.length H1) : Walk K ca J G ds := by
  refine ⟨fun i d G1 H1 e g1 g2 => ?_, hs⟩
  obtain ⟨h1, h2⟩ := hgo i d G1 H1 e g1 g2
  refine ⟨h1, fun x H2 y => ?_⟩
  obtain ⟨T, a, b, u, v, rfl, rfl, hT, rfl, ra, rb⟩ := h2 x H2 y
  obtain ⟨e2, o2⟩ := new_tup g2 hT (.cons ra (.cons rb .nil))
  exact ⟨_, e2, o2⟩
theorem walk_zipL {K : PySem.W.Frag} {ca : Str → Addr} {a b : Addr} {vs us : List V} {ds es : List Dt} (h : SqL K G a vs) (k : SqL K G b us) (r : Rps K ca G ds vs) (r2 : Rps K ca G es us) : Walk K ca (Itz K a b) G (zipL ds es) := by
  refine walk_pairs (fun i d G1 H1 e g1 g2 => ?_) fun G1 H1 g1 g2 => ⟨vs, us, g2.seq (g1.seq h), g2.seq (g1.seq k), ?_⟩
  · obtain ⟨x, y, e1, e2, rfl⟩ := zipL_get e
    obtain ⟨v, hv, rv⟩ := r.get e1
    obtain ⟨u, hu, ru⟩ := r2.get e2
    refine ⟨⟨vs, us, v, u, g2.seq (g1.seq h), g2.seq (g1.seq k), hv, hu⟩, fun z H2 q => ?_⟩
    obtain ⟨T, x', y', q1, q2, q3, q4, q5⟩ := q
    have z4 := q4 vs (g2.seq (g1.seq h))
    have z5 := q5 us (g2.seq (g1.seq k))
    rw [hv] at z4
    rw [hu] at z5
    cases z4
    cases z5
    exact ⟨T, x, y, v, u, rfl, q1, q2, q3, rv.mono g1, ru.mono g1⟩
  · rw [zipL_len]
    rw [← r.length, ← r2.length]
    omega
theorem walk_zipT {K : PySem.W.Frag} {ca : Str → Addr} {a b : Addr} {vs us : List V} {ds es : List Dt} (h : SqT K G a vs) (k : SqT K G b us) (r : Rps K ca G ds vs) (r2 : Rps K ca G es us) : Walk K ca (ItzT K a b) G (zipL ds es) := by
  refine walk_pairs (fun i d G1 H1 e g1 g2 => ?_) fun G1 H1 g1 g2 => ⟨vs, us, g2.sqt (g1.sqt h), g2.sqt (g1.sqt k), ?_⟩
  · obtain ⟨x, y, e1, e2, rfl⟩ := zipL_get e
    obtain ⟨v, hv, rv⟩ := r.get e1
    obtain ⟨u, hu, ru⟩ := r2.get e2
    refine ⟨⟨vs, us, v, u, g2.sqt (g1.sqt h), g2.sqt (g1.sqt k), hv, hu⟩, fun z H2 q => ?_⟩
    obtain ⟨T, x', y', q1, q2, q3, q4, q5⟩ := q
    have z4 := q4 vs (g2.sqt (g1.sqt h))
    have z5 := q5 us (g2.sqt (g1.sqt k))
    rw [hv] at z4
    rw [hu] at z5
    cases z4
    cases z5
    exact ⟨T, x, y, v, u, rfl, q1, q2, q3, rv.mono g1, ru.mono g1⟩
  · rw [zipL_len]
    rw [← r.length, ← r2.length]
    omega
def zipI (Fs : List (Ev → Rs Dt)) (ρ : Ev) : Rs (List Dt) := argsE Fs ρ >>= fun ds => match ds with
  | [.lst a, .lst b] => .ok (zipL a b)
  | [.tup a, .tup b] => .ok (zipL a b)
  | _ => .no
theorem si_zip (h : SemZ J Γ [.F, .F] Fs tr) : SemI J Γ (zipI Fs) (iZipA J.K tr) := fun {G0 H0 G H ρ σ R} w p => by
  refine h w (p.bind.imp (fun ds _ q vs G1 H1 P1 e1 _ o1 => ?_) fun _ q => q)
  have r1 := o1.allF rfl
  split at q
  · obtain ⟨v, u, rfl, r, r'⟩ := r1.two
    cases r with
    | lst h1 h2 =>
      cases r' with
      | lst k1 k2 => exact ⟨_, _, _, _, rfl, .inl ⟨.of (e1.gh _ _ h1), .of (e1.gh _ _ k1), q.of_ok _ G1 H1 e1 (walk_zipL (.of h1) (.of k1) h2 k2)⟩⟩
  · obtain ⟨v, u, rfl, r, r'⟩ := r1.two
    cases r with
    | tup h1 h2 =>
      cases r' with
      | tup k1 k2 => exact ⟨_, _, _, _, rfl, .inr ⟨.of (e1.gh _ _ h1), .of (e1.gh _ _ k1), q.of_ok _ G1 H1 e1 (walk_zipT (.of h1) (.of k1) h2 k2)⟩⟩
  · cases q
/-- enumerate of a list -/
def enumL : Nat → List Dt → List Dt
  | _, [] => []
  | n, d :: ds => .tup [.int (n : Nat), d] :: enumL (n + 1) ds
theorem enumL_length : ∀ {n : Nat} {ds : List Dt}, (enumL n ds).length = ds.length
  | _, [] => rfl
  | n, d :: ds => by rw [enumL, List.length_cons, List.length_cons, enumL_length]
theorem enumL_get : ∀ {n : Nat} {ds : List Dt} {i : Nat} {d : Dt}, (enumL n ds)[i]? = some d → ∃ a, ds[i]? = some a ∧ d = .tup [.int ((n + i : Nat) : Int), a]
  | _, [], i, d, h => by simp [enumL] at h
  | n, a :: ds, 0, d, h => by
    have : Dt.tup [.int (n : Nat), a] = d := by simpa [enumL] using h
    exact ⟨a, rfl, this.symm⟩
  | n, a :: ds, i + 1, d, h => by
    obtain ⟨x, h1, h2⟩ := enumL_get (n := n + 1) (ds := ds) (i := i) (by simpa [enumL] using h)
    refine ⟨x, by simpa using h1, ?_⟩
    rw [h2]
    congr 3
    omega
def enumI (Fs : List (Ev → Rs Dt)) (ρ : Ev) : Rs (List Dt) := argsE Fs ρ >>= fun ds => match ds with
  | [.lst a] => .ok (enumL 0 a)
  | [.scr a] => .ok (enumL 0 a)
  | _ => .no
theorem walk_enum {K : PySem.W.Frag} {ca : Str → Addr} {a : Addr} {vs : List V} {ds : List Dt} (h : SqL K G a vs) (r : Rps K ca G ds vs) : Walk K ca (Ite K a) G (enumL 0 ds) := by
  refine walk_pairs (fun i d G1 H1 e g1 g2 => ?_) fun G1 H1 g1 g2 => ⟨vs, g2.seq (g1.seq h), by rw [enumL_length, r.length]; exact Nat.le_refl _⟩
  obtain ⟨x, e1, rfl⟩ := enumL_get e
  obtain ⟨v, hv, rv⟩ := r.get e1
  refine ⟨⟨vs, v, g2.seq (g1.seq h), hv⟩, fun z H2 q => ?_⟩
  obtain ⟨T, x', q1, q2, q3, q4⟩ := q
  have z4 := q4 vs (g2.seq (g1.seq h))
  rw [hv] at z4
  cases z4
  exact ⟨T, _, x, _, v, rfl, q1, q2, q3, by rw [Nat.zero_add]; exact .int _, rv.mono g1⟩
theorem si_enum (h : SemZ J Γ [.F] Fs tr) : SemI J Γ (enumI Fs) (iEnum J.K tr) := fun {G0 H0 G H ρ σ R} w p => by
  refine h w (p.bind.imp (fun ds _ q vs G1 H1 P1 e1 _ o1 => ?_) fun _ q => q)
  have r1 := o1.allF rfl
  split at q
  · obtain ⟨v, rfl, r⟩ := r1.one
    cases r with
    | lst h1 h2 => exact ⟨_, _, rfl, .of (e1.gh _ _ h1), q.of_ok _ G1 H1 e1 (walk_enum (.of h1) h2)⟩
  · obtain ⟨v, rfl, r⟩ := r1.one
    cases r with
    | scr h1 h2 => exact ⟨_, _, rfl, e1.gh.seq h1, q.of_ok _ G1 H1 e1 (walk_enum h1 h2)⟩
  · cases q
/-- reversed -/
def revI (F : Ev → Rs Dt) (ρ : Ev) : Rs (List Dt) := F ρ >>= fun d => match d with
  | .lst ds => .ok ds.reverse
  | .tup ds => .ok ds.reverse
  | _ => .no
theorem rev_get {α : Type} {xs : List α} {i : Nat} {x : α} (h : xs.reverse[i]? = some x) : i < xs.length ∧ xs[xs.length - 1 - i]? = some x := by
  have hi : i < xs.length := by have := (List.getElem?_eq_some_iff.mp h).1; simpa using this
  rw [List.getElem?_reverse hi] at h
  exact ⟨hi, h⟩
theorem walk_revL {K : PySem.W.Frag} {ca : Str → Addr} {a : Addr} {vs : List V} {ds : List Dt} (h : SqL K G a vs) (r : Rps K ca G ds vs) : Walk K ca (Itv K a vs.length) G ds.reverse := by
  refine ⟨fun i d G1 H1 e g1 g2 => ?_, fun G1 H1 g1 g2 => by rw [List.length_reverse, r.length]; exact Nat.le_refl _⟩
  obtain ⟨hi, e⟩ := rev_get e
  obtain ⟨v, hv, rv⟩ := r.get e
  rw [r.length] at hv hi
  refine ⟨⟨hi, vs, v, g2.seq (g1.seq h), hv⟩, fun x H2 y => ?_⟩
  obtain ⟨y1, y2⟩ := y
  subst y1
  have z := y2 vs (g2.seq (g1.seq h))
  rw [hv] at z
  cases z
  exact ⟨G1, Ext.refl g2, rv.mono g1⟩
theorem walk_revT {K : PySem.W.Frag} {ca : Str → Addr} {a : Addr} {vs : List V} {ds : List Dt} (h : SqT K G a vs) (r : Rps K ca G ds vs) : Walk K ca (ItvT K a vs.length) G ds.reverse := by
  refine ⟨fun i d G1 H1 e g1 g2 => ?_, fun G1 H1 g1 g2 => by rw [List.length_reverse, r.length]; exact Nat.le_refl _⟩
  obtain ⟨hi, e⟩ := rev_get e
  obtain ⟨v, hv, rv⟩ := r.get e
  rw [r.length] at hv hi
  refine ⟨⟨hi, vs, v, g2.sqt (g1.sqt h), hv⟩, fun x H2 y => ?_⟩
  obtain ⟨y1, y2⟩ := y
  subst y1
  have z := y2 vs (g2.sqt (g1.sqt h))
  rw [hv] at z
  cases z
  exact ⟨G1, Ext.refl g2, rv.mono g1⟩
theorem si_rev (h : SemE J Γ (.o .F) F te) : SemI J Γ (revI F) (iRevA J.K te) := fun {G0 H0 G H ρ σ R} w p => by
  refine h w (p.bind.imp (fun d _ q v G1 H1 P1 e1 _ r1 => ?_) fun _ q => q)
  cases r1 with
  | F r1 =>
    cases r1 with
    | lst h1 h2 => exact ⟨_, _, rfl, .inl ⟨.of (e1.gh _ _ h1), Rs.Post.of_ok q _ G1 H1 e1 (walk_revL (.of h1) h2)⟩⟩
    | tup h1 h2 => exact ⟨_, _, rfl, .inr ⟨.of (e1.gh _ _ h1), Rs.Post.of_ok q _ G1 H1 e1 (walk_revT (.of h1) h2)⟩⟩
    | _ => cases q
end
end Pm
namespace Pm
open PySem PySem.Spec PyProof.Rows L2
open Classical
/-! ### targets -/
def SemG (J : Jc) (Γ : List Mode) (vs : List Nat) (FG : Dt → Ev → Option Ev) (g : TG) : Prop := ∀ ⦃G0 H0 G H : Hp⦄ ⦃ρ ρ' : Ev⦄ ⦃σ : L2.St⦄ ⦃Q : L2.St → Hp → Prop⦄ ⦃d : Dt⦄ ⦃v : V⦄, Wd J G0 H0 Γ ρ σ G H → Rp J.K J.ca G d v → FG d ρ = some ρ' →
  (∀ σ', wipe σ' vs = wipe σ vs → Wd J G0 H0 Γ ρ' σ' G H → Q σ' H) → g v σ H Q
def SemGs (J : Jc) (Γ : List Mode) (vs : List Nat) (FG : List Dt → Ev → Option Ev) (g : TGs) : Prop := ∀ ⦃G0 H0 G H : Hp⦄ ⦃ρ ρ' : Ev⦄ ⦃σ : L2.St⦄ ⦃Q : L2.St → Hp → Prop⦄ ⦃ds : List Dt⦄ ⦃us : List V⦄, Wd J G0 H0 Γ ρ σ G H → Rps J.K J.ca G ds us → FG ds ρ = some ρ' →
  (∀ σ', wipe σ' vs = wipe σ vs → Wd J G0 H0 Γ ρ' σ' G H → Q σ' H) → g us σ H Q
def nameG (i : Nat) (d : Dt) (ρ : Ev) : Option Ev := some (ρ.set i (some d))
def nilG : List Dt → Ev → Option Ev
  | [], ρ => some ρ
  | _, _ => none
def consG (f : Dt → Ev → Option Ev) (fs : List Dt → Ev → Option Ev) : List Dt → Ev → Option Ev
  | d :: ds, ρ => (f d ρ).bind fun ρ1 => fs ds ρ1
  | [], _ => none
def tupG (n : Nat) (fs : List Dt → Ev → Option Ev) (d : Dt) (ρ : Ev) : Option Ev := match d with
  | .tup ds => if ds.length = n then fs ds ρ else none
  | _ => none
theorem wipe_in {σ : L2.St} {i : Nat} : ∀ {vs : List Nat}, i ∈ vs → (wipe σ vs)[i]? = if i < σ.length then some none else none
  | [], h => by cases h
  | v :: vs, h => by
    show ((wipe σ vs).set v none)[i]? = _
    by_cases e : v = i
    · subst e
      rw [List.getElem?_set, wipe_length]
      simp
    · rw [List.getElem?_set_ne e]
      rcases List.mem_cons.mp h with q | q
      · exact absurd q.symm e
      · exact wipe_in q
theorem wipe_ext {σ τ : L2.St} {vs : List Nat} (hl : σ.length = τ.length) (h : ∀ j, j ∉ vs → σ[j]? = τ[j]?) : wipe σ vs = wipe τ vs := by
  refine List.ext_getElem? fun j => ?_
  by_cases hj : j ∈ vs
  · rw [wipe_in hj, wipe_in hj, hl]
  · rw [wipe_out hj, wipe_out hj]
    exact h j hj
theorem wipe_set {σ : L2.St} {i : Nat} {x : Option V} {vs : List Nat} (h : i ∈ vs) : wipe (σ.set i x) vs = wipe σ vs :=
  wipe_ext (List.length_set ..) fun j hj => List.getElem?_set_ne fun e => hj (by rw [← e]; exact h)
theorem wipe_wipe {σ : L2.St} {vs : List Nat} : wipe (wipe σ vs) vs = wipe σ vs := wipe_ext (wipe_length _ _) fun j hj => wipe_out hj
def wipeE (ρ : Ev) : List Nat → Ev
  | [] => ρ
  | v :: vs => (wipeE ρ vs).set v none
theorem wipeE_length (ρ : Ev) : ∀ vs : List Nat, (wipeE ρ vs).length = ρ.length
  | [] => rfl
  | v :: vs => by unfold wipeE; rw [List.length_set, wipeE_length ρ vs]
theorem wipeE_some {ρ : Ev} {i : Nat} {x : Dt} : ∀ {vs : List Nat}, (wipeE ρ vs)[i]? = some (some x) → ρ[i]? = some (some x) ∧ i ∉ vs
  | [], h => ⟨h, by simp⟩
  | v :: vs, h => by
    unfold wipeE at h
    by_cases hi : v = i
    · subst hi
      by_cases hv : v < (wipeE ρ vs).length
      · rw [List.getElem?_set_self hv] at h; cases h
      · rw [List.getElem?_eq_none (by simpa using hv)] at h; cases h
    · rw [List.getElem?_set_ne hi] at h
      obtain ⟨h1, h2⟩ := wipeE_some h
      exact ⟨h1, by simp only [List.mem_cons, not_or]; exact ⟨fun e => hi e.symm, h2⟩⟩
section
variable {J : Jc} {Γ : List Mode} {em : EM} {m : Mode} {ms : List Mode} {F Fa Fb : Ev → Rs Dt} {Fs : List (Ev → Rs Dt)} {te ta tb : TE} {tr : TA} {G0 H0 G H G' H' : Hp} {ρ : Ev} {σ : L2.St} {vs : List Nat}
theorem Wd.nw (w : Wd J G0 H0 Γ ρ σ G H) : Wd J.nw G0 H0 Γ ρ σ G H := ⟨w.x, w.lg, w.lr, w.env, fun _ _ h => nomatch h⟩
theorem Wd.wipe (w : Wd J G0 H0 Γ ρ σ G H) (vs : List Nat) (hp : J.pin = none) : Wd J G0 H0 Γ (wipeE ρ vs) (L2.wipe σ vs) G H := by
  obtain ⟨Pf, h1, h2, h3⟩ := w.env
  refine ⟨w.x, by rw [wipeE_length]; exact w.lg, by rw [wipeE_length, wipe_length]; exact w.lr, ⟨Pf, h1, h2, fun i d q => ?_⟩, fun _ v h => by rw [hp] at h; cases h⟩
  obtain ⟨q1, q2⟩ := wipeE_some q
  obtain ⟨v, m, s1, s2, s3⟩ := h3 i d q1
  exact ⟨v, m, by rw [wipe_out q2]; exact s1, s2, s3⟩
theorem set_same {Γ : List Mode} {i : Nat} (h : Γ[i]? = some m) : Γ.set i m = Γ := by
  refine List.ext_getElem? fun j => ?_
  rw [List.getElem?_set]
  split
  · rename_i e
    subst e
    have hl := (List.getElem?_eq_some_iff.mp h).1
    rw [if_pos hl, h]
  · rfl
theorem sg_name {i : Nat} (hm : Γ[i]? = some .F := by rfl) (hv : i ∈ vs := by decide) (hp : J.free i := by rfl) : SemG J Γ vs (nameG i) (gName i) := fun {G0 H0 G H ρ ρ' σ Q d v} w r e k => by
  cases e
  have w2 := w.set (Ext.refl w.gh) (.F (P := Pno) r) (Fr.no (G := G)) i hp
  rw [set_same hm] at w2
  exact k _ (wipe_set hv) w2
theorem sgs_nil : SemGs J Γ vs nilG gNil := fun {G0 H0 G H ρ ρ' σ Q ds us} w r e k => by
  cases ds with
  | nil =>
    cases e
    cases r
    exact ⟨rfl, k σ rfl w⟩
  | cons _ _ => cases e
theorem sgs_cons {f : Dt → Ev → Option Ev} {fs : List Dt → Ev → Option Ev} {g : TG} {gs : TGs} (h : SemG J Γ vs f g) (k : SemGs J Γ vs fs gs) : SemGs J Γ vs (consG f fs) (gCons g gs) := fun {G0 H0 G H ρ ρ' σ Q ds us} w r e l => by
  cases ds with
  | nil => cases e
  | cons d ds =>
    cases r with
    | cons r1 r2 =>
      have e : (f d ρ).bind (fun ρ1 => fs ds ρ1) = some ρ' := e
      cases q : f d ρ with
      | none => rw [q] at e; cases e
      | some ρ1 =>
        rw [q] at e
        refine ⟨_, _, rfl, h w r1 q fun σ1 z w1 => ?_⟩
        exact k w1 r2 e fun σ2 z2 w2 => l σ2 (z2.trans z) w2
theorem sg_tup {n : Nat} {fs : List Dt → Ev → Option Ev} {gs : TGs} (k : SemGs J Γ vs fs gs) : SemG J Γ vs (tupG n fs) (gTup J.K n gs) := fun {G0 H0 G H ρ ρ' σ Q d v} w r e l => by
  cases r with
  | @tup a us ds h1 h2 =>
    have e : (if ds.length = n then fs ds ρ else none) = some ρ' := e
    split at e
    · rename_i hn
      exact ⟨_, _, rfl, .of (w.gh _ _ h1), by rw [← h2.length]; exact hn, k w h2 e l⟩
    · cases e
  | _ => cases e
/-! ### comprehensions -/
def compL (FG : Dt → Ev → Option Ev) (Ft : Ev → Rs Bool) (Fe : Ev → Rs Dt) (ρ : Ev) : List Dt → Rs (List Dt)
  | [] => .ok []
  | d :: ds => match FG d ρ with
    | none => .no
    | some ρ1 => Ft ρ1 >>= fun b => if b = true then Fe ρ1 >>= fun y => compL FG Ft Fe ρ ds >>= fun ys => .ok (y :: ys) else compL FG Ft Fe ρ ds
def noEx {α : Type} : Rs α → Rs α
  | .ok a => .ok a
  | _ => .no
def compE (Fi : Ev → Rs (List Dt)) (vs : List Nat) (FG : Dt → Ev → Option Ev) (Ft : Ev → Rs Bool) (Fe : Ev → Rs Dt) (ρ : Ev) : Rs Dt := Fi ρ >>= fun ds => if lenSz ds.length = true then noEx (compL FG Ft Fe (wipeE ρ vs) ds) >>= fun ys => .ok (.lst ys) else .no
def yesT (_ : Ev) : Rs Bool := .ok true
theorem st_yes : SemT J Γ yesT tYes := fun {G0 H0 G H ρ σ Q} w p => p.of_ok G H (Ext.refl w.gh)
theorem Ows.append {K : PySem.W.Frag} {ca : Str → Addr} : ∀ {ds : List Dt} {es : List Dt} {ms ns : List Mode} {vs us : List V} {P1 P2 P : Addr → Prop}, Ows K ca G H ms ds vs P1 → Ows K ca G H ns es us P2 → (∀ b, P1 b → P b) → (∀ b, P2 b → P b) → (∀ b, P1 b → ¬ P2 b) → Ows K ca G H (ms ++ ns) (ds ++ es) (vs ++ us) P
  | [], es, ms, ns, vs, us, P1, P2, P, h, k, q1, q2, q3 => by
    cases h
    exact k.weaken q2
  | d :: ds, es, ms, ns, vs, us, P1, P2, P, h, k, q1, q2, q3 => by
    cases h with
    | @cons _ _ _ _ _ _ _ A B h1 h2 r1 r2 r3 =>
      refine .cons (P1 := A) (P2 := fun b => B b ∨ P2 b) h1 (Ows.append h2 k (fun _ => .inl) (fun _ => .inr) fun b hb => q3 b (r2 b hb)) (fun b hb => q1 b (r1 b hb)) (fun b hb => hb.elim (fun z => q1 b (r2 b z)) (q2 b)) fun b hb z => ?_
      rcases z with z | z
      · exact r3 b hb z
      · exact q3 b (r1 b hb) z
theorem Ext.mut {p : Addr} {o : HO} (e : Ext G H G' H') (hp : H p = none) (hg : G' p = none) : Ext G H G' (L2.upd H' p o) := by
  refine ⟨e.g, fun a u q => ?_, fun a u q => ?_, e.base⟩
  · rw [upd_ne fun z => by rw [z, hp] at q; cases q]
    exact e.h a u q
  · rw [upd_ne fun z => by rw [z, hg] at q; cases q]
    exact e.gh a u q
theorem bind_ok {α β : Type} {r : Rs α} {f : α → Rs β} {b : β} (h : (r >>= f) = .ok b) : ∃ a, r = .ok a ∧ f a = .ok b := by
  cases r with
  | ok a => exact ⟨a, rfl, h⟩
  | ex c => cases h
  | no => cases h
theorem noEx_ok {α : Type} {r : Rs α} {a : α} (h : noEx r = .ok a) : r = .ok a := by
  cases r with
  | ok b => exact h
  | ex c => cases h
  | no => cases h
variable {Fi : Ev → Rs (List Dt)} {wi : TI} {FG : Dt → Ev → Option Ev} {g : TG} {Ft : Ev → Rs Bool} {tt : TT} {Fe : Ev → Rs Dt}
theorem se_comp (hi : SemI J Γ Fi wi) (hg : SemG J.nw Γ vs FG g) (ht : SemT J.nw Γ Ft tt) (he : SemE J.nw Γ (.o m) Fe te) : SemE J Γ (.o (.L m)) (compE Fi vs FG Ft Fe) (tLc wi g tt te vs) := fun {G0 H0 G H ρ σ Q} w p => by
  refine hi w (p.bind.imp (fun ds _ q it G1 H1 e1 wk D hD => ?_) fun _ q => q)
  by_cases c : lenSz ds.length = true
  case neg => rw [if_neg c] at q; cases q
  rw [if_pos c] at q
  have c := lenSz_le c
  cases hn : noEx (compL FG Ft Fe (wipeE ρ vs) ds) with
  | ex z => rw [hn] at q; cases hz : compL FG Ft Fe (wipeE ρ vs) ds <;> rw [hz] at hn <;> cases hn
  | no => rw [hn] at q; cases q
  | ok total =>
  rw [hn, ok_bind] at q
  have hn := noEx_ok hn
  have fin := q.of_ok
  let St : Nat → Hp → Prop := fun i Hi => ∃ (G2 : Hp) (aD : List Dt) (aV : List V) (P : Addr → Prop) (ys : List Dt), Ext G1 H1 G2 Hi ∧ Hi D = some (.lst aV) ∧ G2 D = none ∧ Ows J.K J.ca G2 Hi (List.replicate aD.length m) aD aV P ∧ (∀ b, P b → G2 b = none ∧ H1 b = none ∧ Hi b ≠ none ∧ b ≠ D) ∧
    aD.length ≤ i ∧ compL FG Ft Fe (wipeE ρ vs) (ds.drop i) = .ok ys ∧ aD ++ ys = total
  refine ⟨fun i n Hi => n = ds.length - i ∧ i ≤ ds.length ∧ St i Hi, ⟨ds.length, by simp, Nat.zero_le _, G1, [], [], Pno, total, ?_, upd_same, e1.gh.free hD, .nil, fun _ z => z.elim, Nat.le_refl _, by simpa using hn, rfl⟩, ?_⟩
  · exact (Ext.refl e1.gh).mut hD (e1.gh.free hD)
  rintro i n Hi ⟨rfl, hi, G2, aD, aV, P, ys, E, hDi, gD, own, pr, la, hc, tot⟩
  by_cases hlt : i < ds.length
  case neg =>
    have ei : i = ds.length := by omega
    subst ei
    refine .inl ⟨wk.stop G2 Hi E.g E.gh, ?_⟩
    have z : compL FG Ft Fe (wipeE ρ vs) (ds.drop ds.length) = .ok [] := by rw [List.drop_length]; rfl
    rw [z] at hc
    cases hc
    rw [List.append_nil] at tot
    subst tot
    refine fin _ G2 Hi (fun b => b = D ∨ P b) (e1.trans E) (fun b hb => ?_) (.L hDi gD (.inl rfl) (own.weaken fun b hb => ⟨.inr hb, (pr b hb).2.2.2⟩))
    rcases hb with rfl | hb
    · exact ⟨gD, e1.h.free hD, by rw [hDi]; exact fun z => by cases z⟩
    · exact ⟨(pr b hb).1, e1.h.free (pr b hb).2.1, (pr b hb).2.2.1⟩
  obtain ⟨go, step⟩ := wk.go i ds[i] G2 Hi (by simp [hlt]) E.g E.gh
  refine .inr ⟨go, fun H' => ∃ m', m' < ds.length - i ∧ (m' = ds.length - (i + 1) ∧ i + 1 ≤ ds.length ∧ St (i + 1) H'), fun H' z => z, fun x H3 y => ?_⟩
  obtain ⟨G3, e3, rx⟩ := step x H3 y
  have hdrop : ds.drop i = ds[i] :: ds.drop (i + 1) := List.drop_eq_getElem_cons hlt
  rw [hdrop] at hc
  have hc : (match FG ds[i] (wipeE ρ vs) with
    | none => Rs.no
    | some ρ1 => Ft ρ1 >>= fun b => if b = true then Fe ρ1 >>= fun y => compL FG Ft Fe (wipeE ρ vs) (ds.drop (i + 1)) >>= fun ys => .ok (y :: ys) else compL FG Ft Fe (wipeE ρ vs) (ds.drop (i + 1))) = .ok ys := hc
  cases hF : FG ds[i] (wipeE ρ vs) with
  | none => rw [hF] at hc; cases hc
  | some ρ1 =>
  rw [hF] at hc
  obtain ⟨b, hb, hc⟩ := bind_ok hc
  have w3 : Wd J.nw G0 H0 Γ (wipeE ρ vs) (L2.wipe σ vs) G3 H3 := ((w.ext e1).ext (E.trans e3)).nw.wipe vs rfl
  refine hg w3 rx hF fun σ2 hw w4 => ⟨hw.trans wipe_wipe, ?_⟩
  refine ht w4 ?_
  rw [hb]
  refine .ok fun G4 H4 e4 => ?_
  have E4 : Ext G1 H1 G4 H4 := (E.trans e3).trans e4
  have carry : ∀ {G5 H5 : Hp}, Ext G2 Hi G5 H5 → Ows J.K J.ca G5 H5 (List.replicate aD.length m) aD aV P ∧ (∀ b, P b → G5 b = none ∧ H1 b = none ∧ H5 b ≠ none ∧ b ≠ D) := fun {G5 H5} e5 =>
    ⟨own.carry e5.g fun b hb => ⟨e5.h.at (pr b hb).2.2.1, by rw [e5.base b (pr b hb).2.2.1]; exact (pr b hb).1⟩, fun b hb => ⟨by rw [e5.base b (pr b hb).2.2.1]; exact (pr b hb).1, (pr b hb).2.1, e5.h.nn (pr b hb).2.2.1, (pr b hb).2.2.2⟩⟩
  have hDi0 : Hi D ≠ none := by rw [hDi]; exact fun z => by cases z
  cases b with
  | false =>
    obtain ⟨o4, p4⟩ := carry (e3.trans e4)
    show ∃ m', _
    refine ⟨ds.length - (i + 1), by omega, rfl, hlt, G4, aD, aV, P, ys, E4, (e3.trans e4).h _ _ hDi, by rw [(e3.trans e4).base D hDi0]; exact gD, o4, p4, by omega, hc, tot⟩
  | true =>
    show te σ2 H4 _
    have hc : (Fe ρ1 >>= fun y => compL FG Ft Fe (wipeE ρ vs) (ds.drop (i + 1)) >>= fun ys => .ok (y :: ys)) = .ok ys := hc
    obtain ⟨yD, hy, hc⟩ := bind_ok hc
    obtain ⟨ys2, hys, hc⟩ := bind_ok hc
    cases hc
    refine he (w4.ext e4) ?_
    rw [hy]
    refine .ok fun v G5 H5 P5 e5 f5 o5 => ?_
    have e25 := (e3.trans e4).trans e5
    obtain ⟨o6, p6⟩ := carry e25
    have hD5 : H5 D = some (.lst aV) := e25.h _ _ hDi
    have gD5 : G5 D = none := by rw [e25.base D hDi0]; exact gD
    refine ⟨aV, hD5, ?_, ds.length - (i + 1), by omega, rfl, hlt, G5, aD ++ [yD], aV ++ [v], fun b => P b ∨ P5 b, ys2, (E.trans e25).mut hD gD5, upd_same, gD5, ?_, fun b hb => ?_, by rw [List.length_append, List.length_singleton]; omega, hys, by rw [List.append_assoc]; exact tot⟩
    · rw [← own.len.1]
      exact Nat.lt_of_lt_of_le (Nat.lt_of_le_of_lt la hlt) (sz1000000 c)
    · rw [List.length_append, List.length_singleton, List.replicate_succ']
      have nD5 : ∀ b, P5 b → b ≠ D := fun b hb z => by
        have := (f5 b hb).2.1
        rw [z, (e3.trans e4).h _ _ hDi] at this
        cases this
      refine Ows.append (P1 := P) (P2 := P5) (o6.carry (Same.refl _) fun b hb => ⟨upd_ne (p6 b hb).2.2.2, (p6 b hb).1⟩) (.cons (P1 := P5) (P2 := Pno) (o5.carry (Same.refl _) fun b hb => ⟨upd_ne (nD5 b hb), (f5 b hb).1⟩) .nil (fun _ z => z) (fun _ z => z.elim) (fun _ _ z => z)) (fun _ => .inl) (fun _ => .inr) fun b h1 h2 => ?_
      exact (pr b h1).2.2.1 ((e3.trans e4).h.free (f5 b h2).2.1)
    · rcases hb with hb | hb
      · obtain ⟨a1, a2, a3, a4⟩ := p6 b hb
        exact ⟨a1, a2, by rw [upd_ne a4]; exact a3, a4⟩
      · have nb : b ≠ D := fun z => by
          have := (f5 b hb).2.1
          rw [z, (e3.trans e4).h _ _ hDi] at this
          cases this
        exact ⟨(f5 b hb).1, E4.h.free (f5 b hb).2.1, by rw [upd_ne nb]; exact (f5 b hb).2.2, nb⟩
end
end Pm
namespace Pm
open PySem PySem.Spec PyProof.Rows L2
open Classical
/-! ### statements -/
inductive Ot where
  | nx (ρ : Ev) | rt (d : Dt) | bk (ρ : Ev) | ct (ρ : Ev) | ex (c : Xn) (ρ : Ev) | no
inductive PostS (J : Jc) (G0 H0 Gs : Hp) (Γ' : List Mode) (D : Ends) : Ot → Prop where
  | nx {ρ' : Ev} : (∀ σ' G' H', Same Gs G' → Wd J G0 H0 Γ' ρ' σ' G' H' → D.nx σ' H') → PostS J G0 H0 Gs Γ' D (.nx ρ')
  | rt {d : Dt} : (∀ v G' H' P, Ext G0 H0 G' H' → Fr G' H0 H' P → Ow J.K J.ca G' H' J.mr d v P → D.rt v H') → PostS J G0 H0 Gs Γ' D (.rt d)
  | bk {ρ' : Ev} : (∀ σ' G' H', Same Gs G' → Wd J G0 H0 J.gb ρ' σ' G' H' → D.bk σ' H') → PostS J G0 H0 Gs Γ' D (.bk ρ')
  | ct {ρ' : Ev} : (∀ σ' G' H', Same Gs G' → Wd J G0 H0 J.gb ρ' σ' G' H' → D.ct σ' H') → PostS J G0 H0 Gs Γ' D (.ct ρ')
  | ex {c : Xn} {ρ' : Ev} : (∀ dx σ' H', Same H0 H' → XR c dx H' → (∀ Γ1, J.gx = some Γ1 → ∃ G', Same Gs G' ∧ Wd J G0 H0 Γ1 ρ' σ' G' H') → J.W (.ref (J.ca c.1)) dx σ' H') → PostS J G0 H0 Gs Γ' D (.ex c ρ')
def SemS (J : Jc) (Γ Γ' : List Mode) (F : Ev → Ot) (ts : TS) : Prop := ∀ ⦃G0 H0 G H : Hp⦄ ⦃ρ : Ev⦄ ⦃σ : L2.St⦄ ⦃D : Ends⦄, Wd J G0 H0 Γ ρ σ G H → PostS J G0 H0 G Γ' D (F ρ) → ts D σ H
def bindS {α : Type} (r : Rs α) (ρ : Ev) (k : α → Ot) : Ot := match r with
  | .ok a => k a
  | .ex c => .ex c ρ
  | .no => .no
theorem bindS_ok {α : Type} {a : α} {ρ : Ev} {k : α → Ot} : bindS (.ok a) ρ k = k a := rfl
def Gx (J : Jc) (Γ : List Mode) : Prop := J.gx = none ∨ J.gx = some Γ
section
variable {J : Jc} {Γ Γ' Γ1 Γ2 : List Mode} {em : EM} {m : Mode} {ms : List Mode} {Fe Fa Fb : Ev → Rs Dt} {Fs : List (Ev → Rs Dt)} {te ta tb : TE} {tr : TA} {G0 H0 Gs G H G' H' : Hp} {ρ : Ev} {σ : L2.St} {vs : List Nat}
  {F F1 F2 : Ev → Ot} {ts t1 t2 : TS} {D : Ends}
theorem exS {c : Xn} (w : Wd J G0 H0 Γ ρ σ G H) (hx : Gx J Γ) (p : PostS J G0 H0 G Γ' D (.ex c ρ)) : ∀ H1 dx, Same H H1 → XR c dx H1 → J.W (.ref (J.ca c.1)) dx σ H1 := fun H1 dx s xr => by
  cases p with
  | ex p =>
    refine p dx σ H1 (w.x.h.trans s) xr fun Γ1 z => ?_
    rcases hx with h | h
    · rw [h] at z; cases z
    · rw [h] at z
      cases z
      exact ⟨G, Same.refl _, w.heap s⟩
theorem PostS.bind {α : Type} {r : Rs α} {k : α → Ot} (w : Wd J G0 H0 Γ ρ σ G H) (hx : Gx J Γ) (p : PostS J G0 H0 G Γ' D (bindS r ρ k)) : Rs.Post (fun a => PostS J G0 H0 G Γ' D (k a)) (fun c => ∀ H1 dx, Same H H1 → XR c dx H1 → J.W (.ref (J.ca c.1)) dx σ H1) r := by
  cases r with
  | ok a => exact .ok p
  | ex c => exact .ex (exS w hx p)
  | no => cases p
theorem PostS.up {o : Ot} (e : Same Gs G') (p : PostS J G0 H0 Gs Γ' D o) : PostS J G0 H0 G' Γ' D o := by
  cases p with
  | nx p => exact .nx fun a b c d => p a b c (e.trans d)
  | rt p => exact .rt p
  | bk p => exact .bk fun a b c d => p a b c (e.trans d)
  | ct p => exact .ct fun a b c d => p a b c (e.trans d)
  | ex p => exact .ex fun a b c d x k => p a b c d x fun Γ1 z => (k Γ1 z).imp fun _ q => ⟨e.trans q.1, q.2⟩
theorem PostS.of_nx {ρ' : Ev} (p : PostS J G0 H0 Gs Γ' D (.nx ρ')) : ∀ σ' G' H', Same Gs G' → Wd J G0 H0 Γ' ρ' σ' G' H' → D.nx σ' H' := by
  cases p with
  | nx p => exact p
theorem PostS.of_rt {d : Dt} (p : PostS J G0 H0 Gs Γ' D (.rt d)) : ∀ v G' H' P, Ext G0 H0 G' H' → Fr G' H0 H' P → Ow J.K J.ca G' H' J.mr d v P → D.rt v H' := by
  cases p with
  | rt p => exact p
def nextS (ρ : Ev) : Ot := .nx ρ
def seqS (F1 F2 : Ev → Ot) (ρ : Ev) : Ot := match F1 ρ with
  | .nx ρ1 => F2 ρ1
  | o => o
theorem ss_next : SemS J Γ Γ nextS tNext := fun {G0 H0 G H ρ σ D} w p => p.of_nx σ G H (Same.refl _) w
theorem ss_seq (h : SemS J Γ Γ1 F1 t1) (k : SemS J Γ1 Γ2 F2 t2) : SemS J Γ Γ2 (seqS F1 F2) (tSeq t1 t2) := fun {G0 H0 G H ρ σ D} w p => by
  refine h (D := { D with nx := t2 D }) w ?_
  unfold seqS at p
  cases q : F1 ρ with
  | nx ρ1 =>
    rw [q] at p
    exact .nx fun σ' G' H' sg w' => k w' (p.up sg)
  | rt d =>
    rw [q] at p
    cases p with
    | rt p => exact .rt p
  | bk r =>
    rw [q] at p
    cases p with
    | bk p => exact .bk p
  | ct r =>
    rw [q] at p
    cases p with
    | ct p => exact .ct p
  | ex c r =>
    rw [q] at p
    cases p with
    | ex p => exact .ex p
  | no => rw [q] at p; cases p
/-- from here on a name is frozen -/
theorem ss_frz {i : Nat} (h : SemS J (Γ.set i .F) Γ' F ts) : SemS J Γ Γ' F ts := fun {G0 H0 G H ρ σ D} w p => by
  obtain ⟨Pf, h1, h2, h3⟩ := w.env
  have sg : Same G (fun b => if Pf i b then H b else G b) := fun a u q => by
    show (if Pf i a then H a else G a) = some u
    by_cases z : Pf i a
    · rw [if_pos z]; exact w.gh a u q
    · rw [if_neg z]; exact q
  refine h (G := fun b => if Pf i b then H b else G b) ⟨⟨w.x.g.trans sg, w.x.h, fun a u q => ?_, fun a q => ?_⟩, by rw [List.length_set]; exact w.lg, w.lr, ⟨fun j a => j ≠ i ∧ Pf j a, fun j k a q r s => h1 j k a q r.2 s.2, fun j a q => ?_, fun j d q => ?_⟩, w.pn⟩ (p.up sg)
  · have q : (if Pf i a then H a else G a) = some u := q
    by_cases z : Pf i a
    · rw [if_pos z] at q; exact q
    · rw [if_neg z] at q; exact w.gh a u q
  · show (if Pf i a then H a else G a) = G0 a
    rw [if_neg fun z => q (h2 i a z).2.1]
    exact w.x.base a q
  · obtain ⟨q0, q⟩ := q
    refine ⟨?_, (h2 j a q).2⟩
    show (if Pf i a then H a else G a) = none
    rw [if_neg (h1 j i a q0 q)]
    exact (h2 j a q).1
  · obtain ⟨v, m, s1, s2, s3⟩ := h3 j d q
    by_cases hj : j = i
    · subst hj
      refine ⟨v, .F, s1, List.getElem?_set_self (List.getElem?_eq_some_iff.mp s2).1, .F (s3.freeze sg fun b hb => if_pos hb)⟩
    · refine ⟨v, m, s1, by rw [List.getElem?_set_ne (Ne.symm hj)]; exact s2, (s3.carry sg fun b hb => ⟨rfl, ?_⟩).weaken fun b hb => ⟨hj, hb⟩⟩
      show (if Pf i b then H b else G b) = none
      rw [if_neg (h1 j i b hj hb)]
      exact (h2 j b hb).1
def asgS (i : Nat) (Fe : Ev → Rs Dt) (ρ : Ev) : Ot := bindS (Fe ρ) ρ fun d => .nx (ρ.set i (some d))
theorem ss_asg {i : Nat} (h : SemE J Γ (.o m) Fe te) (hx : Gx J Γ) (hp : J.free i := by rfl) : SemS J Γ (Γ.set i m) (asgS i Fe) (tAsg te (gName i)) := fun {G0 H0 G H ρ σ D} w p =>
  h w ((p.bind w hx).imp (fun d _ q v G1 H1 P e f o => q.of_nx _ G1 H1 e.g (w.set e o f i hp)) fun _ q => q)
/-- the name frozen before stays frozen -/
theorem ss_asgF {i : Nat} (h : SemE J Γ (.o .F) Fe te) (hx : Gx J Γ) (hm : Γ[i]? = some .F := by rfl) (hp : J.free i := by rfl) : SemS J Γ Γ (asgS i Fe) (tAsg te (gName i)) := by
  have := ss_asg (i := i) h hx hp
  rw [set_same hm] at this
  exact this
def asgG (FG : Dt → Ev → Option Ev) (Fe : Ev → Rs Dt) (ρ : Ev) : Ot := bindS (Fe ρ) ρ fun d => match FG d ρ with
  | some ρ' => .nx ρ'
  | none => .no
theorem ss_asgG {FG : Dt → Ev → Option Ev} {g : TG} (h : SemE J Γ (.o .F) Fe te) (hg : SemG J Γ vs FG g) (hx : Gx J Γ) : SemS J Γ Γ (asgG FG Fe) (tAsg te g) := fun {G0 H0 G H ρ σ D} w p =>
  h w ((p.bind w hx).imp (fun d _ q v G1 H1 P e f o => by
    cases o with
    | F o =>
      cases z : FG d ρ with
      | none => rw [z] at q; cases q
      | some ρ' =>
        rw [z] at q
        exact hg (w.ext e) o z fun σ' _ w' => q.of_nx σ' G1 H1 e.g w') fun _ q => q)
def dropS (Fe : Ev → Rs Dt) (ρ : Ev) : Ot := bindS (Fe ρ) ρ fun _ => .nx ρ
theorem ss_drop (h : SemE J Γ em Fe te) (hx : Gx J Γ) : SemS J Γ Γ (dropS Fe) (tDrop te) := fun {G0 H0 G H ρ σ D} w p =>
  h w ((p.bind w hx).imp (fun d _ q v G1 H1 P e f o => q.of_nx σ G1 H1 e.g (w.ext e)) fun _ q => q)
def retS (Fe : Ev → Rs Dt) (ρ : Ev) : Ot := bindS (Fe ρ) ρ fun d => .rt d
theorem ss_ret (h : SemE J Γ (.o J.mr) Fe te) (hx : Gx J Γ) : SemS J Γ Γ' (retS Fe) (tRet te) := fun {G0 H0 G H ρ σ D} w p =>
  h w ((p.bind w hx).imp (fun d _ q v G1 H1 P e f o => q.of_rt v G1 H1 P (w.x.trans e) (fun b hb => ⟨(f b hb).1, w.x.h.free (f b hb).2.1, (f b hb).2.2⟩) o) fun _ q => q)
/-- an owned name handed back -/
theorem ss_retV {i : Nat} (hm : Γ[i]? = some J.mr) : SemS J Γ Γ' (retS (varE i)) (tRet (tVar i)) := fun {G0 H0 G H ρ σ D} w p => by
  unfold retS at p
  unfold varE at p
  cases q : ρ[i]? with
  | none => rw [q] at p; cases p
  | some o =>
  cases o with
  | none => rw [q] at p; cases p
  | some d =>
  rw [q] at p
  obtain ⟨Pf, h1, h2, h3⟩ := w.env
  obtain ⟨v, m', s1, s2, s3⟩ := h3 i d q
  rw [hm] at s2
  cases s2
  exact ⟨v, s1, PostS.of_rt p v G H (Pf i) w.x (fun b hb => h2 i b hb) s3⟩
def retN (_ : Ev) : Ot := .rt .non
theorem ss_retN (hm : J.mr = .F) : SemS J Γ Γ' retN tRetN := fun {G0 H0 G H ρ σ D} w p => p.of_rt .non G H Pno w.x Fr.no (by rw [hm]; exact .F .non)
def ifS (Ft : Ev → Rs Bool) (F1 F2 : Ev → Ot) (ρ : Ev) : Ot := bindS (Ft ρ) ρ fun b => if b = true then F1 ρ else F2 ρ
theorem ss_if {Ft : Ev → Rs Bool} {tt : TT} (h : SemT J Γ Ft tt) (k : SemS J Γ Γ' F1 t1) (l : SemS J Γ Γ' F2 t2) (hx : Gx J Γ) : SemS J Γ Γ' (ifS Ft F1 F2) (tIfS tt t1 t2) := fun {G0 H0 G H ρ σ D} w p =>
  h w ((p.bind w hx).imp (fun b _ q G1 H1 e => by
    cases b with
    | true => exact k (w.ext e) (PostS.up e.g q)
    | false => exact l (w.ext e) (PostS.up e.g q)) fun _ q => q)
def brkS (ρ : Ev) : Ot := .bk ρ
def cntS (ρ : Ev) : Ot := .ct ρ
theorem ss_brk (hb : J.gb = Γ) : SemS J Γ Γ' brkS tBreak := fun {G0 H0 G H ρ σ D} w p => by
  cases p with
  | bk p => exact p σ G H (Same.refl _) (by rw [hb]; exact w)
theorem ss_cnt (hb : J.gb = Γ) : SemS J Γ Γ' cntS tCont := fun {G0 H0 G H ρ σ D} w p => by
  cases p with
  | ct p => exact p σ G H (Same.refl _) (by rw [hb]; exact w)
def raiS (c : Str) (ρ : Ev) : Ot := .ex (c, none) ρ
theorem ss_rai {c : Str} (hx : Gx J Γ) : SemS J Γ Γ' (raiS c) (fun _ σ H => J.W (.ref (J.ca c)) none σ H) := fun {G0 H0 G H ρ σ D} w p => exS w hx p H none (Same.refl _) rfl
/-- what stands behind a return, a raise -/
theorem ss_any (h : SemS J Γ Γ1 F ts) (hn : ∀ ρ ρ', F ρ ≠ .nx ρ') : SemS J Γ Γ2 F ts := fun {G0 H0 G H ρ σ D} w p => h w (by
  cases q : F ρ with
  | nx r => exact absurd q (hn _ _)
  | rt d => rw [q] at p; cases p with | rt p => exact .rt p
  | bk d => rw [q] at p; cases p with | bk p => exact .bk p
  | ct d => rw [q] at p; cases p with | ct p => exact .ct p
  | ex c d => rw [q] at p; cases p with | ex p => exact .ex p
  | no => rw [q] at p; cases p)
/-! ### for -/
def forL (FG : Dt → Ev → Option Ev) (Fb : Ev → Ot) : List Dt → Ev → Ot
  | [], ρ => .nx ρ
  | d :: ds, ρ => match FG d ρ with
    | none => .no
    | some ρ1 => match Fb ρ1 with
      | .nx ρ2 => forL FG Fb ds ρ2
      | .ct ρ2 => forL FG Fb ds ρ2
      | .bk ρ2 => .nx ρ2
      | o => o
def forS (Fi : Ev → Rs (List Dt)) (FG : Dt → Ev → Option Ev) (Fb : Ev → Ot) (ρ : Ev) : Ot := bindS (Fi ρ) ρ fun ds => forL FG Fb ds ρ
abbrev Jc.lp (J : Jc) (Γ : List Mode) : Jc := { J with gb := Γ }
theorem Wd.lp {Γb : List Mode} (w : Wd J G0 H0 Γ ρ σ G H) : Wd (J.lp Γb) G0 H0 Γ ρ σ G H := ⟨w.x, w.lg, w.lr, w.env, w.pn⟩
theorem Wd.unlp {Γb : List Mode} (w : Wd (J.lp Γb) G0 H0 Γ ρ σ G H) : Wd J G0 H0 Γ ρ σ G H := ⟨w.x, w.lg, w.lr, w.env, w.pn⟩
theorem ss_for {Fi : Ev → Rs (List Dt)} {wi : TI} {FG : Dt → Ev → Option Ev} {g : TG} (hi : SemI J Γ Fi wi) (hg : SemG (J.lp Γ) Γ vs FG g) (hb : SemS (J.lp Γ) Γ Γ F ts) (hx : Gx J Γ) : SemS J Γ Γ (forS Fi FG F) (tFor wi g ts) := fun {G0 H0 G H ρ σ D} w p => by
  refine hi w ((p.bind w hx).imp (fun ds _ q it G1 H1 e1 wk => ?_) fun _ q => q)
  refine ⟨fun i n σ' Hi => n = ds.length - i ∧ i ≤ ds.length ∧ ∃ G' ρ', Wd J G0 H0 Γ ρ' σ' G' Hi ∧ Same G1 G' ∧ PostS J G0 H0 G' Γ D (forL FG F (ds.drop i) ρ'), ⟨ds.length, by simp, Nat.zero_le _, G1, ρ, w.ext e1, Same.refl _, by simpa using PostS.up e1.g q⟩, ?_⟩
  rintro i n σ' Hi ⟨rfl, hi', G', ρ', w', sg, q'⟩
  by_cases hlt : i < ds.length
  case neg =>
    have ei : i = ds.length := by omega
    subst ei
    rw [List.drop_length] at q'
    exact .inl ⟨wk.stop G' Hi sg w'.gh, PostS.of_nx q' σ' G' Hi (Same.refl _) w'⟩
  obtain ⟨go, step⟩ := wk.go i ds[i] G' Hi (by simp [hlt]) sg w'.gh
  have hdrop : ds.drop i = ds[i] :: ds.drop (i + 1) := List.drop_eq_getElem_cons hlt
  rw [hdrop] at q'
  have q' : PostS J G0 H0 G' Γ D (match FG ds[i] ρ' with
    | none => .no
    | some ρ1 => match F ρ1 with
      | .nx ρ2 => forL FG F (ds.drop (i + 1)) ρ2
      | .ct ρ2 => forL FG F (ds.drop (i + 1)) ρ2
      | .bk ρ2 => .nx ρ2
      | o => o) := q'
  refine .inr ⟨go, fun σ2 H2 => ∃ m', m' < ds.length - i ∧ (m' = ds.length - (i + 1) ∧ i + 1 ≤ ds.length ∧ ∃ G' ρ', Wd J G0 H0 Γ ρ' σ2 G' H2 ∧ Same G1 G' ∧ PostS J G0 H0 G' Γ D (forL FG F (ds.drop (i + 1)) ρ')), fun σ2 H2 z => z, fun x H3 y => ?_⟩
  obtain ⟨G3, e3, rx⟩ := step x H3 y
  cases hF : FG ds[i] ρ' with
  | none => rw [hF] at q'; cases q'
  | some ρ1 =>
  rw [hF] at q'
  refine hg (w'.ext e3).lp rx hF fun σ2 _ w4 => ?_
  refine hb w4 ?_
  have q' : PostS J G0 H0 G' Γ D (match F ρ1 with
      | .nx ρ2 => forL FG F (ds.drop (i + 1)) ρ2
      | .ct ρ2 => forL FG F (ds.drop (i + 1)) ρ2
      | .bk ρ2 => .nx ρ2
      | o => o) := q'
  have q' := q'.up e3.g
  have nxt : ∀ ρ2, PostS J G0 H0 G3 Γ D (forL FG F (ds.drop (i + 1)) ρ2) → ∀ σ5 G5 H5, Same G3 G5 → Wd (J.lp Γ) G0 H0 Γ ρ2 σ5 G5 H5 → ∃ m', m' < ds.length - i ∧ (m' = ds.length - (i + 1) ∧ i + 1 ≤ ds.length ∧ ∃ G' ρ', Wd J G0 H0 Γ ρ' σ5 G' H5 ∧ Same G1 G' ∧ PostS J G0 H0 G' Γ D (forL FG F (ds.drop (i + 1)) ρ')) := fun ρ2 p σ5 G5 H5 s5 w5 =>
    ⟨ds.length - (i + 1), by omega, rfl, hlt, G5, ρ2, w5.unlp, (sg.trans e3.g).trans s5, p.up s5⟩
  cases hB : F ρ1 with
  | nx r =>
    rw [hB] at q'
    exact .nx (nxt r q')
  | rt d =>
    rw [hB] at q'
    cases q' with
    | rt p => exact .rt p
  | bk r =>
    rw [hB] at q'
    exact .bk fun σ5 G5 H5 s5 w5 => PostS.of_nx q' σ5 G5 H5 s5 w5.unlp
  | ct r =>
    rw [hB] at q'
    exact .ct (nxt r q')
  | ex c r =>
    rw [hB] at q'
    cases q' with
    | ex p => exact .ex fun dx σ5 H5 s5 x5 k5 => p dx σ5 H5 s5 x5 fun Γ1 z => (k5 Γ1 z).imp fun _ w5 => ⟨w5.1, w5.2.unlp⟩
  | no => rw [hB] at q'; cases q'
/-! ### while -/
def whlL (Ft : Ev → Rs Bool) (Fb : Ev → Ot) : Nat → Ev → Ot
  | 0, _ => .no
  | n + 1, ρ => bindS (Ft ρ) ρ fun b => if b = true then (match Fb ρ with
    | .nx ρ2 => whlL Ft Fb n ρ2
    | .ct ρ2 => whlL Ft Fb n ρ2
    | .bk ρ2 => .nx ρ2
    | o => o) else .nx ρ
theorem ss_whl {Ft : Ev → Rs Bool} {tt : TT} {n : Nat} (h : SemT J Γ Ft tt) (hb : SemS (J.lp Γ) Γ Γ F ts) (hx : Gx J Γ) : SemS J Γ Γ (whlL Ft F n) (tWhile tt ts) := fun {G0 H0 G H ρ σ D} w p => by
  refine ⟨fun k σ' Hi => ∃ G' ρ', Wd J G0 H0 Γ ρ' σ' G' Hi ∧ PostS J G0 H0 G' Γ D (whlL Ft F k ρ'), ⟨n, G, ρ, w, p⟩, ?_⟩
  rintro k σ' Hi ⟨G', ρ', w', q⟩
  cases k with
  | zero => cases q
  | succ k =>
    refine h w' ((PostS.bind w' hx q).imp (fun b _ q G1 H1 e => ?_) fun _ q => q)
    cases b with
    | false => exact PostS.of_nx q σ' G1 H1 e.g (w'.ext e)
    | true =>
      refine ⟨fun σ2 H2 => ∃ m', m' < k + 1 ∧ ∃ G' ρ', Wd J G0 H0 Γ ρ' σ2 G' H2 ∧ PostS J G0 H0 G' Γ D (whlL Ft F m' ρ'), fun σ2 H2 z => z, ?_⟩
      refine hb (w'.ext e).lp ?_
      have q : PostS J G0 H0 G' Γ D (match F ρ' with
        | .nx ρ2 => whlL Ft F k ρ2
        | .ct ρ2 => whlL Ft F k ρ2
        | .bk ρ2 => .nx ρ2
        | o => o) := q
      have q := q.up e.g
      have nxt : ∀ ρ2, PostS J G0 H0 G1 Γ D (whlL Ft F k ρ2) → ∀ σ5 G5 H5, Same G1 G5 → Wd (J.lp Γ) G0 H0 Γ ρ2 σ5 G5 H5 → ∃ m', m' < k + 1 ∧ ∃ G' ρ', Wd J G0 H0 Γ ρ' σ5 G' H5 ∧ PostS J G0 H0 G' Γ D (whlL Ft F m' ρ') := fun ρ2 p σ5 G5 H5 s5 w5 =>
        ⟨k, by omega, G5, ρ2, w5.unlp, p.up s5⟩
      cases hB : F ρ' with
      | nx r =>
        rw [hB] at q
        exact .nx (nxt r q)
      | rt d =>
        rw [hB] at q
        cases q with
        | rt p => exact .rt p
      | bk r =>
        rw [hB] at q
        exact .bk fun σ5 G5 H5 s5 w5 => PostS.of_nx q σ5 G5 H5 s5 w5.unlp
      | ct r =>
        rw [hB] at q
        exact .ct (nxt r q)
      | ex c r =>
        rw [hB] at q
        cases q with
        | ex p => exact .ex fun dx σ5 H5 s5 x5 k5 => p dx σ5 H5 s5 x5 fun Γ1 z => (k5 Γ1 z).imp fun _ w5 => ⟨w5.1, w5.2.unlp⟩
      | no => rw [hB] at q; cases q
end
end Pm
namespace Pm
open PySem PySem.Spec PyProof.Rows L2
open Classical
/-! ### places: an owned part of a name -/
structure EnvR (J : Jc) (H0 : Hp) (Γ : List Mode) (ρ : Ev) (σ : L2.St) (G H : Hp) : Prop where
  lg : Γ.length = ρ.length
  lr : ρ.length = σ.length
  env : ∃ Pf : Nat → Addr → Prop, (∀ i j a, i ≠ j → Pf i a → ¬ Pf j a) ∧ (∀ i a, Pf i a → G a = none ∧ H0 a = none ∧ H a ≠ none) ∧
    ∀ i d, ρ[i]? = some (some d) → ∃ v m, σ[i]? = some (some v) ∧ Γ[i]? = some m ∧ Ow J.K J.ca G H m d v (Pf i)
/-- the part stands at v, is d, owns P; what takes its place is put by put -/
structure Foc (J : Jc) (H0 : Hp) (Γ : List Mode) (σ : L2.St) (G H : Hp) (m : Mode) (d : Dt) (v : V) (put : Dt → Ev) : Prop where
  ex : ∃ P : Addr → Prop, Ow J.K J.ca G H m d v P ∧ (∀ b, P b → G b = none ∧ H0 b = none ∧ H b ≠ none) ∧
    ∀ G2 H2 d2 P2, Same G G2 → (∀ b, H b ≠ none → ¬ P b → H2 b = H b ∧ G2 b = G b) → Ow J.K J.ca G2 H2 m d2 v P2 → (∀ b, P2 b → (P b ∨ H b = none) ∧ G2 b = none ∧ H0 b = none ∧ H2 b ≠ none) → EnvR J H0 Γ (put d2) σ G2 H2
def SemP (J : Jc) (Γ : List Mode) (F : Ev → Rs (Dt × (Dt → Ev))) (m : Mode) (te : TE) : Prop := ∀ ⦃G0 H0 G H : Hp⦄ ⦃ρ : Ev⦄ ⦃σ : L2.St⦄ ⦃Q : VK⦄, Wd J G0 H0 Γ ρ σ G H →
  Rs.Post (fun x => ∀ v G' H', Ext G H G' H' → Foc J H0 Γ σ G' H' m x.1 v x.2 → Q v H') (fun c => ∀ H' dx, Same H H' → XR c dx H' → J.W (.ref (J.ca c.1)) dx σ H') (F ρ) → te σ H Q
section
variable {J : Jc} {Γ Γ' Γ1 Γ2 : List Mode} {em : EM} {m : Mode} {ms : List Mode} {Fe Fa Fb : Ev → Rs Dt} {Fs : List (Ev → Rs Dt)} {te ta tb : TE} {tr : TA} {G0 H0 Gs G H G' H' : Hp} {ρ : Ev} {σ : L2.St} {vs : List Nat}
  {F F1 F2 : Ev → Ot} {ts t1 t2 : TS} {D : Ends} {d : Dt} {v : V} {put : Dt → Ev}
theorem Foc.ext (f : Foc J H0 Γ σ G H m d v put) (e : Ext G H G' H') : Foc J H0 Γ σ G' H' m d v put := by
  obtain ⟨P, o, r, k⟩ := f.ex
  refine ⟨P, o.carry e.g fun b hb => ⟨e.h.at (r b hb).2.2, by rw [e.base b (r b hb).2.2]; exact (r b hb).1⟩, fun b hb => ⟨by rw [e.base b (r b hb).2.2]; exact (r b hb).1, (r b hb).2.1, e.h.nn (r b hb).2.2⟩, fun G2 H2 d2 P2 sg h1 o2 h2 => ?_⟩
  refine k G2 H2 d2 P2 (e.g.trans sg) (fun b hb hn => ?_) o2 fun b hb => ?_
  · obtain ⟨a1, a2⟩ := h1 b (e.h.nn hb) hn
    exact ⟨a1.trans (e.h.at hb), a2.trans (e.base b hb)⟩
  · obtain ⟨a1, a2⟩ := h2 b hb
    exact ⟨a1.imp id fun z => e.h.free z, a2⟩
def varP (i : Nat) (ρ : Ev) : Rs (Dt × (Dt → Ev)) := match ρ[i]? with
  | some (some d) => .ok (d, fun x => ρ.set i (some x))
  | _ => .no
theorem sp_var {i : Nat} (hm : Γ[i]? = some m) : SemP J Γ (varP i) m (tVar i) := fun {G0 H0 G H ρ σ Q} w p => by
  unfold varP at p
  cases hq : ρ[i]? with
  | none => rw [hq] at p; cases p
  | some o =>
  cases o with
  | none => rw [hq] at p; cases p
  | some d =>
  rw [hq] at p
  obtain ⟨Pf, h1, h2, h3⟩ := w.env
  obtain ⟨v, m', s1, s2, s3⟩ := h3 i d hq
  rw [hm] at s2
  cases s2
  refine ⟨v, s1, p.of_ok v G H (Ext.refl w.gh) ⟨Pf i, s3, h2 i, fun G2 H2 d2 P2 sg k1 o2 k2 => ?_⟩⟩
  have hl : i < ρ.length := (List.getElem?_eq_some_iff.mp hq).1
  refine ⟨by rw [List.length_set]; exact w.lg, by rw [List.length_set]; exact w.lr, fun j => if j = i then P2 else Pf j, fun j k a q r s => ?_, fun j a q => ?_, fun j c q => ?_⟩
  · by_cases hj : j = i
    · by_cases hk : k = i
      · exact q (hj.trans hk.symm)
      · simp only [hj, if_true] at r
        simp only [hk, if_false] at s
        rcases (k2 a r).1 with z | z
        · exact h1 k i a hk s z
        · exact (h2 k a s).2.2 z
    · simp only [hj, if_false] at r
      by_cases hk : k = i
      · simp only [hk, if_true] at s
        rcases (k2 a s).1 with z | z
        · exact h1 j i a hj r z
        · exact (h2 j a r).2.2 z
      · simp only [hk, if_false] at s
        exact h1 j k a q r s
  · by_cases hj : j = i
    · simp only [hj, if_true] at q
      exact (k2 a q).2
    · simp only [hj, if_false] at q
      obtain ⟨a1, a2, a3⟩ := h2 j a q
      obtain ⟨b1, b2⟩ := k1 a a3 (h1 j i a hj q)
      exact ⟨by rw [b2]; exact a1, a2, by rw [b1]; exact a3⟩
  · by_cases hj : j = i
    · subst hj
      rw [List.getElem?_set_self hl] at q
      have hd : d2 = c := by simpa using q
      subst hd
      refine ⟨v, m, s1, hm, ?_⟩
      simp only [if_true]
      exact o2
    · rw [List.getElem?_set_ne (Ne.symm hj)] at q
      obtain ⟨v2, m2, t1, t2, t3⟩ := h3 j c q
      refine ⟨v2, m2, t1, t2, ?_⟩
      simp only [hj, if_false]
      refine t3.carry sg fun b hb => ?_
      obtain ⟨a1, a2, a3⟩ := h2 j b hb
      obtain ⟨b1, b2⟩ := k1 b a3 (h1 j i b hj hb)
      exact ⟨b1, by rw [b2]; exact a1⟩
/-- into the parts of an owned row of parts -/
theorem Ows.focus {K : PySem.W.Frag} {ca : Str → Addr} : ∀ {ds : List Dt} {ms : List Mode} {us : List V} {P : Addr → Prop} {k : Nat} {m : Mode} {d : Dt}, Ows K ca G H ms ds us P → ms[k]? = some m → ds[k]? = some d →
    ∃ v Pk, us[k]? = some v ∧ Ow K ca G H m d v Pk ∧ (∀ b, Pk b → P b) ∧ ∀ G2 H2 d2 P2, Same G G2 → (∀ b, P b → ¬ Pk b → H2 b = H b ∧ G2 b = none) → Ow K ca G2 H2 m d2 v P2 → (∀ b, P2 b → Pk b ∨ ¬ P b) → Ows K ca G2 H2 ms (ds.set k d2) us (fun b => (P b ∧ ¬ Pk b) ∨ P2 b)
  | [], ms, us, P, k, m, d, h, hm, hd => by simp at hd
  | x :: ds, ms, us, P, 0, m, d, h, hm, hd => by
    cases h with
    | @cons m' ms _ _ v us _ P1 P2 h1 h2 q1 q2 q3 =>
      have e1 : m' = m := by simpa using hm
      have e2 : x = d := by simpa using hd
      subst e1 e2
      refine ⟨v, P1, rfl, h1, q1, fun G2 H2 d2 P2' sg c o c2 => ?_⟩
      refine .cons (P1 := P2') (P2 := fun b => P2 b) o (h2.carry sg fun b hb => c b (q2 b hb) fun z => q3 b z hb) (fun b hb => .inr hb) (fun b hb => .inl ⟨q2 b hb, fun z => q3 b z hb⟩) fun b hb z => ?_
      rcases c2 b hb with y | y
      · exact q3 b y z
      · exact y (q2 b z)
  | x :: ds, ms, us, P, k + 1, m, d, h, hm, hd => by
    cases h with
    | @cons m' ms _ _ v us _ P1 P2 h1 h2 q1 q2 q3 =>
      obtain ⟨w, Pk, e1, e2, e3, e4⟩ := Ows.focus (k := k) h2 (by simpa using hm) (by simpa using hd)
      refine ⟨w, Pk, by simpa using e1, e2, fun b hb => q2 b (e3 b hb), fun G2 H2 d2 P2' sg c o c2 => ?_⟩
      have r := e4 G2 H2 d2 (fun b => P2' b) sg (fun b hb hn => c b (q2 b hb) hn) o (fun b hb => (c2 b hb).imp id fun z y => z (q2 b y))
      rw [List.set_cons_succ]
      refine .cons (P1 := P1) (P2 := fun b => (P2 b ∧ ¬ Pk b) ∨ P2' b) (h1.carry sg fun b hb => c b (q1 b hb) fun z => q3 b hb (e3 b z)) r (fun b hb => .inl ⟨q1 b hb, fun z => q3 b hb (e3 b z)⟩) (fun b hb => hb.imp (fun z => ⟨q2 b z.1, z.2⟩) id) fun b hb z => ?_
      rcases z with z | z
      · exact q3 b hb z.1
      · rcases c2 b z with y | y
        · exact q3 b hb (e3 b y)
        · exact y (q1 b hb)
def ixP (Fp : Ev → Rs (Dt × (Dt → Ev))) (Fi : Ev → Rs Dt) (ρ : Ev) : Rs (Dt × (Dt → Ev)) := Fp ρ >>= fun x => Fi ρ >>= fun k => match x.1, k with
  | .lst ds, .int i => (match ixN ds.length i with
    | some j => (match ds[j]? with
      | some e => .ok (e, fun y => x.2 (.lst (ds.set j y)))
      | none => .no)
    | none => .no)
  | _, _ => .no
variable {Fp : Ev → Rs (Dt × (Dt → Ev))}
theorem Foc.item {ds : List Dt} {j : Nat} {e : Dt} (f : Foc J H0 Γ σ G H (.L m) (.lst ds) v put) (hj : ds[j]? = some e) : ∃ a us u, v = .ref a ∧ H a = some (.lst us) ∧ us[j]? = some u ∧ ds.length = us.length ∧ Foc J H0 Γ σ G H m e u (fun y => put (.lst (ds.set j y))) := by
  obtain ⟨P, o, r, k⟩ := f.ex
  cases o with
  | @L _ a us _ _ h1 h2 h3 h4 =>
    obtain ⟨u, Pk, q1, q2, q3, q4⟩ := h4.focus (k := j) (m := m) (by
      rw [List.getElem?_replicate, if_pos (List.getElem?_eq_some_iff.mp hj).1]) hj
    refine ⟨a, us, u, rfl, h1, q1, h4.len.1, Pk, q2, fun b hb => r b (q3 b hb).1, fun G2 H2 d2 P2 sg c o2 c2 => ?_⟩
    have ha : ¬ Pk a := fun z => (q3 a z).2 rfl
    have hna : H a ≠ none := by rw [h1]; exact fun z => by cases z
    have p2a : ∀ b, P2 b → b ≠ a := fun b hb z => by
      rcases (c2 b hb).1 with y | y
      · exact ha (z ▸ y)
      · exact hna (z ▸ y)
    have rest := q4 G2 H2 d2 P2 sg (fun b hb hn => ⟨(c b (r b hb.1).2.2 hn).1, by rw [(c b (r b hb.1).2.2 hn).2]; exact (r b hb.1).1⟩) o2 fun b hb => (c2 b hb).1.imp id fun z y => (r b y.1).2.2 z
    refine k G2 H2 (.lst (ds.set j d2)) (fun b => (P b ∧ ¬ Pk b) ∨ P2 b) sg (fun b hb hn => c b hb fun z => hn (q3 b z).1) (.L (by rw [(c a hna ha).1]; exact h1) (by rw [(c a hna ha).2]; exact h2) (.inl ⟨h3, ha⟩) ?_) fun b hb => ?_
    · rw [List.length_set]
      refine rest.weaken fun b hb => ?_
      rcases hb with ⟨⟨z1, z2⟩, z3⟩ | z
      · exact ⟨.inl ⟨z1, z3⟩, z2⟩
      · exact ⟨.inr z, p2a b z⟩
    · rcases hb with ⟨z1, z2⟩ | z
      · obtain ⟨a1, a2, a3⟩ := r b z1
        obtain ⟨b1, b2⟩ := c b a3 z2
        exact ⟨.inl z1, by rw [b2]; exact a1, a2, by rw [b1]; exact a3⟩
      · exact ⟨(c2 b z).1.imp (fun y => (q3 b y).1) id, (c2 b z).2⟩
theorem sp_ix {ti : TE} {Fi : Ev → Rs Dt} (h : SemP J Γ Fp (.L m) te) (k : SemE J Γ .B Fi ti) : SemP J Γ (ixP Fp Fi) m (tOp (rIx J.K) te ti) := fun {G0 H0 G H ρ σ Q} w p => by
  refine h w (p.bind.imp (fun x _ q v G1 H1 e1 f1 => ?_) fun _ q => q)
  refine k (w.ext e1) (Rs.Post.imp (Rs.Post.bind q) (fun i _ q u G2 H2 _ e2 _ ri => ?_) fun _ q H' dx s => q H' dx (e1.h.trans s))
  obtain ⟨xd, xp⟩ := x
  have f2 := f1.ext e2
  cases ri with
  | int i =>
    cases xd with
    | lst ds =>
      have q : Rs.Post _ _ (match ixN ds.length i with
        | some j => (match ds[j]? with
          | some e => Rs.ok (e, fun y => xp (.lst (ds.set j y)))
          | none => Rs.no)
        | none => Rs.no) := q
      cases hj : ixN ds.length i with
      | none => rw [hj] at q; cases q
      | some j =>
        rw [hj] at q
        cases he : ds[j]? with
        | none => simp only [he] at q; cases q
        | some e =>
          simp only [he] at q
          obtain ⟨a, us, z, rfl, h1, h2, h3, h4⟩ := f2.item he
          exact .inl ⟨a, us, i, z, rfl, rfl, .of h1, by unfold atI; rw [← h3, hj]; exact h2, q.of_ok z G2 H2 (e1.trans e2) h4⟩
    | _ => cases q
  | _ => cases xd <;> cases q
/-- an owned list is changed -/
theorem Foc.chg {ds : List Dt} (f : Foc J H0 Γ σ G H (.L m) (.lst ds) v put) (w : Wd J G0 H0 Γ ρ σ G H) (e : Ext G H G' H') : ∃ a us Pin, v = .ref a ∧ H' a = some (.lst us) ∧ Ows J.K J.ca G' H' (List.replicate ds.length m) ds us Pin ∧ (∀ b, Pin b → H b ≠ none ∧ b ≠ a ∧ G' b = none ∧ H' b ≠ none) ∧
    ∀ ds' us' Px, Ows J.K J.ca G' H' (List.replicate ds'.length m) ds' us' Px → (∀ b, Px b → b ≠ a ∧ (Pin b ∨ (H b = none ∧ G' b = none ∧ H' b ≠ none))) → Wd J G0 H0 Γ (put (.lst ds')) σ G' (upd H' a (.lst us')) := by
  obtain ⟨P, o, r, k⟩ := f.ex
  cases o with
  | @L _ a us _ _ h1 h2 h3 h4 =>
    have hna : H a ≠ none := by rw [h1]; exact fun z => by cases z
    have gpa : G' a = none := by rw [e.base a hna]; exact h2
    have c4 : Ows J.K J.ca G' H' (List.replicate ds.length m) ds us (fun b => P b ∧ b ≠ a) := h4.carry e.g fun b hb => ⟨e.h.at (r b hb.1).2.2, by rw [e.base b (r b hb.1).2.2]; exact (r b hb.1).1⟩
    refine ⟨a, us, fun b => P b ∧ b ≠ a, rfl, e.h _ _ h1, c4, fun b hb => ⟨(r b hb.1).2.2, hb.2, by rw [e.base b (r b hb.1).2.2]; exact (r b hb.1).1, e.h.nn (r b hb.1).2.2⟩, fun ds' us' Px o' c => ?_⟩
    have reg : ∀ b, (b = a ∨ Px b) → (P b ∨ H b = none) ∧ G' b = none ∧ H0 b = none ∧ (upd H' a (.lst us')) b ≠ none := fun b hb => by
      by_cases z : b = a
      · subst z
        exact ⟨.inl h3, gpa, (r b h3).2.1, by rw [upd_same]; exact fun z => by cases z⟩
      · rcases hb with hb | hb
        · exact absurd hb z
        · rw [upd_ne z]
          rcases (c b hb).2 with y | ⟨y1, y2, y3⟩
          · exact ⟨.inl y.1, by rw [e.base b (r b y.1).2.2]; exact (r b y.1).1, (r b y.1).2.1, e.h.nn (r b y.1).2.2⟩
          · exact ⟨.inr y1, y2, w.x.h.free y1, y3⟩
    have en := k G' (upd H' a (.lst us')) (.lst ds') (fun b => b = a ∨ Px b) e.g (fun b hb hn => ⟨by rw [upd_ne fun z => hn (by rw [z]; exact h3)]; exact e.h.at hb, e.base b hb⟩) (.L upd_same gpa (.inl rfl) ((o'.carry (Same.refl _) fun b hb => ⟨upd_ne (c b hb).1, ?_⟩).weaken fun b hb => ⟨.inr hb, (c b hb).1⟩)) reg
    · exact ⟨(w.x.trans e).mut (r a h3).2.1 gpa, en.lg, en.lr, en.env, w.pn⟩
    · rcases (c b hb).2 with y | ⟨y1, y2, y3⟩
      · rw [e.base b (r b y.1).2.2]; exact (r b y.1).1
      · exact y2
/-! ### statements that change a list -/
def lstOf (d : Dt) : Rs (List Dt) := match d with
  | .lst ds => .ok ds
  | _ => .no
/-- P.append(e) -/
def appS (Fp : Ev → Rs (Dt × (Dt → Ev))) (Fe : Ev → Rs Dt) (ρ : Ev) : Ot := bindS (Fp ρ) ρ fun x => match x.1 with
  | .lst ds => bindS (Fe ρ) ρ fun y => if lenSz ds.length = true then .nx (x.2 (.lst (ds ++ [y]))) else .no
  | _ => .no
theorem lenSz_lt {n : Nat} (h : lenSz n = true) : n < sizeLine := Nat.lt_of_le_of_lt (lenSz_le h) (by decide)
theorem ss_app (h : SemP J Γ Fp (.L m) te) (k : SemE J Γ (.o m) Fe ta) (hx : Gx J Γ) : SemS J Γ Γ (appS Fp Fe) (tDrop (tBM J.K "list" rAppend te (tCons ta tNil))) := fun {G0 H0 G H ρ σ D} w p => by
  refine h w ((PostS.bind w hx p).imp (fun x _ q v G1 H1 e1 f1 => ?_) fun _ q => q)
  obtain ⟨xd, xp⟩ := x
  have w1 := w.ext e1
  cases xd with
  | lst ds =>
    have q : PostS J G0 H0 G1 Γ D (bindS (Fe ρ) ρ fun y => if lenSz ds.length = true then .nx (xp (.lst (ds ++ [y]))) else .no) := q.up e1.g
    obtain ⟨a, us, Pin, rfl, hu, _⟩ := f1.chg w1 (Ext.refl w1.gh)
    refine ⟨.inl ⟨rfl, us, .of hu⟩, ?_⟩
    refine k w1 ((PostS.bind w1 hx q).imp (fun y _ q y' G2 H2 P2 e2 f2 o2 => ?_) fun _ q => q)
    obtain ⟨a', us', Pin', ea, hu', own, pr, fin⟩ := f1.chg w1 e2
    cases ea
    have q : PostS J G0 H0 G1 Γ D (if lenSz ds.length = true then .nx (xp (.lst (ds ++ [y]))) else .no) := q
    by_cases c : lenSz ds.length = true
    case neg => rw [if_neg c] at q; cases q
    rw [if_pos c] at q
    refine ⟨a, us', y', rfl, rfl, hu', by rw [← own.len.1]; exact lenSz_lt c, ?_⟩
    refine q.of_nx σ G2 _ e2.g (fin (ds ++ [y]) (us' ++ [y']) (fun b => Pin' b ∨ P2 b) ?_ fun b hb => ?_)
    · rw [List.length_append, List.length_singleton, List.replicate_succ']
      refine Ows.append (P1 := Pin') (P2 := P2) own (.cons (P1 := P2) (P2 := Pno) o2 .nil (fun _ z => z) (fun _ z => z.elim) (fun _ _ z => z)) (fun _ => .inl) (fun _ => .inr) fun b h1 h2 => ?_
      exact (pr b h1).1 (f2 b h2).2.1
    · rcases hb with hb | hb
      · exact ⟨(pr b hb).2.1, .inl hb⟩
      · refine ⟨fun z => ?_, .inr ⟨(f2 b hb).2.1, (f2 b hb).1, (f2 b hb).2.2⟩⟩
        have := (f2 b hb).2.1
        rw [z] at this
        exact absurd (e1.h.free this) (by
          intro _
          rw [hu] at this
          cases this)
  | _ => cases q
end
end Pm
namespace Pm
open PySem PySem.Spec PyProof.Rows L2
open Classical
/-! ### P[e] = v, v frozen -/
def setS (Fe : Ev → Rs Dt) (Fp : Ev → Rs (Dt × (Dt → Ev))) (Fi : Ev → Rs Dt) (ρ : Ev) : Ot := bindS (Fe ρ) ρ fun y => bindS (Fp ρ) ρ fun x => bindS (Fi ρ) ρ fun k => match x.1, k with
  | .lst ds, .int i => (match ixN ds.length i with
    | some j => .nx (x.2 (.lst (ds.set j y)))
    | none => .no)
  | _, _ => .no
section
variable {J : Jc} {Γ Γ' Γ1 Γ2 : List Mode} {em : EM} {m : Mode} {ms : List Mode} {Fe Fa Fb Fi : Ev → Rs Dt} {Fs : List (Ev → Rs Dt)} {te ta tb ti : TE} {tr : TA} {G0 H0 Gs G H G' H' : Hp} {ρ : Ev} {σ : L2.St} {vs : List Nat}
  {F F1 F2 : Ev → Ot} {ts t1 t2 : TS} {D : Ends} {d : Dt} {v : V} {put : Dt → Ev} {Fp : Ev → Rs (Dt × (Dt → Ev))}
theorem Rps.set {K : PySem.W.Frag} {ca : Str → Addr} : ∀ {ds : List Dt} {us : List V} {j : Nat} {d : Dt} {v : V}, Rps K ca H ds us → Rp K ca H d v → Rps K ca H (ds.set j d) (us.set j v)
  | [], _, j, _, _, h, _ => by cases h; exact .nil
  | x :: ds, _, 0, d, v, h, r => by
    cases h with
    | cons h1 h2 => exact .cons r h2
  | x :: ds, _, j + 1, d, v, h, r => by
    cases h with
    | cons h1 h2 => exact .cons h1 (Rps.set h2 r)
theorem ss_set (h : SemE J Γ (.o .F) Fe te) (k : SemP J Γ Fp (.L .F) ta) (l : SemE J Γ .B Fi ti) (hx : Gx J Γ) : SemS J Γ Γ (setS Fe Fp Fi) (tAsg te (gSub ta ti rSetL)) := fun {G0 H0 G H ρ σ D} w p => by
  refine h w ((PostS.bind w hx p).imp (fun y _ q v G1 H1 _ e1 _ o1 => ?_) fun _ q => q)
  have w1 := w.ext e1
  refine k w1 ((PostS.bind w1 hx (PostS.up e1.g q)).imp (fun x _ q v2 G2 H2 e2 f2 => ?_) fun _ q => q)
  have w2 := w1.ext e2
  refine l w2 ((PostS.bind w2 hx (PostS.up e2.g q)).imp (fun i _ q v3 G3 H3 _ e3 _ o3 => ?_) fun _ q => q)
  obtain ⟨xd, xp⟩ := x
  cases o1 with
  | F o1 =>
  cases o3 with
  | int i =>
    cases xd with
    | lst ds =>
      have q : PostS J G0 H0 G2 Γ D (match ixN ds.length i with
        | some j => .nx (xp (.lst (ds.set j y)))
        | none => .no) := q
      cases hj : ixN ds.length i with
      | none => rw [hj] at q; cases q
      | some j =>
        rw [hj] at q
        obtain ⟨a, us, Pin, rfl, hu, own, pr, fin⟩ := f2.chg w2 e3
        refine ⟨a, us, i, j, rfl, rfl, hu, by rw [← own.len.1]; exact hj, ?_⟩
        exact q.of_nx σ G3 _ e3.g (fin (ds.set j y) (us.set j v) Pno (Rps.own ((own.frozen).set (o1.mono (e2.g.trans e3.g)))) fun b z => z.elim)
    | _ => cases q
  | _ => cases xd <;> cases q
/-! ### fields -/
def fix (f : Str) : List Str → Option Nat
  | [] => none
  | g :: r => if f = g then some 0 else (fix f r).map (· + 1)
theorem fix_lookup {f : Str} : ∀ {ns : List Str} {us : List V} {j : Nat} {u : V}, fix f ns = some j → us[j]? = some u → (ns.zip us).lookup f = some u
  | [], _, _, _, h, _ => by cases h
  | g :: r, [], j, u, h, e => by simp at e
  | g :: r, x :: us, j, u, h, e => by
    unfold fix at h
    show (match f == g with | true => some x | false => (r.zip us).lookup f) = some u
    by_cases q : f = g
    · rw [if_pos q] at h
      cases h
      rw [show (f == g) = true from beq_iff_eq.mpr q]
      simpa using e
    · rw [if_neg q] at h
      cases z : fix f r with
      | none => rw [z] at h; cases h
      | some i =>
        rw [z] at h
        cases h
        rw [show (f == g) = false from beq_eq_false_iff_ne.mpr q]
        exact fix_lookup z (by simpa using e)
theorem fix_get {f : Str} : ∀ {ns : List Str} {j : Nat}, fix f ns = some j → ns[j]? = some f
  | [], _, h => by cases h
  | g :: r, j, h => by
    unfold fix at h
    by_cases q : f = g
    · rw [if_pos q] at h
      cases h
      simp [q]
    · rw [if_neg q] at h
      cases z : fix f r with
      | none => rw [z] at h; cases h
      | some i =>
        rw [z] at h
        cases h
        simpa using fix_get z
theorem fix_putN {f : Str} {y : V} : ∀ {ns : List Str} {us : List V}, ns.length = us.length → fix f ns = none → putF f y (ns.zip us) = (ns ++ [f]).zip (us ++ [y])
  | [], [], _, _ => rfl
  | g :: r, x :: us, hl, h => by
    unfold fix at h
    by_cases q : f = g
    · rw [if_pos q] at h; cases h
    · rw [if_neg q] at h
      cases z : fix f r with
      | some i => rw [z] at h; cases h
      | none =>
        show (if g = f then (g, y) :: r.zip us else (g, x) :: putF f y (r.zip us)) = _
        rw [if_neg fun e => q e.symm, fix_putN (by simpa using hl) z]
        rfl
theorem fix_putO {f : Str} {y : V} : ∀ {ns : List Str} {us : List V} {j : Nat}, ns.length = us.length → fix f ns = some j → putF f y (ns.zip us) = ns.zip (us.set j y)
  | [], _, _, _, h => by cases h
  | g :: r, [], _, hl, _ => by simp at hl
  | g :: r, x :: us, j, hl, h => by
    unfold fix at h
    by_cases q : f = g
    · rw [if_pos q] at h
      cases h
      show (if g = f then (g, y) :: r.zip us else _) = _
      rw [if_pos q.symm]
      rfl
    · rw [if_neg q] at h
      cases z : fix f r with
      | none => rw [z] at h; cases h
      | some i =>
        rw [z] at h
        cases h
        show (if g = f then (g, y) :: r.zip us else (g, x) :: putF f y (r.zip us)) = _
        rw [if_neg fun e => q e.symm, fix_putO (by simpa using hl) z]
        rfl
def fldD (C f : Str) (d : Dt) : Rs Dt := match d with
  | .ins C' ns ds => if C' = C then (match fix f ns with
    | some j => (match ds[j]? with | some e => .ok e | none => .no)
    | none => .no) else .no
  | _ => .no
def fldE (C f : Str) := op1E (fldD C f)
theorem fld_run {K : PySem.W.Frag} {ca : Str → Addr} {C f : Str} {d e : Dt} {v : V} (r : Rp K ca H d v) (q : fldD C f d = .ok e) : ∃ a dx fs u, v = .ref a ∧ H a = some (.ins (ca C) dx fs) ∧ fs.lookup f = some u ∧ Rp K ca H e u := by
  cases r with
  | @ins C' a dx ns us ds h1 h2 h3 =>
    replace q : (if C' = C then (match fix f ns with
      | some j => (match ds[j]? with | some e => Rs.ok e | none => .no)
      | none => .no) else .no) = .ok e := q
    split at q
    · rename_i hC
      subst hC
      cases z : fix f ns with
      | none => rw [z] at q; cases q
      | some j =>
        rw [z] at q
        cases z2 : ds[j]? with
        | none => simp only [z2] at q; cases q
        | some e' =>
          simp only [z2] at q
          cases q
          obtain ⟨u, hu, ru⟩ := h3.get z2
          exact ⟨a, dx, _, u, rfl, h1, fix_lookup z hu, ru⟩
    · cases q
  | _ => cases q
theorem nx_fld {C f : Str} : ∀ a c, fldD C f a ≠ .ex c := by
  intro a c
  unfold fldD
  split
  · split
    · split
      · split <;> intro q <;> cases q
      · intro q; cases q
    · intro q; cases q
  · intro q; cases q
theorem se_fld {C f : Str} (cl : Cls J.K (J.ca C)) (na : NoAttr J.K (J.ca C) f) (h : SemE J Γ (.o .F) Fe te) : SemE J Γ (.o .F) (fldE C f Fe) (tFld J.K te f) := fun {G0 H0 G H ρ σ Q} w p => by
  refine h w (p.bind.imp (fun d _ q v G1 H1 _ e1 _ r1 => ?_) fun _ q => q)
  cases r1 with
  | F r1 =>
    cases z : fldD C f d with
    | ok e =>
      rw [z] at q
      obtain ⟨a, dx, fs, u, rfl, h1, h2, h3⟩ := fld_run r1 z
      exact ⟨a, J.ca C, dx, fs, u, rfl, e1.gh _ _ h1, cl, na, h2, q.of_ok u G1 H1 Pno e1 Fr.no (.F h3)⟩
    | ex c => exact absurd z (nx_fld d c)
    | no => rw [z] at q; cases q
theorem se_fldB {C f : Str} (cl : Cls J.K (J.ca C)) (na : NoAttr J.K (J.ca C) f) (h : SemE J Γ .B Fe te) : SemE J Γ .B (fldE C f Fe) (tFld J.K te f) := fun {G0 H0 G H ρ σ Q} w p => by
  refine h w (p.bind.imp (fun d _ q v G1 H1 _ e1 _ r1 => ?_) fun _ q => q)
  cases z : fldD C f d with
  | ok e =>
    rw [z] at q
    obtain ⟨a, dx, fs, u, rfl, h1, h2, h3⟩ := fld_run r1 z
    exact ⟨a, J.ca C, dx, fs, u, rfl, h1, cl, na, h2, q.of_ok u G1 H1 Pno e1 Fr.no h3⟩
  | ex c => exact absurd z (nx_fld d c)
  | no => rw [z] at q; cases q
/-- a field of the owned self: a frozen one -/
def fldID (C f : Str) (j : Nat) (d : Dt) : Rs Dt := match d with
  | .ins C' ns ds => if C' = C then (if fix f ns = some j then (match ds[j]? with | some e => .ok e | none => .no) else .no) else .no
  | _ => .no
def fldIE (C f : Str) (j i : Nat) (ρ : Ev) : Rs Dt := varE i ρ >>= fldID C f j
theorem Ows.at {K : PySem.W.Frag} {ca : Str → Addr} {ds : List Dt} {us : List V} {P : Addr → Prop} {k : Nat} (h : Ows K ca G H ms ds us P) (hm : ms[k]? = some m) (hd : ds[k]? = some d) : ∃ v Pk, us[k]? = some v ∧ Ow K ca G H m d v Pk := by
  obtain ⟨v, Pk, a, b, _⟩ := h.focus hm hd
  exact ⟨v, Pk, a, b⟩
theorem fldI_run {C f : Str} {j i : Nat} (w : Wd J G0 H0 Γ ρ σ G H) (hm : Γ[i]? = some (.I ms)) {e : Dt} (q : fldIE C f j i ρ = .ok e) (hj : ms[j]? = some m) : ∃ a dx fs u P, σ[i]? = some (some (.ref a)) ∧ H a = some (.ins (J.ca C) dx fs) ∧ fs.lookup f = some u ∧ Ow J.K J.ca G H m e u P := by
  obtain ⟨d, q1, q2⟩ := bind_ok q
  obtain ⟨v, m', P, s1, s2, s3, _⟩ := w.get (varE_ok q1)
  rw [hm] at s2
  cases s2
  cases s3 with
  | @I _ C' a dx ns us ds _ h1 h2 h3 h4 h5 =>
    replace q2 : (if C' = C then (if fix f ns = some j then (match ds[j]? with | some e => Rs.ok e | none => .no) else .no) else .no) = .ok e := q2
    split at q2
    · rename_i hC
      subst hC
      split at q2
      · rename_i hf
        cases z2 : ds[j]? with
        | none => simp only [z2] at q2; cases q2
        | some e' =>
          simp only [z2] at q2
          cases q2
          obtain ⟨u, Pk, hu, ou⟩ := h5.at hj z2
          exact ⟨a, dx, _, u, Pk, s1, h1, fix_lookup hf hu, ou⟩
      · cases q2
    · cases q2
theorem nx_fldI {C f : Str} {j i : Nat} : ∀ c, fldIE C f j i ρ ≠ .ex c := by
  intro c
  unfold fldIE varE
  split
  · show fldID _ _ _ _ ≠ _
    unfold fldID
    split
    · split
      · split
        · split <;> intro q <;> cases q
        · intro q; cases q
      · intro q; cases q
    · intro q; cases q
  · intro q; cases q
theorem se_fldI {C f : Str} {j i : Nat} (cl : Cls J.K (J.ca C)) (na : NoAttr J.K (J.ca C) f) (hm : Γ[i]? = some (.I ms)) (hj : ms[j]? = some .F) : SemE J Γ (.o .F) (fldIE C f j i) (tFld J.K (tVar i) f) := fun {G0 H0 G H ρ σ Q} w p => by
  cases z : fldIE C f j i ρ with
  | ok e =>
    rw [z] at p
    obtain ⟨a, dx, fs, u, P, s1, h1, h2, o⟩ := fldI_run w hm z hj
    cases o with
    | F o => exact ⟨_, s1, a, J.ca C, dx, fs, u, rfl, h1, cl, na, h2, p.of_ok u G H Pno (Ext.refl w.gh) Fr.no (.F o)⟩
  | ex c => exact absurd z (nx_fldI c)
  | no => rw [z] at p; cases p
theorem se_fldIS {C f : Str} {j i : Nat} (cl : Cls J.K (J.ca C)) (na : NoAttr J.K (J.ca C) f) (hm : Γ[i]? = some (.I ms)) (hj : ms[j]? = some (.L .F)) : SemE J Γ .S (fldIE C f j i) (tFld J.K (tVar i) f) := fun {G0 H0 G H ρ σ Q} w p => by
  cases z : fldIE C f j i ρ with
  | ok e =>
    rw [z] at p
    obtain ⟨a, dx, fs, u, P, s1, h1, h2, o⟩ := fldI_run w hm z hj
    exact ⟨_, s1, a, J.ca C, dx, fs, u, rfl, h1, cl, na, h2, p.of_ok u G H Pno (Ext.refl w.gh) Fr.no (res_S w.gh o)⟩
  | ex c => exact absurd z (nx_fldI c)
  | no => rw [z] at p; cases p
/-- self.f = e, a new field of the owned self (slot i) -/
def newF0 (f : Str) (i : Nat) (Fe : Ev → Rs Dt) (ρ : Ev) : Ot := bindS (Fe ρ) ρ fun y => bindS (varE i ρ) ρ fun d => match d with
  | .ins C ns ds => if fix f ns = none ∧ ns.length < 100 then .nx (ρ.set i (some (.ins C (ns ++ [f]) (ds ++ [y])))) else .no
  | _ => .no
def newF (C f : Str) (i : Nat) (Fe : Ev → Rs Dt) (ρ : Ev) : Ot := bindS (varE i ρ) ρ fun d => match d with
  | .ins C' _ _ => if C' = C then newF0 f i Fe ρ else .no
  | _ => .no
theorem ss_newF {C f : Str} {i : Nat} (cl : Cls J.K (J.ca C)) (na : NoAttr J.K (J.ca C) f) (hm : Γ[i]? = some (.I ms)) (h : SemE J Γ (.o m) Fe te) (hx : Gx J Γ) :
    SemS J Γ (Γ.set i (.I (ms ++ [m]))) (newF C f i Fe) (sFld J.K (tVar i) te f) := fun {G0 H0 G H ρ σ D} w p => by
  replace p := PostS.bind w hx p
  cases hv : varE i ρ with
  | ex c => unfold varE at hv; split at hv <;> cases hv
  | no => rw [hv] at p; cases p
  | ok d =>
  rw [hv] at p
  replace p := p.of_ok
  have hq := varE_ok hv
  obtain ⟨Pf, h1, h2, h3⟩ := w.env
  obtain ⟨v, m', s1, s2, s3⟩ := h3 i d hq
  rw [hm] at s2
  cases s2
  cases s3 with
  | @I _ C' a dx ns us ds _ k1 k2 k3 k4 k5 =>
    replace p : PostS J G0 H0 G (Γ.set i (.I (ms ++ [m]))) D (if C' = C then newF0 f i Fe ρ else .no) := p
    by_cases hC : C' = C
    case neg => rw [if_neg hC] at p; cases p
    rw [if_pos hC] at p
    subst hC
    unfold newF0 at p
    refine h w ((PostS.bind w hx p).imp (fun y _ q u G1 H1 P1 e1 f1 o1 => ?_) fun _ q => q)
    replace q : PostS J G0 H0 G (Γ.set i (.I (ms ++ [m]))) D (if fix f ns = none ∧ ns.length < 100 then .nx (ρ.set i (some (.ins C' (ns ++ [f]) (ds ++ [y])))) else .no) := by
      rw [hv] at q
      exact q
    by_cases hf : fix f ns = none ∧ ns.length < 100
    case neg => rw [if_neg hf] at q; cases q
    rw [if_pos hf] at q
    have hna : H a ≠ none := by rw [k1]; exact fun z => by cases z
    have ga : G1 a = none := by rw [e1.base a hna]; exact k2
    have hl : i < ρ.length := (List.getElem?_eq_some_iff.mp hq).1
    have zl : (ns.zip us).length = ns.length := by rw [List.length_zip, k4, Nat.min_self]
    refine ⟨_, s1, a, J.ca C', dx, ns.zip us, rfl, e1.h _ _ k1, cl, na, by rw [zl]; omega, ?_⟩
    rw [fix_putN k4 hf.1]
    have pa : ∀ b, P1 b → b ≠ a := fun b hb z => hna (by rw [← z]; exact (f1 b hb).2.1)
    have carry : ∀ b, H b ≠ none → b ≠ a → G b = none → (upd H1 a (.ins (J.ca C') dx ((ns ++ [f]).zip (us ++ [u])))) b = H b ∧ G1 b = none := fun b hb hn hg => ⟨by rw [upd_ne hn]; exact e1.h.at hb, by rw [e1.base b hb]; exact hg⟩
    refine q.of_nx σ G1 _ e1.g ⟨(w.x.trans e1).mut (h2 i a k3).2.1 ga, by rw [List.length_set, List.length_set]; exact w.lg, by rw [List.length_set]; exact w.lr, ⟨fun j b => if j = i then (Pf i b ∨ P1 b) else Pf j b, fun j k b q r s => ?_, fun j b q => ?_, fun j c q => ?_⟩, w.pn⟩
    · by_cases hj : j = i
      · by_cases hk : k = i
        · exact q (hj.trans hk.symm)
        · simp only [hj, if_true] at r
          simp only [hk, if_false] at s
          rcases r with z | z
          · exact h1 k i b hk s z
          · exact (h2 k b s).2.2 (f1 b z).2.1
      · simp only [hj, if_false] at r
        by_cases hk : k = i
        · simp only [hk, if_true] at s
          rcases s with z | z
          · exact h1 j i b hj r z
          · exact (h2 j b r).2.2 (f1 b z).2.1
        · simp only [hk, if_false] at s
          exact h1 j k b q r s
    · have up : ∀ b, H1 b ≠ none → (upd H1 a (.ins (J.ca C') dx ((ns ++ [f]).zip (us ++ [u])))) b ≠ none := fun b hb => by
        by_cases z : b = a
        · rw [z, upd_same]; exact fun z => by cases z
        · rw [upd_ne z]; exact hb
      by_cases hj : j = i
      · simp only [hj, if_true] at q
        rcases q with q | q
        · obtain ⟨a1, a2, a3⟩ := h2 i b q
          exact ⟨by rw [e1.base b a3]; exact a1, a2, up b (e1.h.nn a3)⟩
        · exact ⟨(f1 b q).1, w.x.h.free (f1 b q).2.1, up b (f1 b q).2.2⟩
      · simp only [hj, if_false] at q
        obtain ⟨a1, a2, a3⟩ := h2 j b q
        exact ⟨by rw [e1.base b a3]; exact a1, a2, up b (e1.h.nn a3)⟩
    · by_cases hj : j = i
      · subst hj
        rw [List.getElem?_set_self hl] at q
        have hd : Dt.ins C' (ns ++ [f]) (ds ++ [y]) = c := by simpa using q
        subst hd
        refine ⟨_, .I (ms ++ [m]), s1, List.getElem?_set_self (by rw [w.lg]; exact hl), ?_⟩
        simp only [if_true]
        refine .I upd_same ga (.inl k3) (by rw [List.length_append, List.length_append, k4]; rfl) ?_
        refine Ows.append (P1 := fun b => Pf j b ∧ b ≠ a) (P2 := P1) (k5.carry e1.g fun b hb => carry b (h2 j b hb.1).2.2 hb.2 (h2 j b hb.1).1) (.cons (P1 := P1) (P2 := Pno) (o1.carry (Same.refl _) fun b hb => ⟨upd_ne (pa b hb), (f1 b hb).1⟩) .nil (fun _ z => z) (fun _ z => z.elim) (fun _ _ z => z)) (fun b hb => ⟨.inl hb.1, hb.2⟩) (fun b hb => ⟨.inr hb, pa b hb⟩) fun b q1 q2 => ?_
        exact (h2 j b q1.1).2.2 (f1 b q2).2.1
      · rw [List.getElem?_set_ne (Ne.symm hj)] at q
        obtain ⟨v2, m2, t1, t2, t3⟩ := h3 j c q
        refine ⟨v2, m2, t1, by rw [List.getElem?_set_ne (Ne.symm hj)]; exact t2, ?_⟩
        simp only [hj, if_false]
        exact t3.carry e1.g fun b hb => carry b (h2 j b hb).2.2 (fun z => h1 j i b hj hb (by rw [z]; exact k3)) (h2 j b hb).1
end
end Pm
namespace Pm
open PySem PySem.Spec PyProof.Rows L2
open Classical
/-! ### what a def promises -/
def spM (K : PySem.W.Frag) (ca : Str → Addr) (np : Nat) (m : Mode) (Fn : List Dt → Rs Dt) : Sp := fun vs H Q E => vs.length = np ∧ ∃ G ds, Same G H ∧ Rps K ca G ds vs ∧
  Rs.Post (fun d => ∀ v G' H' P, Ext G H G' H' → Fr G' H H' P → Ow K ca G' H' m d v P → Q v H') (fun c => ∀ dx H', Same H H' → XR c dx H' → E (.ref (ca c.1)) dx H') (Fn ds)
def isF : Mode → Bool
  | .F => true
  | _ => false
def outF (m : Mode) : Ot → Rs Dt
  | .nx _ => if isF m = true then .ok .non else .no
  | .rt d => .ok d
  | .ex c _ => .ex c
  | _ => .no
def defF (np nl : Nat) (m : Mode) (F : Ev → Ot) (ds : List Dt) : Rs Dt := if ds.length = np then outF m (F (ds.map some ++ List.replicate (nl - np) none)) else .no
theorem defF_len {np nl : Nat} {m : Mode} {F : Ev → Ot} {ds : List Dt} (h : ds.length ≠ np) : defF np nl m F ds = .no := if_neg h
section
variable {P : Program} {w : World} {K : PySem.W.Frag} {ca : Str → Addr} {mg : Str → Option Value} {base : Heap} {x qual : Str} {params : Arguments} {body : List Stmt} {scope : Scope} {f : Addr} {fd : FuncData} {N ps : List Str} {k : Nat} {m : Mode}
theorem fn_def {Fb : Ev → Ot} {Γ0 Γ1 : List Mode} (F : FunD K x qual params body scope [] [] f fd) (S : FnScope N ps scope) (hg : Γ0.length = N.length) (hp : ∀ i, i < ps.length → Γ0[i]? = some .F)
    (hb : ∀ (cdv : Value) (A : Around) (outer : List Env) (s : Shared) (H : Hp) (E : XK), Room k (A.deeper (envOfC qual scope s.heap.objs.size f cdv)) →
      ∃ t, PSs (cxOf (L2.CX P w) P w K mg base N qual scope f cdv A outer s H E) body t ∧ SemS ⟨K, ca, fun cls d _ H => E cls d H, none, [], m, none⟩ Γ0 Γ1 Fb t) :
    FnOk P w K mg base (L2.CX P w) (k + 1) f fd ps (spM K ca ps.length m (defF ps.length N.length m Fb)) := by
  refine F.ok S (fun vs H Q E h => h.1) fun cdv A outer s H vs Q E hr h => ?_
  obtain ⟨hl, G, ds, sg, r, p⟩ := h
  obtain ⟨t, ht, hs⟩ := hb cdv A outer s H E hr
  refine ⟨t, ht, ?_⟩
  have hpl : ps.length ≤ N.length := by have := congrArg List.length S.pre; rw [List.length_take] at this; omega
  have hdl : ds.length = ps.length := by rw [r.length]; exact hl
  have lgt : (ds.map some ++ List.replicate (N.length - ps.length) none : Ev).length = N.length := by
    rw [List.length_append, List.length_map, List.length_replicate, hdl]; omega
  refine hs (G0 := G) (H0 := H) (G := G) (H := H) (ρ := ds.map some ++ List.replicate (N.length - ps.length) none) (σ := L2.start N vs) (D := { nx := fun _ H' => Q .non H', rt := Q }) ⟨Ext.refl sg, by rw [lgt]; exact hg, ?_, ⟨fun _ => Pno, fun _ _ _ _ z => z.elim, fun _ _ z => z.elim, fun i d q => ?_⟩, fun _ _ z => nomatch z⟩ ?_
  · unfold L2.start
    rw [lgt, List.length_append, List.length_map, List.length_replicate]
    omega
  · have hi : i < ds.length := by
      by_cases hi : i < ds.length
      · exact hi
      · rw [List.getElem?_append_right (by simpa using hi), List.getElem?_replicate] at q
        split at q <;> cases q
    rw [List.getElem?_append_left (by simpa using hi), List.getElem?_map] at q
    have e : ds[i]? = some d := by
      cases z : ds[i]? with
      | none => rw [z] at q; cases q
      | some e => rw [z] at q; cases q; rfl
    obtain ⟨v, hv, rv⟩ := r.get e
    refine ⟨v, .F, ?_, hp i (by omega), .F rv⟩
    unfold L2.start
    rw [List.getElem?_append_left (by rw [List.length_map]; omega), List.getElem?_map, hv]
    rfl
  · unfold defF at p
    rw [if_pos hdl] at p
    cases q : Fb (ds.map some ++ List.replicate (N.length - ps.length) none) with
    | nx ρ' =>
      rw [q] at p
      refine .nx fun σ' G' H' _ w' => ?_
      replace p : Rs.Post _ _ (if isF m = true then Rs.ok Dt.non else Rs.no) := p
      by_cases c : isF m = true
      · rw [if_pos c] at p
        have hm : m = .F := by cases m <;> first | rfl | cases c
        subst hm
        exact p.of_ok .non G' H' Pno w'.x Fr.no (.F .non)
      · rw [if_neg c] at p; cases p
    | rt d =>
      rw [q] at p
      exact .rt p.of_ok
    | bk _ => rw [q] at p; cases p
    | ct _ => rw [q] at p; cases p
    | ex c ρ' =>
      rw [q] at p
      exact .ex fun dx σ' H' s x _ => p.of_ex dx H' s x
    | no => rw [q] at p; cases p
end
/-! ### calls -/
def tMethS (C : Addr) (m : Str) (sp : Sp) (E : L2.St → XK) (ta : TE) (t : TA) : TE := fun σ H Q => ta σ H fun x H1 => ∃ a dx fs, x = .ref a ∧ H1 a = some (.ins C dx fs) ∧ fs.lookup m = none ∧ t σ H1 fun vs H2 => sp (x :: vs) H2 Q (E σ)
def tMakeS (C : Addr) (sp : Sp) (E : L2.St → XK) (t : TA) : TE := fun σ H Q => t σ H fun vs H1 => ∀ x dx, H1 x = none → H1 dx = none → dx ≠ x →
  sp (.ref x :: vs) (upd (upd H1 dx (.own x)) x (.ins C dx [])) (fun v H2 => v = .non ∧ Q (.ref x) H2) (E σ)
section
variable {X : Cx} {CX : CXT} {k : Nat} {f C : Addr} {fd : FuncData} {ps : List Str} {sp : Sp} {E : L2.St → XK} {x m : Str} {p pos apos : Pos} {e o : Expr} {es : List Expr} {ta : TE} {t : TA}
theorem pe_callS0 (F : FnOk X.prog X.w X.K X.mg X.base CX k f fd ps sp) (hr : Room k X.A) (hg : Gl X x) (hm : X.mg x = some (.ref f)) (hk : PySem.W.keepIn X.K (.ref f) = true) (hb : Binds X.K fd ps []) (hx : ∀ σ, PassesAt CX X σ (E σ))
    (hdb : (x == ("__debug__" : Str)) = false := by decide) : PE X (.Call (.Name x p) [] [] pos) (tCallS sp E tNil) := by
  refine ⟨fun pins s σ H Q I h => ?_⟩
  refine wpAny_Call_Name_kw (ld_glob I hg hm ?_ hdb)
  exact PySem.W.callWith_K0 I.kIn hk (run_fnS (us := []) F hr hb (hx σ) I .nil h)
theorem pe_methS {pl : Sem Bool} (he : PE X o ta) (c : Cls X.K C) (hm : Meth X.K C m f) (F : FnOk X.prog X.w X.K X.mg X.base CX k f fd ps sp) (hr : Room k X.A) (hb : Binds X.K fd ps []) (hx : ∀ σ, PassesAt CX X σ (E σ)) (ha : PA X (e :: es) t)
    (hst : starEach (e :: es) X.env = (false, eval e X.env) :: starEach es X.env := by rfl) (hpl : (backTo pos (starEach es X.env)).any (·.1) = false := by rfl)
    (ht : eval (.Call (.Attribute o m apos) (e :: es) [] pos) X.env = (do
      let ov ← eval o X.env
      standAt apos.atName
      let (f, first) ← holding [ov] (getMethod ov m pl)
      callWith pos f first (backTo pos (starEach (e :: es) X.env)) (backToKw pos (keywordEach [] X.env))) := by rfl) :
    PE X (.Call (.Attribute o m apos) (e :: es) [] pos) (tMethS C m sp E ta t) := by
  refine ⟨fun pins s σ H Q I h => ?_⟩
  refine PySem.W.methodCall_KW (pl := pl) (thn (he.run pins s σ H _ I h) fun u s1 ⟨x, H1, I1, rx, a, dx, fs, ex, ea, l, q⟩ => ?_) ht
  subst ex
  obtain rfl : u = Value.ref a := rx
  refine getmeth_ok I1 ea c hm l ?_
  refine PySem.W.callWith_K (first := [.ref a]) (h₀ := X.base) I.ok.mod.kin hm.kp (thn (ha.run pos pins s1 σ H1 _ I1 q) fun us s2 ⟨vs, H2, I2, r, q2⟩ => ⟨I2.kIn, ?_⟩) hst hpl
  exact run_fnS (us := .ref a :: us) (vs := .ref a :: vs) F hr hb (hx σ) I2 (.cons rfl r) q2
theorem pe_methS0 {pl : Sem Bool} (he : PE X o ta) (c : Cls X.K C) (hm : Meth X.K C m f) (F : FnOk X.prog X.w X.K X.mg X.base CX k f fd ps sp) (hr : Room k X.A) (hb : Binds X.K fd ps []) (hx : ∀ σ, PassesAt CX X σ (E σ))
    (ht : eval (.Call (.Attribute o m apos) [] [] pos) X.env = (do
      let ov ← eval o X.env
      standAt apos.atName
      let (f, first) ← holding [ov] (getMethod ov m pl)
      callWith pos f first (backTo pos (starEach [] X.env)) (backToKw pos (keywordEach [] X.env))) := by rfl) :
    PE X (.Call (.Attribute o m apos) [] [] pos) (tMethS C m sp E ta tNil) := by
  refine ⟨fun pins s σ H Q I h => ?_⟩
  refine PySem.W.methodCall_KW (pl := pl) (thn (he.run pins s σ H _ I h) fun u s1 ⟨x, H1, I1, rx, a, dx, fs, ex, ea, l, q⟩ => ?_) ht
  subst ex
  obtain rfl : u = Value.ref a := rx
  refine getmeth_ok I1 ea c hm l ?_
  exact PySem.W.callWith_K0 (first := [.ref a]) I1.kIn hm.kp (run_fnS (us := [.ref a]) (vs := [.ref a]) F hr hb (hx σ) I1 (.cons rfl .nil) q)
theorem run_makeS {pins : List (Addr × Obj)} {σ : L2.St} {H : Hp} {s : Shared} {Q : VK} {us : List Value} {vs : List V} (M : Mk X.K C f) (F : FnOk X.prog X.w X.K X.mg X.base CX k f fd ps sp) (hr : Room (k + 1) X.A) (hb : Binds X.K fd ps []) (hx : PassesAt CX X σ (E σ))
    (I : Inv X pins σ H s) (r : Vals vs us)
    (h : ∀ x dx, H x = none → H dx = none → dx ≠ x → sp (.ref x :: vs) (upd (upd H dx (.own x)) x (.ins C dx [])) (fun v H2 => v = .non ∧ Q (.ref x) H2) (E σ)) :
    wpAny (model X.prog X.w) X.A (call (.ref C) us) (EP X pins σ Q) X.xe s := by
  have hq := h (s.heap.objs.size + 1) s.heap.objs.size (I.hok.fresh (Nat.le_succ _)) (I.hok.fresh (Nat.le_refl _)) (Nat.ne_of_lt (Nat.lt_succ_self _))
  have I2 := Inv.made (C := C) I
  have r2 : Vals (V.ref (s.heap.objs.size + 1) :: vs) (Value.ref (s.heap.objs.size + 1) :: us) := .cons rfl r
  have hl : (Value.ref (s.heap.objs.size + 1) :: us).length = ps.length := by
    have e := r2.length
    rw [F.len _ _ _ _ hq] at e
    exact e.symm
  have b := hb _ (Value.ref (s.heap.objs.size + 1) :: us) I2.kIn (by rw [List.append_nil]; exact hl)
  rw [List.append_nil] at b
  refine wpAny_call (make_map (f := f) I.kIn M.makes M.init (beq_iff_eq.mp M.fn) (codeAny_mono (F.run _ X.stack _ _ ⟨Value.ref (s.heap.objs.size + 1) :: us, []⟩ (Value.ref (s.heap.objs.size + 1) :: us) _ _ (E σ) (hr.make C us [])
    (I2.env0.make C us []) b r2 hq) fun r s' hq' => ?_))
  cases r with
  | error e => exact hx pins _ _ e s' I2 hq'
  | ok fl =>
    cases fl with
    | ret u =>
      obtain ⟨v, H', I3, rv, ev, q3⟩ := I2.after hq'
      subst ev
      exact ⟨rv, ⟨V.ref (s.heap.objs.size + 1), H', I3, rfl, q3⟩⟩
    | next => exact False.elim hq'
    | brk => exact False.elim hq'
    | cont => exact False.elim hq'
theorem pe_makeS (M : Mk X.K C f) (F : FnOk X.prog X.w X.K X.mg X.base CX k f fd ps sp) (hr : Room (k + 1) X.A) (hg : Gl X x) (hm : X.mg x = some (.ref C)) (hb : Binds X.K fd ps []) (hx : ∀ σ, PassesAt CX X σ (E σ))
    (ha : PA X (e :: es) t) (hdb : (x == ("__debug__" : Str)) = false := by decide) (he : starEach (e :: es) X.env = (false, eval e X.env) :: starEach es X.env := by rfl) (hpl : (backTo pos (starEach es X.env)).any (·.1) = false := by rfl) :
    PE X (.Call (.Name x p) (e :: es) [] pos) (tMakeS C sp E t) := by
  refine ⟨fun pins s σ H Q I h => ?_⟩
  refine wpAny_Call_Name_kw (ld_glob I hg hm ?_ hdb)
  refine PySem.W.callWith_K (h₀ := X.base) I.ok.mod.kin M.kp (thn (ha.run pos pins s σ H _ I h) fun us s1 ⟨vs, H1, I1, r, q⟩ => ⟨I1.kIn, ?_⟩) he hpl
  exact run_makeS M F hr hb (hx σ) I1 r q
end
section
variable {J : Jc} {Γ Γ' Γ1 Γ2 : List Mode} {em : EM} {m : Mode} {ms : List Mode} {Fe Fa Fb Fi : Ev → Rs Dt} {Fs : List (Ev → Rs Dt)} {te ta tb ti : TE} {tr : TA} {G0 H0 Gs G H G' H' : Hp} {ρ : Ev} {σ : L2.St} {vs : List Nat} {Fn : List Dt → Rs Dt} {np : Nat}
def callE (Fn : List Dt → Rs Dt) (Fs : List (Ev → Rs Dt)) (ρ : Ev) : Rs Dt := argsE Fs ρ >>= Fn
theorem se_call (h : SemZ J Γ ms Fs tr) (hF : allF ms = true := by rfl) (hl : Fs.length = np := by rfl) : SemE J Γ (.o m) (callE Fn Fs) (tCallS (spM J.K J.ca np m Fn) (WE J.W) tr) := fun {G0 H0 G H ρ σ Q} w p => by
  refine h w (p.bind.imp (fun ds hd q us G1 H1 P1 e1 f1 o1 => ?_) fun _ q => q)
  have r := o1.allF hF
  refine ⟨by rw [← r.length, argsE_len hd]; exact hl, G1, ds, e1.gh, r, q.imp (fun d _ q v G2 H2 P2 e2 f2 o2 => ?_) fun c q dx H2 s => q H2 dx (e1.h.trans s)⟩
  exact q v G2 H2 P2 (e1.trans e2) (fun b hb => ⟨(f2 b hb).1, e1.h.free (f2 b hb).2.1, (f2 b hb).2.2⟩) o2
/-- arguments looked at alone, a scalar handed back -/
def scalR (r : Rs Dt) : Rs Dt := r >>= fun d => if scal d = true then .ok d else .no
def callBE (Fn : List Dt → Rs Dt) (Fs : List (Ev → Rs Dt)) (ρ : Ev) : Rs Dt := argsE Fs ρ >>= fun ds => scalR (Fn ds)
theorem se_callB (h : SemBs J Γ Fs tr) (hl : Fs.length = np := by rfl) : SemE J Γ (.o .F) (callBE Fn Fs) (tCallS (spM J.K J.ca np .F Fn) (WE J.W) tr) := fun {G0 H0 G H ρ σ Q} w p => by
  refine h w (p.bind.imp (fun ds hd q us G1 H1 e1 r => ?_) fun _ q => q)
  refine ⟨by rw [← r.length, argsE_len hd]; exact hl, H1, ds, Same.refl _, r, (Rs.Post.bind q).imp (fun d _ q v G2 H2 P2 e2 f2 o2 => ?_) fun c q dx H2 s => q H2 dx (e1.h.trans s)⟩
  cases c : scal d with
  | false =>
    rw [c] at q
    cases q
  | true =>
    rw [c] at q
    cases o2 with
    | F o2 => exact q.of_ok v G1 H2 Pno (e1.trans (Ext.heap e1.gh e2.h)) Fr.no (.F (scal_rp c o2))
/-- o.m(..), o frozen -/
def noMeth (C m : Str) (d : Dt) : Rs Dt := match d with
  | .ins C' ns ds => if C' = C ∧ fix m ns = none then .ok d else .no
  | _ => .no
def methE (C m : Str) (Fn : List Dt → Rs Dt) (Fo : Ev → Rs Dt) (Fs : List (Ev → Rs Dt)) (ρ : Ev) : Rs Dt := Fo ρ >>= fun s => noMeth C m s >>= fun _ => argsE Fs ρ >>= fun ds => Fn (s :: ds)
def methBE (C m : Str) (Fn : List Dt → Rs Dt) (Fo : Ev → Rs Dt) (Fs : List (Ev → Rs Dt)) (ρ : Ev) : Rs Dt := Fo ρ >>= fun s => noMeth C m s >>= fun _ => argsE Fs ρ >>= fun ds => scalR (Fn (s :: ds))
theorem fix_none {f : Str} : ∀ {ns : List Str} {us : List V}, fix f ns = none → (ns.zip us).lookup f = none
  | [], _, _ => rfl
  | g :: r, [], _ => rfl
  | g :: r, x :: us, h => by
    unfold fix at h
    by_cases q : f = g
    · rw [if_pos q] at h; cases h
    · rw [if_neg q] at h
      cases z : fix f r with
      | some i => rw [z] at h; cases h
      | none =>
        show (match f == g with | true => some x | false => (r.zip us).lookup f) = none
        rw [show (f == g) = false from beq_eq_false_iff_ne.mpr q]
        exact fix_none z
theorem noMeth_run {K : PySem.W.Frag} {ca : Str → Addr} {C m : Str} {d e : Dt} {v : V} (r : Rp K ca H d v) (q : noMeth C m d = .ok e) : ∃ a dx fs, v = .ref a ∧ H a = some (.ins (ca C) dx fs) ∧ fs.lookup m = none := by
  cases r with
  | @ins C' a dx ns us ds h1 h2 h3 =>
    replace q : (if C' = C ∧ fix m ns = none then Rs.ok (Dt.ins C' ns ds) else .no) = .ok e := q
    split at q
    · rename_i hC
      obtain ⟨hC, hf⟩ := hC
      subst hC
      exact ⟨a, dx, _, rfl, h1, fix_none hf⟩
    · cases q
  | _ => cases q
theorem nx_noMeth {C m : Str} {d : Dt} {c : Xn} : noMeth C m d ≠ .ex c := by
  unfold noMeth
  split
  · split <;> intro q <;> cases q
  · intro q; cases q
theorem se_meth {C mm : Str} (ho : SemE J Γ (.o .F) Fa ta) (h : SemZ J Γ ms Fs tr) (hF : allF ms = true := by rfl) (hl : Fs.length + 1 = np := by rfl) : SemE J Γ (.o m) (methE C mm Fn Fa Fs) (tMethS (J.ca C) mm (spM J.K J.ca np m Fn) (WE J.W) ta tr) := fun {G0 H0 G H ρ σ Q} w p => by
  refine ho w (p.bind.imp (fun s _ q v G1 H1 _ e1 _ o1 => ?_) fun _ q => q)
  cases o1 with
  | F o1 =>
  cases z : noMeth C mm s with
  | ex c => exact absurd z nx_noMeth
  | no => rw [z] at q; cases q
  | ok s' =>
    rw [z] at q
    obtain ⟨a, dx, fs, rfl, h1, h2⟩ := noMeth_run o1 z
    refine ⟨a, dx, fs, rfl, e1.gh _ _ h1, h2, h (w.ext e1) ((Rs.Post.bind (r := argsE Fs ρ) q).imp (fun ds hd q us G2 H2 P2 e2 f2 o2 => ?_) fun _ q H' dx s => q H' dx (e1.h.trans s))⟩
    have r := o2.allF hF
    have e := e1.trans e2
    refine ⟨by rw [List.length_cons, ← r.length, argsE_len hd]; exact hl, G2, s :: ds, e2.gh, .cons (o1.mono e2.g) r, Rs.Post.imp q (fun d _ q v G3 H3 P3 e3 f3 o3 => ?_) fun c q dx H2 s => q H2 dx (e.h.trans s)⟩
    exact q v G3 H3 P3 (e.trans e3) (fun b hb => ⟨(f3 b hb).1, e.h.free (f3 b hb).2.1, (f3 b hb).2.2⟩) o3
theorem se_methB {C mm : Str} (ho : SemE J Γ .B Fa ta) (h : SemBs J Γ Fs tr) (hl : Fs.length + 1 = np := by rfl) : SemE J Γ (.o .F) (methBE C mm Fn Fa Fs) (tMethS (J.ca C) mm (spM J.K J.ca np .F Fn) (WE J.W) ta tr) := fun {G0 H0 G H ρ σ Q} w p => by
  refine ho w (p.bind.imp (fun s _ q v G1 H1 _ e1 _ o1 => ?_) fun _ q => q)
  cases z : noMeth C mm s with
  | ex c => exact absurd z nx_noMeth
  | no => rw [z] at q; cases q
  | ok s' =>
    rw [z] at q
    obtain ⟨a, dx, fs, rfl, h1, h2⟩ := noMeth_run o1 z
    refine ⟨a, dx, fs, rfl, h1, h2, h (w.ext e1) ((Rs.Post.bind (r := argsE Fs ρ) q).imp (fun ds hd q us G2 H2 e2 r => ?_) fun _ q H' dx s => q H' dx (e1.h.trans s))⟩
    have e := e1.trans e2
    refine ⟨by rw [List.length_cons, ← r.length, argsE_len hd]; exact hl, H2, s :: ds, Same.refl _, .cons (Rp.mono e2.h o1) r, (Rs.Post.bind q).imp (fun d _ q v G3 H3 P3 e3 f3 o3 => ?_) fun c q dx H2 s => q H2 dx (e.h.trans s)⟩
    cases c : scal d with
    | false =>
      rw [c] at q
      cases q
    | true =>
      rw [c] at q
      cases o3 with
      | F o3 => exact q.of_ok v G2 H3 Pno (e.trans (Ext.heap e.gh e3.h)) Fr.no (.F (scal_rp c o3))
/-! ### __init__, C(..) -/
def spI (K : PySem.W.Frag) (ca : Str → Addr) (C : Str) (np : Nat) (ms : List Mode) (Fn : List Dt → Rs Dt) : Sp := fun vs H Q E => vs.length = np ∧ ∃ (Hb G : Hp) (ds : List Dt) (x dx : Addr) (us : List V), vs = .ref x :: us ∧ Same Hb H ∧ Hb x = none ∧ H x = some (.ins (ca C) dx []) ∧ Same G Hb ∧ Rps K ca G ds us ∧
  Rs.Post (fun d => ∀ G' H' P, Ext G Hb G' H' → Fr G' Hb H' P → Ow K ca G' H' (.I ms) d (.ref x) P → Q .non H') (fun c => ∀ dx H', Same Hb H' → XR c dx H' → E (.ref (ca c.1)) dx H') (Fn ds)
def outI : Ot → Rs Dt
  | .nx ρ => (match ρ[0]? with
    | some (some d) => .ok d
    | _ => .no)
  | .ex c _ => .ex c
  | _ => .no
def initF (C : Str) (np nl : Nat) (F : Ev → Ot) (ds : List Dt) : Rs Dt := if ds.length + 1 = np then outI (F (some (.ins C [] []) :: ds.map some ++ List.replicate (nl - np) none)) else .no
end
section
variable {P : Program} {w : World} {K : PySem.W.Frag} {ca : Str → Addr} {mg : Str → Option Value} {base : Heap} {x qual : Str} {params : Arguments} {body : List Stmt} {scope : Scope} {f : Addr} {fd : FuncData} {N ps : List Str} {k : Nat} {ms : List Mode}
theorem fn_init {C : Str} {Fb : Ev → Ot} {Γ0 Γ1 : List Mode} (F : FunD K x qual params body scope [] [] f fd) (S : FnScope N ps scope) (hg : (Mode.I [] :: Γ0).length = N.length) (hp : ∀ i, i + 1 < ps.length → Γ0[i]? = some .F) (h1 : Γ1[0]? = some (.I ms))
    (hb : ∀ (cdv : Value) (A : Around) (outer : List Env) (s : Shared) (H : Hp) (E : XK) (xv : V), Room k (A.deeper (envOfC qual scope s.heap.objs.size f cdv)) →
      ∃ t, PSs (cxOf (L2.CX P w) P w K mg base N qual scope f cdv A outer s H E) body t ∧ SemS ⟨K, ca, fun cls d _ H => E cls d H, none, [], .F, some (0, xv)⟩ (.I [] :: Γ0) Γ1 Fb t) :
    FnOk P w K mg base (L2.CX P w) (k + 1) f fd ps (spI K ca C ps.length ms (initF C ps.length N.length Fb)) := by
  refine F.ok S (fun vs H Q E h => h.1) fun cdv A outer s H vs Q E hr h => ?_
  obtain ⟨hl, Hb, G, ds, x, dx, us, rfl, sh, hx, hX, sg, r, p⟩ := h
  obtain ⟨t, ht, hs⟩ := hb cdv A outer s H E (.ref x) hr
  refine ⟨t, ht, ?_⟩
  have hpl : ps.length ≤ N.length := by have := congrArg List.length S.pre; rw [List.length_take] at this; omega
  have hdl : ds.length + 1 = ps.length := by rw [r.length]; exact hl
  have lgt : (some (.ins C [] []) :: ds.map some ++ List.replicate (N.length - ps.length) none : Ev).length = N.length := by
    rw [List.length_append, List.length_cons, List.length_map, List.length_replicate]; omega
  refine hs (G0 := G) (H0 := Hb) (G := G) (H := H) (ρ := some (.ins C [] []) :: ds.map some ++ List.replicate (N.length - ps.length) none) (σ := L2.start N (.ref x :: us)) (D := { nx := fun _ H' => Q .non H', rt := Q })
    ⟨⟨Same.refl _, sh, sg.trans sh, fun _ _ => rfl⟩, by rw [lgt]; exact hg, ?_, ⟨fun i b => i = 0 ∧ b = x, fun i j a q z1 z2 => q (z1.1.trans z2.1.symm), fun i a z => ?_, fun i d q => ?_⟩, fun i v z => by cases z; rfl⟩ ?_
  · unfold L2.start
    rw [lgt, List.length_append, List.length_map, List.length_replicate]
    omega
  · rw [z.2]
    exact ⟨sg.free hx, hx, by rw [hX]; exact fun z => by cases z⟩
  · cases i with
    | zero =>
      have e : Dt.ins C [] [] = d := by simpa using q
      subst e
      exact ⟨.ref x, .I [], rfl, rfl, .I (vs := []) hX (sg.free hx) ⟨rfl, rfl⟩ rfl .nil⟩
    | succ i =>
      have q : (ds.map some ++ List.replicate (N.length - ps.length) none : Ev)[i]? = some (some d) := by simpa using q
      have hi : i < ds.length := by
        by_cases hi : i < ds.length
        · exact hi
        · rw [List.getElem?_append_right (by simpa using hi), List.getElem?_replicate] at q
          split at q <;> cases q
      rw [List.getElem?_append_left (by simpa using hi), List.getElem?_map] at q
      have e : ds[i]? = some d := by
        cases z : ds[i]? with
        | none => rw [z] at q; cases q
        | some e => rw [z] at q; cases q; rfl
      obtain ⟨v, hv, rv⟩ := r.get e
      have hlu : i < us.length := by rw [← r.length]; exact hi
      refine ⟨v, .F, ?_, hp i (by omega), .F rv⟩
      show (some (V.ref x) :: us.map some ++ List.replicate (N.length - (V.ref x :: us).length) none : L2.St)[i + 1]? = _
      rw [List.cons_append, List.getElem?_cons_succ, List.getElem?_append_left (by rw [List.length_map]; exact hlu), List.getElem?_map, hv]
      rfl
  · unfold initF at p
    rw [if_pos hdl] at p
    cases q : Fb (some (.ins C [] []) :: ds.map some ++ List.replicate (N.length - ps.length) none) with
    | nx ρ' =>
      rw [q] at p
      refine .nx fun σ' G' H' _ w' => ?_
      cases z : ρ'[0]? with
      | none => simp only [outI, z] at p; cases p
      | some o =>
      cases o with
      | none => simp only [outI, z] at p; cases p
      | some d =>
        simp only [outI, z] at p
        obtain ⟨Pf, k1, k2, k3⟩ := w'.env
        obtain ⟨v, m, s1, s2, s3⟩ := k3 0 d z
        rw [w'.pn 0 (.ref x) rfl] at s1
        cases s1
        rw [h1] at s2
        cases s2
        exact p.of_ok G' H' (Pf 0) w'.x (fun b hb => k2 0 b hb) s3
    | rt d => rw [q] at p; cases p
    | bk _ => rw [q] at p; cases p
    | ct _ => rw [q] at p; cases p
    | ex c ρ' =>
      rw [q] at p
      exact .ex fun dx σ' H' s x _ => p.of_ex dx H' s x
    | no => rw [q] at p; cases p
end
section
variable {J : Jc} {Γ : List Mode} {ms : List Mode} {ns : List Mode} {Fs : List (Ev → Rs Dt)} {tr : TA} {Fn : List Dt → Rs Dt} {np : Nat}
theorem se_make {C : Str} (h : SemZ J Γ ms Fs tr) (hF : allF ms = true := by rfl) (hl : Fs.length + 1 = np := by rfl) : SemE J Γ (.o (.I ns)) (callE Fn Fs) (tMakeS (J.ca C) (spI J.K J.ca C np ns Fn) (WE J.W) tr) := fun {G0 H0 G H ρ σ Q} w p => by
  refine h w (p.bind.imp (fun ds hd q us G1 H1 P1 e1 f1 o1 => ?_) fun _ q => q)
  have r := o1.allF hF
  intro x dx hx hdx ne
  have s1 : Same H1 (upd (upd H1 dx (.own x)) x (.ins (J.ca C) dx [])) := fun b o e => by
    rw [upd_ne (ne_of_none e hx), upd_ne (ne_of_none e hdx)]
    exact e
  refine ⟨by rw [List.length_cons, ← r.length, argsE_len hd]; exact hl, H1, G1, ds, x, dx, us, rfl, s1, hx, upd_same, e1.gh, r, q.imp (fun d _ q G2 H2 P2 e2 f2 o2 => ⟨rfl, ?_⟩) fun c q dx H2 s => q H2 dx (e1.h.trans s)⟩
  exact q (.ref x) G2 H2 P2 (e1.trans e2) (fun b hb => ⟨(f2 b hb).1, e1.h.free (f2 b hb).2.1, (f2 b hb).2.2⟩) o2
end
end Pm
namespace Pm
open PySem PySem.Spec PyProof.Rows L2
open Classical
/-! ### small helpers for the printed texts -/
theorem hpF : ∀ {Γ : List Mode} {n : Nat}, allF (Γ.take n) = true → n ≤ Γ.length → ∀ i, i < n → Γ[i]? = some .F
  | [], n, _, h, i, hi => by simp at h; omega
  | m :: Γ, 0, _, _, i, hi => by omega
  | m :: Γ, n + 1, h, hl, i, hi => by
    rw [List.take_succ_cons] at h
    cases m with
    | F =>
      cases i with
      | zero => rfl
      | succ i => rw [List.getElem?_cons_succ]; exact hpF (n := n) h (by simpa using hl) i (by omega)
    | _ => cases h
theorem pe_globI {X : Cx} {x : Str} {i : Int} {pos : Pos} (h : ∃ t, X.mg x = some (.int i t)) (hg : Gl X x := by rfl) (hd : (x == ("__debug__" : Str)) = false := by decide) : PE X (.Name x pos) (tC (.int i)) := by
  obtain ⟨t, h⟩ := h
  exact pe_glob (v := .int i) hg h ⟨t, rfl⟩ hd
/-- lists of bools, of ints -/
def blsOf : List Dt → Option (List Bool)
  | [] => some []
  | .bl b :: ds => (blsOf ds).map (b :: ·)
  | _ => none
def intsOf : List Dt → Option (List Int)
  | [] => some []
  | .int i :: ds => (intsOf ds).map (i :: ·)
  | _ => none
section
variable {K : PySem.W.Frag} {ca : Str → Addr} {H : Hp}
theorem rps_bls : ∀ {ds : List Dt} {bs : List Bool} {vs : List V}, blsOf ds = some bs → Rps K ca H ds vs → vs = bs.map V.bl
  | [], bs, vs, h, r => by cases h; cases r; rfl
  | d :: ds, bs, vs, h, r => by
    cases r with
    | cons r1 r2 =>
      cases d with
      | bl b =>
        cases q : blsOf ds with
        | none => simp [blsOf, q] at h
        | some cs =>
          have e : b :: cs = bs := by simpa [blsOf, q] using h
          subst e
          cases r1
          rw [rps_bls q r2]; rfl
      | _ => simp [blsOf] at h
theorem rps_ints : ∀ {ds : List Dt} {bs : List Int} {vs : List V}, intsOf ds = some bs → Rps K ca H ds vs → vs = bs.map V.int
  | [], bs, vs, h, r => by cases h; cases r; rfl
  | d :: ds, bs, vs, h, r => by
    cases r with
    | cons r1 r2 =>
      cases d with
      | int b =>
        cases q : intsOf ds with
        | none => simp [intsOf, q] at h
        | some cs =>
          have e : b :: cs = bs := by simpa [intsOf, q] using h
          subst e
          cases r1
          rw [rps_ints q r2]; rfl
      | _ => simp [intsOf] at h
end
theorem blsOf_map (bs : List Bool) : blsOf (bs.map Dt.bl) = some bs := by
  induction bs with
  | nil => rfl
  | cons b bs ih => rw [List.map_cons, blsOf, ih]; rfl
theorem intsOf_map (bs : List Int) : intsOf (bs.map Dt.int) = some bs := by
  induction bs with
  | nil => rfl
  | cons b bs ih => rw [List.map_cons, intsOf, ih]; rfl
def lisD : Dt → Option (List Dt)
  | .lst ds => some ds
  | .scr ds => some ds
  | _ => none
def allD (d : Dt) : Rs Dt := match lisD d with
  | some ds => (match blsOf ds with | some bs => .ok (.bl (bs.all id)) | none => .no)
  | none => .no
def anyD (d : Dt) : Rs Dt := match lisD d with
  | some ds => (match blsOf ds with | some bs => .ok (.bl (bs.any id)) | none => .no)
  | none => .no
def sumD (d : Dt) : Rs Dt := match lisD d with
  | some ds => (match intsOf ds with | some bs => .ok (.int bs.sum) | none => .no)
  | none => .no
def maxL : List Int → Int
  | [] => 0
  | a :: r => r.foldl max a
def minL : List Int → Int
  | [] => 0
  | a :: r => r.foldl min a
theorem foldl_max_le : ∀ (l : List Int) (a : Int), a ≤ l.foldl max a ∧ (∀ y ∈ l, y ≤ l.foldl max a) ∧ (l.foldl max a = a ∨ l.foldl max a ∈ l)
  | [], a => ⟨Int.le_refl _, fun y h => (by cases h), .inl rfl⟩
  | b :: l, a => by
    obtain ⟨h1, h2, h3⟩ := foldl_max_le l (max a b)
    rw [List.foldl_cons]
    refine ⟨by omega, fun y hy => ?_, ?_⟩
    · rcases List.mem_cons.mp hy with rfl | hy
      · omega
      · exact h2 y hy
    · rcases h3 with h3 | h3
      · by_cases q : a ≤ b
        · right; rw [h3, Int.max_eq_right q]; exact List.mem_cons_self
        · left; rw [h3, Int.max_eq_left (by omega)]
      · right; exact List.mem_cons_of_mem _ h3
theorem foldl_min_le : ∀ (l : List Int) (a : Int), l.foldl min a ≤ a ∧ (∀ y ∈ l, l.foldl min a ≤ y) ∧ (l.foldl min a = a ∨ l.foldl min a ∈ l)
  | [], a => ⟨Int.le_refl _, fun y h => (by cases h), .inl rfl⟩
  | b :: l, a => by
    obtain ⟨h1, h2, h3⟩ := foldl_min_le l (min a b)
    rw [List.foldl_cons]
    refine ⟨by omega, fun y hy => ?_, ?_⟩
    · rcases List.mem_cons.mp hy with rfl | hy
      · omega
      · exact h2 y hy
    · rcases h3 with h3 | h3
      · by_cases q : a ≤ b
        · left; rw [h3, Int.min_eq_left q]
        · right; rw [h3, Int.min_eq_right (by omega)]; exact List.mem_cons_self
      · right; exact List.mem_cons_of_mem _ h3
def maxD (d : Dt) : Rs Dt := match lisD d with
  | some ds => (match intsOf ds with | some (a :: r) => .ok (.int (maxL (a :: r))) | _ => .no)
  | none => .no
def minD (d : Dt) : Rs Dt := match lisD d with
  | some ds => (match intsOf ds with | some (a :: r) => .ok (.int (minL (a :: r))) | _ => .no)
  | none => .no
def allE := op1E allD
def anyE := op1E anyD
def sumE := op1E sumD
def maxE := op1E maxD
def minE := op1E minD
theorem lis_rp {K : PySem.W.Frag} {ca : Str → Addr} {H : Hp} {b : Dt} {y : V} {ds : List Dt} (q : lisD b = some ds) (rb : Rp K ca H b y) : ∃ a vs, y = .ref a ∧ SqL K H a vs ∧ Rps K ca H ds vs := by
  cases rb with
  | lst h1 h2 => cases q; exact ⟨_, _, rfl, .of h1, h2⟩
  | scr h1 h2 => cases q; exact ⟨_, _, rfl, h1, h2⟩
  | _ => cases q
section
variable {J : Jc} {Γ : List Mode} {Fa Fb : Ev → Rs Dt} {ta tb : TE}
theorem nx_lis {g : List Dt → Rs Dt} (h : ∀ ds c, g ds ≠ .ex c) : ∀ a c, (match lisD a with | some ds => g ds | none => Rs.no) ≠ .ex c := by
  intro a c
  split
  · exact h _ _
  · intro q; cases q
theorem se_all (ha : SemE J Γ .B Fa ta) : SemE J Γ (.o .F) (allE Fa) (tCB (rAll J.K) (tCons ta tNil)) := se_cb1 (fun H a d x Q ra q k => by
  unfold allD at q
  cases e : lisD a with
  | none => rw [e] at q; cases q
  | some ds =>
    simp only [e] at q
    cases e2 : blsOf ds with
    | none => rw [e2] at q; cases q
    | some bs =>
      simp only [e2] at q
      cases q
      obtain ⟨p, vs, rfl, hs, r⟩ := lis_rp e ra
      exact ⟨p, bs, rfl, by rw [← rps_bls e2 r]; exact hs, k _ rfl fun _ => .bl _⟩) (nx_lis fun ds c => by split <;> intro q <;> cases q) ha
theorem se_any_ (ha : SemE J Γ .B Fa ta) : SemE J Γ (.o .F) (anyE Fa) (tCB (rAny J.K) (tCons ta tNil)) := se_cb1 (fun H a d x Q ra q k => by
  unfold anyD at q
  cases e : lisD a with
  | none => rw [e] at q; cases q
  | some ds =>
    simp only [e] at q
    cases e2 : blsOf ds with
    | none => rw [e2] at q; cases q
    | some bs =>
      simp only [e2] at q
      cases q
      obtain ⟨p, vs, rfl, hs, r⟩ := lis_rp e ra
      exact ⟨p, bs, rfl, by rw [← rps_bls e2 r]; exact hs, k _ rfl fun _ => .bl _⟩) (nx_lis fun ds c => by split <;> intro q <;> cases q) ha
theorem se_sum (ha : SemE J Γ .B Fa ta) : SemE J Γ (.o .F) (sumE Fa) (tCB (rSum J.K) (tCons ta tNil)) := se_cb1 (fun H a d x Q ra q k => by
  unfold sumD at q
  cases e : lisD a with
  | none => rw [e] at q; cases q
  | some ds =>
    simp only [e] at q
    cases e2 : intsOf ds with
    | none => rw [e2] at q; cases q
    | some bs =>
      simp only [e2] at q
      cases q
      obtain ⟨p, vs, rfl, hs, r⟩ := lis_rp e ra
      exact ⟨p, bs, rfl, by rw [← rps_ints e2 r]; exact hs, k _ rfl fun _ => .int _⟩) (nx_lis fun ds c => by split <;> intro q <;> cases q) ha
theorem se_max (ha : SemE J Γ .B Fa ta) : SemE J Γ (.o .F) (maxE Fa) (tCB (rMax J.K) (tCons ta tNil)) := se_cb1 (fun H a d x Q ra q k => by
  unfold maxD at q
  cases e : lisD a with
  | none => rw [e] at q; cases q
  | some ds =>
    simp only [e] at q
    cases e2 : intsOf ds with
    | none => rw [e2] at q; cases q
    | some bs =>
      cases bs with
      | nil => simp only [e2] at q; cases q
      | cons b r' =>
      simp only [e2] at q
      cases q
      obtain ⟨p, vs, rfl, hs, r⟩ := lis_rp e ra
      refine ⟨p, b :: r', rfl, by rw [← rps_ints e2 r]; exact hs, by simp, fun m hm hle => ?_⟩
      obtain ⟨h1, h2, h3⟩ := foldl_max_le r' b
      have em : m = maxL (b :: r') := by
        have a1 : m ≤ maxL (b :: r') := by
          rcases List.mem_cons.mp hm with z | z
          · rw [z]; exact h1
          · exact h2 m z
        have a2 : maxL (b :: r') ≤ m := hle _ (by
          show r'.foldl max b ∈ b :: r'
          rcases h3 with z | z
          · rw [z]; exact List.mem_cons_self
          · exact List.mem_cons_of_mem _ z)
        omega
      rw [em]
      exact k _ rfl fun _ => .int _) (nx_lis fun ds c => by split <;> intro q <;> cases q) ha
theorem se_min (ha : SemE J Γ .B Fa ta) : SemE J Γ (.o .F) (minE Fa) (tCB (rMin J.K) (tCons ta tNil)) := se_cb1 (fun H a d x Q ra q k => by
  unfold minD at q
  cases e : lisD a with
  | none => rw [e] at q; cases q
  | some ds =>
    simp only [e] at q
    cases e2 : intsOf ds with
    | none => rw [e2] at q; cases q
    | some bs =>
      cases bs with
      | nil => simp only [e2] at q; cases q
      | cons b r' =>
      simp only [e2] at q
      cases q
      obtain ⟨p, vs, rfl, hs, r⟩ := lis_rp e ra
      refine ⟨p, b :: r', rfl, by rw [← rps_ints e2 r]; exact hs, by simp, fun m hm hle => ?_⟩
      obtain ⟨h1, h2, h3⟩ := foldl_min_le r' b
      have em : m = minL (b :: r') := by
        have a1 : minL (b :: r') ≤ m := by
          rcases List.mem_cons.mp hm with z | z
          · rw [z]; exact h1
          · exact h2 m z
        have a2 : m ≤ minL (b :: r') := hle _ (by
          show r'.foldl min b ∈ b :: r'
          rcases h3 with z | z
          · rw [z]; exact List.mem_cons_self
          · exact List.mem_cons_of_mem _ z)
        omega
      rw [em]
      exact k _ rfl fun _ => .int _) (nx_lis fun ds c => by split <;> intro q <;> cases q) ha
/-- max(a, b), min(a, b) of ints -/
def max2E := op2E (i2 fun i j => .ok (.int (if j > i then j else i)))
def min2E := op2E (i2 fun i j => .ok (.int (if j < i then j else i)))
theorem se_cb2 {g : Dt → Dt → Rs Dt} {r : List V → Hp → VK → Prop} (hr : ∀ (H : Hp) (a b d : Dt) (x y : V) (Q : VK), Rp J.K J.ca H a x → Rp J.K J.ca H b y → g a b = .ok d → (∀ v, scal d = true → (∀ G, Rp J.K J.ca G d v) → Q v H) → r [x, y] H Q) (hn : NoEx2 g) (ha : SemE J Γ .B Fa ta) (hb : SemE J Γ .B Fb tb) :
    SemE J Γ (.o .F) (op2E g Fa Fb) (tCB r (tCons ta (tCons tb tNil))) := fun {G0 H0 G H ρ σ Q} w p => by
  refine ha w (p.bind.imp (fun a _ p1 x G1 H1 _ e1 _ ra => ?_) fun _ q => q)
  refine hb (w.ext e1) (p1.bind.imp (fun b _ p2 y G2 H2 _ e2 _ rb => ?_) fun _ q H' dx s => q H' dx (e1.h.trans s))
  show r [x, y] H2 Q
  cases q : g a b with
  | ok d =>
    rw [q] at p2
    exact hr H2 a b d x y Q (Rp.mono e2.h ra) rb q fun v _ hv => p2.of_ok v G2 H2 Pno (e1.trans e2) Fr.no (.F (hv _))
  | ex c => exact absurd q (hn a b c)
  | no => rw [q] at p2; cases p2
theorem se_max2 (ha : SemE J Γ .B Fa ta) (hb : SemE J Γ .B Fb tb) : SemE J Γ (.o .F) (max2E Fa Fb) (tCB (fun xs H Q => ∃ i j, xs = [.int i, .int j] ∧ Q (.int (if j > i then j else i)) H) (tCons ta (tCons tb tNil))) := se_cb2 (fun H a b d x y Q ra rb q k => by
  cases ra with
  | int i =>
    cases rb with
    | int j => cases q; exact ⟨i, j, rfl, k _ rfl fun _ => .int _⟩
    | _ => cases q
  | _ => cases rb <;> cases q) (nx_i2 fun _ _ _ q => by cases q) ha hb
theorem se_min2 (ha : SemE J Γ .B Fa ta) (hb : SemE J Γ .B Fb tb) : SemE J Γ (.o .F) (min2E Fa Fb) (tCB (fun xs H Q => ∃ i j, xs = [.int i, .int j] ∧ Q (.int (if j < i then j else i)) H) (tCons ta (tCons tb tNil))) := se_cb2 (fun H a b d x y Q ra rb q k => by
  cases ra with
  | int i =>
    cases rb with
    | int j => cases q; exact ⟨i, j, rfl, k _ rfl fun _ => .int _⟩
    | _ => cases q
  | _ => cases rb <;> cases q) (nx_i2 fun _ _ _ q => by cases q) ha hb
end
end Pm
namespace Pm
open PySem PySem.Spec PyProof.Rows L2
open Classical
/-! ### try .. except X -/
abbrev Jc.tr (J : Jc) (W : WX) (Γ : List Mode) : Jc := { J with W := W, gx := some Γ }
/-- in the suite nothing is raised -/
abbrev Jc.nx (J : Jc) (p : Option (Nat × V)) : Jc := { J with W := fun _ _ _ _ => False, pin := p }
def noX : Ot → Ot
  | .ex _ _ => .no
  | o => o
def tryS (subs : List (Str × Bool)) (Fb Fh : Ev → Ot) (ρ : Ev) : Ot := match Fb ρ with
  | .ex c ρ' => (match subs.lookup c.1 with
    | some true => noX (Fh ρ')
    | some false => .ex c ρ'
    | none => .no)
  | o => o
def tTryO (K : PySem.W.Frag) (c : Value) (th : Addr → Value → Option Addr → TS) (W : WX) (tb : WX → TS) : TS := fun D σ H => tb (wOnly K c th W D) D σ H
def tTryA (K : PySem.W.Frag) (c : Value) (i : Nat) (th : Addr → Value → Option Addr → TS) (W : WX) (tb : WX → TS) : TS := fun D σ H => tb (wAs K c i th W D) D σ H
section
variable {X : Cx} {x n : Str} {c : Value} {i : Nat} {body suite : List Stmt} {b₀ : Stmt} {np pos pos' : Pos} {tb : WX → TS} {ts : Addr → Value → Option Addr → TS} {Wout : WX}
theorem pm_tryO (hs : X.stack = X.env :: X.outer) (hf : X.env.frame = some X.env.locals) (hc : Names X x c) (tk : Takes X Wout)
    (hb : ∀ (W : WX) (pn : List (Addr × Obj)) (xe : Value → Shared → Prop), Takes (X.tr pn xe) W → PassesOwn (model X.prog X.w) X.A X.env xe → PSs (X.tr pn xe) body (tb W))
    (su : ∀ (a : Addr) (oe : Obj) (cls : Value) (d : Option Addr) (pn : List (Addr × Obj)), Zc cls d oe → (∃ vs, oe.data = .fields vs) → PSs (X.suite a ((a, oe) :: pn)) (b₀ :: suite) (ts a cls d)) :
    PS X (.Try body [.ExceptHandler (some (.Name x np)) none (b₀ :: suite) pos'] [] [] pos) (tTryO X.K c ts Wout tb) := ps_try_only hs hf hc tk hb su
theorem pm_tryA (hs : X.stack = X.env :: X.outer) (hf : X.env.frame = some X.env.locals) (hN : X.N.Nodup) (hi : X.N[i]? = some n) (hln : X.env.kindOf n = some .local) (hc : Names X x c) (tk : Takes X Wout)
    (hb : ∀ (W : WX) (pn : List (Addr × Obj)) (xe : Value → Shared → Prop), Takes (X.tr pn xe) W → PassesOwn (model X.prog X.w) X.A X.env xe → PSs (X.tr pn xe) body (tb W))
    (su : ∀ (a : Addr) (oe : Obj) (cls : Value) (d : Option Addr) (pn : List (Addr × Obj)), Zc cls d oe → (∃ vs, oe.data = .fields vs) → PSs (X.suite a ((a, oe) :: pn)) (b₀ :: suite) (ts a cls d)) :
    PS X (.Try body [.ExceptHandler (some (.Name x np)) (some n) (b₀ :: suite) pos'] [] [] pos) (tTryA X.K c i ts Wout tb) := ps_try_as hs hf hN hi hln hc tk hb su
end
section
variable {J : Jc} {Γ Γ' Γx : List Mode} {G0 H0 Gs G H G' H' : Hp} {ρ : Ev} {σ : L2.St} {W : WX} {Fb Fh : Ev → Ot} {tb : WX → TS} {th : TS} {D : Ends}
theorem Wd.tr (w : Wd J G0 H0 Γ ρ σ G H) : Wd (J.tr W Γx) G0 H0 Γ ρ σ G H := ⟨w.x, w.lg, w.lr, w.env, w.pn⟩
theorem Wd.untr (w : Wd (J.tr W Γx) G0 H0 Γ ρ σ G H) : Wd J G0 H0 Γ ρ σ G H := ⟨w.x, w.lg, w.lr, w.env, w.pn⟩
theorem Wd.nxn (w : Wd J G0 H0 Γ ρ σ G H) : Wd (J.nx J.pin) G0 H0 Γ ρ σ G H := ⟨w.x, w.lg, w.lr, w.env, w.pn⟩
theorem Wd.unnx {p : Option (Nat × V)} (hp : J.pin = p ∨ J.pin = none) (w : Wd (J.nx p) G0 H0 Γ ρ σ G H) : Wd J G0 H0 Γ ρ σ G H := ⟨w.x, w.lg, w.lr, w.env, fun i v h => by
  rcases hp with hp | hp
  · exact w.pn i v (by rw [← hp]; exact h)
  · rw [hp] at h; cases h⟩
theorem PostS.tr {o : Ot} (hn : ∀ c ρ', o ≠ .ex c ρ') (p : PostS J G0 H0 Gs Γ' D o) : PostS (J.tr W Γx) G0 H0 Gs Γ' D o := by
  cases p with
  | nx p => exact .nx fun a b c d e => p a b c d e.untr
  | rt p => exact .rt p
  | bk p => exact .bk fun a b c d e => p a b c d e.untr
  | ct p => exact .ct fun a b c d e => p a b c d e.untr
  | @ex c ρ' p => exact absurd rfl (hn c ρ')
theorem PostS.nxn {o : Ot} (p : PostS J G0 H0 Gs Γ' D (noX o)) : PostS (J.nx J.pin) G0 H0 Gs Γ' D o := by
  cases o with
  | nx r => cases p with | nx p => exact .nx fun a b c d e => p a b c d (e.unnx (.inl rfl))
  | rt r => cases p with | rt p => exact .rt p
  | bk r => cases p with | bk p => exact .bk fun a b c d e => p a b c d (e.unnx (.inl rfl))
  | ct r => cases p with | ct p => exact .ct fun a b c d e => p a b c d (e.unnx (.inl rfl))
  | ex c r => cases p
  | no => cases p
/-- what a class is to another -/
def Subs (K : PySem.W.Frag) (ca : Str → Addr) (X : Value) (subs : List (Str × Bool)) : Prop := ∀ c b, subs.lookup c = some b → PySem.W.exmOne K (.ref (ca c)) X = some b
theorem ss_try {X : Value} {subs : List (Str × Bool)} (hs : Subs J.K J.ca X subs) (hb : ∀ W, SemS (J.tr W Γx) Γ Γ' Fb (tb W)) (hh : SemS (J.nx J.pin) Γx Γ' Fh th) (hx : J.gx = none) :
    SemS J Γ Γ' (tryS subs Fb Fh) (tTryO J.K X (fun _ _ _ => th) J.W tb) := fun {G0 H0 G H ρ σ D} w p => by
  refine hb _ w.tr ?_
  unfold tryS at p
  cases q : Fb ρ with
  | ex c ρ' =>
    rw [q] at p
    refine .ex fun dx σ' H' s xr k => ?_
    obtain ⟨G', sg, w2⟩ := k Γx rfl
    have p : PostS J G0 H0 G Γ' D (match subs.lookup c.1 with
      | some true => noX (Fh ρ')
      | some false => .ex c ρ'
      | none => .no) := p
    cases z : subs.lookup c.1 with
    | none => rw [z] at p; cases p
    | some b =>
      refine ⟨b, hs _ _ z, fun hb a ha => ?_, fun hb => ?_⟩
      · subst hb
        rw [z] at p
        exact hh w2.untr.nxn ((PostS.nxn p).up sg)
      · subst hb
        rw [z] at p
        cases p with
        | ex p => exact p dx σ' H' s xr fun Γ1 e => by rw [hx] at e; cases e
  | nx r => rw [q] at p; exact p.tr (fun _ _ z => by cases z)
  | rt r => rw [q] at p; exact p.tr (fun _ _ z => by cases z)
  | bk r => rw [q] at p; exact p.tr (fun _ _ z => by cases z)
  | ct r => rw [q] at p; exact p.tr (fun _ _ z => by cases z)
  | no => rw [q] at p; cases p
end
/-! ### try .. except X as n -/
def clrO (i : Nat) : Ot → Ot
  | .nx ρ => .nx (ρ.set i none)
  | .bk ρ => .bk (ρ.set i none)
  | .ct ρ => .ct (ρ.set i none)
  | .rt d => .rt d
  | _ => .no
def tryA (i : Nat) (subs : List (Str × Bool)) (Fb : Ev → Ot) (Fh : Str → Ev → Ot) (ρ : Ev) : Ot := match Fb ρ with
  | .ex c ρ' => (match subs.lookup c.1 with
    | some true => (match c.2 with
      | none => clrO i (Fh c.1 (ρ'.set i none))
      | some _ => .no)
    | some false => .ex c ρ'
    | none => .no)
  | o => o
/-- the suite's reading, by the class that came -/
def tSuite (ca : Str → Addr) (subs : List (Str × Bool)) (th : Addr → Str → TS) (a : Addr) (cls : Value) (d : Option Addr) : TS := fun D σ H => ∃ c, subs.lookup c = some true ∧ cls = .ref (ca c) ∧ d = none ∧ th a c D σ H
section
variable {J : Jc} {Γ Γ' Γx : List Mode} {G0 H0 Gs G H G' H' : Hp} {ρ : Ev} {σ : L2.St} {W : WX} {Fb : Ev → Ot} {Fh : Str → Ev → Ot} {tb : WX → TS} {th : Addr → Str → TS} {D : Ends}
theorem Wd.clr {i : Nat} (w : Wd J G0 H0 Γ ρ σ G H) (x : Option V) (hi : J.free i) : Wd J G0 H0 Γ (ρ.set i none) (σ.set i x) G H := by
  obtain ⟨Pf, h1, h2, h3⟩ := w.env
  refine ⟨w.x, by rw [List.length_set]; exact w.lg, by rw [List.length_set, List.length_set]; exact w.lr, ⟨Pf, h1, h2, fun j c q => ?_⟩, fun k v hv => ?_⟩
  · by_cases hj : j = i
    · subst hj
      by_cases hl : j < ρ.length
      · rw [List.getElem?_set_self hl] at q; cases q
      · rw [List.getElem?_eq_none (by rw [List.length_set]; omega)] at q; cases q
    · rw [List.getElem?_set_ne (Ne.symm hj)] at q
      obtain ⟨v, m, s1, s2, s3⟩ := h3 j c q
      exact ⟨v, m, by rw [List.getElem?_set_ne (Ne.symm hj)]; exact s1, s2, s3⟩
  · have ne : k ≠ i := by
      have hi : pinB J.pin i = true := hi
      rw [hv] at hi
      exact of_decide_eq_true hi
    rw [List.getElem?_set_ne (Ne.symm ne)]
    exact w.pn k v hv
theorem Wd.pinned {i : Nat} {a : Addr} (w : Wd J G0 H0 Γ ρ σ G H) (hi : i < ρ.length) (hp : J.pin = none) : Wd (J.nx (some (i, .ref a))) G0 H0 Γ (ρ.set i none) (σ.set i (some (.ref a))) G H := by
  have w2 := w.clr (some (.ref a)) (show pinB J.pin i = true by rw [hp]; rfl)
  refine ⟨w2.x, w2.lg, w2.lr, w2.env, fun k v h => ?_⟩
  have e : some (i, V.ref a) = some (k, v) := h
  cases e
  exact List.getElem?_set_self (by rw [← w.lr]; exact hi)
theorem PostS.clr {i : Nat} {a : Addr} {o : Ot} (hp : J.pin = none) (p : PostS J G0 H0 Gs Γ' D (clrO i o)) : PostS (J.nx (some (i, .ref a))) G0 H0 Gs Γ' { nx := fun σ' H' => D.nx (σ'.set i none) H', rt := D.rt, bk := fun σ' H' => D.bk (σ'.set i none) H', ct := fun σ' H' => D.ct (σ'.set i none) H' } o := by
  have fr : J.free i := by show pinB J.pin i = true; rw [hp]; rfl
  cases o with
  | nx r => cases p with | nx p => exact .nx fun a b c d e => p _ b c d ((e.unnx (.inr hp)).clr none fr)
  | rt r => cases p with | rt p => exact .rt p
  | bk r => cases p with | bk p => exact .bk fun a b c d e => p _ b c d ((e.unnx (.inr hp)).clr none fr)
  | ct r => cases p with | ct p => exact .ct fun a b c d e => p _ b c d ((e.unnx (.inr hp)).clr none fr)
  | ex c r => cases p
  | no => cases p
theorem ss_tryA {X : Value} {i : Nat} {subs : List (Str × Bool)} (hs : Subs J.K J.ca X subs) (hb : ∀ W, SemS (J.tr W Γx) Γ Γ' Fb (tb W)) (hh : ∀ a c, subs.lookup c = some true → SemS (J.nx (some (i, .ref a))) Γx Γ' (Fh c) (th a c)) (hx : J.gx = none) (hp : J.pin = none) (hi : i < Γx.length) :
    SemS J Γ Γ' (tryA i subs Fb Fh) (tTryA J.K X i (tSuite J.ca subs th) J.W tb) := fun {G0 H0 G H ρ σ D} w p => by
  refine hb _ w.tr ?_
  unfold tryA at p
  cases q : Fb ρ with
  | ex c ρ' =>
    rw [q] at p
    refine .ex fun dx σ' H' s xr k => ?_
    obtain ⟨G', sg, w2⟩ := k Γx rfl
    have p : PostS J G0 H0 G Γ' D (match subs.lookup c.1 with
      | some true => (match c.2 with
        | none => clrO i (Fh c.1 (ρ'.set i none))
        | some _ => .no)
      | some false => .ex c ρ'
      | none => .no) := p
    cases z : subs.lookup c.1 with
    | none => rw [z] at p; cases p
    | some b =>
      refine ⟨b, hs _ _ z, fun hb a ha => ?_, fun hb => ?_⟩
      · subst hb
        rw [z] at p
        have p : PostS J G0 H0 G Γ' D (match c.2 with
          | none => clrO i (Fh c.1 (ρ'.set i none))
          | some _ => .no) := p
        cases z2 : c.2 with
        | some n => rw [z2] at p; cases p
        | none =>
          rw [z2] at p
          have dxn : dx = none := by
            unfold XR at xr
            rw [z2] at xr
            exact xr
          refine ⟨c.1, z, rfl, dxn, ?_⟩
          exact hh a c.1 z (w2.untr.pinned (by rw [← w2.lg]; exact hi) hp) ((PostS.clr hp p).up sg)
      · subst hb
        rw [z] at p
        cases p with
        | ex p => exact p dx σ' H' s xr fun Γ1 e => by rw [hx] at e; cases e
  | nx r => rw [q] at p; exact p.tr (fun _ _ z => by cases z)
  | rt r => rw [q] at p; exact p.tr (fun _ _ z => by cases z)
  | bk r => rw [q] at p; exact p.tr (fun _ _ z => by cases z)
  | ct r => rw [q] at p; exact p.tr (fun _ _ z => by cases z)
  | no => rw [q] at p; cases p
end
/-- the suite, whatever class came -/
theorem pss_suite {X : Cx} {b : List Stmt} {ca : Str → Addr} {subs : List (Str × Bool)} {th : Addr → Str → TS} {a : Addr} {cls : Value} {d : Option Addr} (h : ∀ c, subs.lookup c = some true → cls = .ref (ca c) → d = none → PSs X b (th a c)) : PSs X b (tSuite ca subs th a cls d) := by
  refine ⟨fun pins s σ H D I q => ?_⟩
  obtain ⟨c, h1, h2, h3, h4⟩ := q
  exact (h c h1 h2 h3).run pins s σ H D I h4
/-! ### isinstance of the caught exception -/
def isxE (tab : List (Str × Bool)) (c : Str) (_ : Ev) : Rs Dt := match tab.lookup c with
  | some b => .ok (.bl b)
  | none => .no
def Isx (K : PySem.W.Frag) (ca : Str → Addr) (cv : Value) (tab : List (Str × Bool)) : Prop := ∀ c b, tab.lookup c = some b → PySem.W.kitOne K (.ref (ca c)) cv = some b
theorem se_isx {J : Jc} {Γ : List Mode} {i : Nat} {a : Addr} {c : Str} {cv : Value} {v : V} {tab : List (Str × Bool)} (hp : J.pin = some (i, .ref a)) (hv : ∀ u, RelV v u → u = cv) (ht : Isx J.K J.ca cv tab) : SemE J Γ (.o .F) (isxE tab c) (tCB (rIsE J.K (J.ca c) a) (tCons (tVar i) (tCons (tC v) tNil))) := fun {G0 H0 G H ρ σ Q} w p => by
  unfold isxE at p
  cases z : tab.lookup c with
  | none => rw [z] at p; cases p
  | some b =>
    rw [z] at p
    refine ⟨_, w.pn i _ hp, v, cv, b, rfl, hv, ht c b z, ?_⟩
    exact p.of_ok (.bl b) G H Pno (Ext.refl w.gh) Fr.no (.F (.bl b))
/-! the facts, as Bools -/
def excCB (K : PySem.W.Frag) (x : Str) : Bool :=
  He.eqO (PySem.W.findIn K (.ref (He.ga K x)) "__getattribute__") (some (some (.builtin "BaseException.__getattribute__"))) && (He.eqO (PySem.W.findIn K (.ref (He.ga K x)) "__getattr__") (some none) &&
  (decide (PySem.W.subIn K (.ref (He.ga K x)) (.type "BaseException") = some true) && (PySem.W.hasDictIn K (He.ga K x) && (He.eqO (PySem.W.findIn K (.ref (He.ga K x)) "__class__") (some (some (.builtin "object.__class__"))) &&
  (He.eqO (PySem.W.specialIn K (.builtin "object.__class__") "__get__") (some (some (.builtin "getset_descriptor.__get__"))) && (decide (PySem.W.takesIn K (.builtin "object.__class__") = some true) && decide (PySem.W.mroIn K (He.ga K x) (.type "object") = some true)))))))
theorem excCB_ok {K : PySem.W.Frag} {x : Str} (h : excCB K x = true) : ExcC K (He.ga K x) := by
  unfold excCB at h
  obtain ⟨h1, h⟩ := He.ba h
  obtain ⟨h2, h⟩ := He.ba h
  obtain ⟨h3, h⟩ := He.ba h
  obtain ⟨h4, h⟩ := He.ba h
  obtain ⟨h5, h⟩ := He.ba h
  obtain ⟨h6, h⟩ := He.ba h
  obtain ⟨h7, h8⟩ := He.ba h
  exact ⟨He.eqO_ok h1, He.eqO_ok h2, of_decide_eq_true h3, h4, He.eqO_ok h5, He.eqO_ok h6, of_decide_eq_true h7, of_decide_eq_true h8⟩
def subsB (K : PySem.W.Frag) (X : Value) (tab : List (Str × Bool)) : Bool := tab.all fun q => decide (PySem.W.exmOne K (.ref (He.ga K q.1)) X = some q.2)
def isxB (K : PySem.W.Frag) (X : Value) (tab : List (Str × Bool)) : Bool := tab.all fun q => decide (PySem.W.kitOne K (.ref (He.ga K q.1)) X = some q.2)
def excB (K : PySem.W.Frag) (tab : List (Str × Bool)) : Bool := tab.all fun q => !q.2 || excCB K q.1
theorem lookup_in {α : Type} {c : Str} {b : α} : ∀ {tab : List (Str × α)}, tab.lookup c = some b → (c, b) ∈ tab
  | [], h => by cases h
  | (x, y) :: r, h => by
    have h : (match c == x with | true => some y | false => r.lookup c) = some b := h
    cases q : (c == x) with
    | true =>
      rw [q] at h
      rw [beq_iff_eq.mp q, Option.some.inj h]
      exact List.mem_cons_self
    | false =>
      rw [q] at h
      exact List.mem_cons_of_mem _ (lookup_in h)
theorem subsB_ok {K : PySem.W.Frag} {X : Value} {tab : List (Str × Bool)} (h : subsB K X tab = true) : Subs K (He.ga K) X tab := fun c b e => of_decide_eq_true (List.all_eq_true.mp h _ (lookup_in e))
theorem isxB_ok {K : PySem.W.Frag} {X : Value} {tab : List (Str × Bool)} (h : isxB K X tab = true) : Isx K (He.ga K) X tab := fun c b e => of_decide_eq_true (List.all_eq_true.mp h _ (lookup_in e))
theorem excB_ok {K : PySem.W.Frag} {tab : List (Str × Bool)} (h : excB K tab = true) : ∀ c, tab.lookup c = some true → ExcC K (He.ga K c) := fun c e => by
  have := List.all_eq_true.mp h _ (lookup_in e)
  exact excCB_ok (by simpa using this)
end Pm
namespace Pm
open PySem PySem.Spec PyProof.Rows L2
open Classical
/-! ### more changes of a list -/
section
variable {J : Jc} {Γ Γ' Γ1 Γ2 : List Mode} {em : EM} {m : Mode} {ms : List Mode} {Fe Fa Fb Fi : Ev → Rs Dt} {Fs : List (Ev → Rs Dt)} {te ta tb ti : TE} {tr : TA} {G0 H0 Gs G H G' H' : Hp} {ρ : Ev} {σ : L2.St} {vs : List Nat}
  {F F1 F2 : Ev → Ot} {ts t1 t2 : TS} {D : Ends} {d : Dt} {v : V} {put : Dt → Ev} {Fp : Ev → Rs (Dt × (Dt → Ev))}
theorem Ows.split {K : PySem.W.Frag} {ca : Str → Addr} : ∀ {ds : List Dt} {us : List V} {P : Addr → Prop} (n : Nat), Ows K ca G H (List.replicate ds.length m) ds us P → ∃ P1 P2 : Addr → Prop, Ows K ca G H (List.replicate (ds.take n).length m) (ds.take n) (us.take n) P1 ∧ Ows K ca G H (List.replicate (ds.drop n).length m) (ds.drop n) (us.drop n) P2 ∧ (∀ b, P1 b → P b) ∧ (∀ b, P2 b → P b) ∧ ∀ b, P1 b → ¬ P2 b
  | [], us, P, n, h => by
    cases h
    simp
    exact ⟨Pno, .nil, Pno, .nil, fun _ z => z.elim, fun _ z => z.elim, fun _ z => z.elim⟩
  | d :: ds, us, P, 0, h => ⟨Pno, P, .nil, h, fun _ z => z.elim, fun _ z => z, fun _ z => z.elim⟩
  | d :: ds, us, P, n + 1, h => by
    rw [List.length_cons, List.replicate_succ] at h
    cases h with
    | @cons _ _ _ _ v us _ A B h1 h2 q1 q2 q3 =>
      obtain ⟨P1, P2, o1, o2, r1, r2, r3⟩ := Ows.split n h2
      refine ⟨fun b => A b ∨ P1 b, P2, ?_, o2, fun b hb => hb.elim (q1 b) fun z => q2 b (r1 b z), fun b hb => q2 b (r2 b hb), fun b hb z => ?_⟩
      · rw [List.take_succ_cons, List.length_cons, List.replicate_succ, List.take_succ_cons]
        exact .cons h1 o1 (fun _ => .inl) (fun _ => .inr) fun b ha hp => q3 b ha (r1 b hp)
      · rcases hb with hb | hb
        · exact q3 b hb (r2 b z)
        · exact r3 b hb z
theorem Ows.rev {K : PySem.W.Frag} {ca : Str → Addr} : ∀ {ds : List Dt} {us : List V} {P : Addr → Prop}, Ows K ca G H (List.replicate ds.length m) ds us P → Ows K ca G H (List.replicate ds.reverse.length m) ds.reverse us.reverse P
  | [], us, P, h => by cases h; exact .nil
  | d :: ds, us, P, h => by
    rw [List.length_cons, List.replicate_succ] at h
    cases h with
    | @cons _ _ _ _ v us _ A B h1 h2 q1 q2 q3 =>
      rw [List.reverse_cons, List.reverse_cons, List.length_append, List.length_singleton, List.replicate_succ']
      exact Ows.append (P1 := B) (P2 := A) (Ows.rev h2) (.cons (P1 := A) (P2 := Pno) h1 .nil (fun _ z => z) (fun _ z => z.elim) (fun _ _ z => z)) q2 q1 fun b hb z => q3 b z hb
/-- P.insert(i, e) -/
def insD (ds : List Dt) (as : List Dt) : Option (List Dt) := match as with
  | [.int i, y] => if (lenSz ds.length && (decide (0 ≤ i) && intSz i)) = true then some (ds.take i.toNat ++ [y] ++ ds.drop i.toNat) else none
  | _ => none
theorem insD_some {ds as es : List Dt} (h : insD ds as = some es) : ∃ i y, as = [.int i, y] ∧ (lenSz ds.length && (decide (0 ≤ i) && intSz i)) = true ∧ es = ds.take i.toNat ++ [y] ++ ds.drop i.toNat := by
  unfold insD at h
  split at h
  · split at h
    · cases h
      exact ⟨_, _, rfl, by assumption, rfl⟩
    · cases h
  · cases h
def chgS (f : List Dt → List Dt → Option (List Dt)) (Fp : Ev → Rs (Dt × (Dt → Ev))) (Fs : List (Ev → Rs Dt)) (ρ : Ev) : Ot := bindS (Fp ρ) ρ fun x => match x.1 with
  | .lst ds => bindS (argsE Fs ρ) ρ fun as => match f ds as with
    | some es => .nx (x.2 (.lst es))
    | none => .no
  | _ => .no
abbrev insS := chgS insD
abbrev rIns : V → List V → Hp → VK → Prop := fun x vs H Q => ∃ (l : Addr) (xs : List V) (i : Int) (y : V), x = .ref l ∧ vs = [.int i, y] ∧ H l = some (.lst xs) ∧ xs.length < sizeLine ∧ 0 ≤ i ∧ i < 2 ^ 63 ∧ Q .non (upd H l (.lst (xs.take i.toNat ++ [y] ++ xs.drop i.toNat)))
theorem ss_ins (h : SemP J Γ Fp (.L m) te) (k : SemZ J Γ [.F, m] Fs tr) (hx : Gx J Γ) : SemS J Γ Γ (insS Fp Fs) (tDrop (tBM J.K "list" (fun x vs H Q => ∃ (l : Addr) (xs : List V) (i : Int) (y : V), x = .ref l ∧ vs = [.int i, y] ∧ H l = some (.lst xs) ∧ xs.length < sizeLine ∧ 0 ≤ i ∧ i < 2 ^ 63 ∧ Q .non (upd H l (.lst (xs.take i.toNat ++ [y] ++ xs.drop i.toNat)))) te tr)) := fun {G0 H0 G H ρ σ D} w p => by
  refine h w ((PostS.bind w hx p).imp (fun x _ q v G1 H1 e1 f1 => ?_) fun _ q => q)
  obtain ⟨xd, xp⟩ := x
  have w1 := w.ext e1
  cases xd with
  | lst ds =>
    have q : PostS J G0 H0 G1 Γ D (bindS (argsE Fs ρ) ρ fun as => match insD ds as with
      | some es => .nx (xp (.lst es))
      | none => .no) := q.up e1.g
    obtain ⟨a, us, Pin, rfl, hu, _⟩ := f1.chg w1 (Ext.refl w1.gh)
    refine ⟨.inl ⟨rfl, us, .of hu⟩, ?_⟩
    refine k w1 ((PostS.bind w1 hx q).imp (fun as _ q ys G2 H2 P2 e2 f2 o2 => ?_) fun _ q => q)
    obtain ⟨a', us', Pin', ea, hu', own, pr, fin⟩ := f1.chg w1 e2
    cases ea
    have q : PostS J G0 H0 G1 Γ D (match insD ds as with
      | some es => .nx (xp (.lst es))
      | none => .no) := q
    cases z : insD ds as with
    | none => rw [z] at q; cases q
    | some es =>
      rw [z] at q
      obtain ⟨i, y, rfl, c, rfl⟩ := insD_some z
      cases o2 with
      | @cons _ _ _ _ vi vs2 _ A B oi o3 q1 q2 q3 =>
        cases o3 with
        | @cons _ _ _ _ vy vs3 _ A2 B2 oy o4 r1 r2 r3 =>
          cases o4
          cases oi with
          | F oi =>
            cases oi
            rw [Bool.and_eq_true, Bool.and_eq_true] at c
            have i0 := of_decide_eq_true c.2.1
            have i1 := (intSz_ok c.2.2).2
            have hlen := own.len.1
            refine ⟨a, us', i, vy, rfl, rfl, hu', by rw [← hlen]; exact lenSz_lt c.1, i0, by omega, ?_⟩
            obtain ⟨P1, P3, s1, s2, t1, t2, t3⟩ := own.split i.toNat
            have A2P : ∀ b, A2 b → P2 b := fun b hb => q2 b (r1 b hb)
            refine q.of_nx σ G2 _ e2.g (fin (ds.take i.toNat ++ [y] ++ ds.drop i.toNat) (us'.take i.toNat ++ [vy] ++ us'.drop i.toNat) (fun b => Pin' b ∨ A2 b) ?_ fun b hb => ?_)
            · rw [show List.replicate (ds.take i.toNat ++ [y] ++ ds.drop i.toNat).length m = (List.replicate (ds.take i.toNat).length m ++ [m]) ++ List.replicate (ds.drop i.toNat).length m by
                rw [List.length_append, List.length_append, ← List.replicate_append_replicate, ← List.replicate_append_replicate]
                rfl]
              refine Ows.append (P1 := fun b => P1 b ∨ A2 b) (P2 := P3) (Ows.append (P1 := P1) (P2 := A2) s1 (.cons (P1 := A2) (P2 := Pno) oy .nil (fun _ z => z) (fun _ z => z.elim) (fun _ _ z => z)) (fun _ => .inl) (fun _ => .inr) fun b hb z => ?_) s2 (fun b hb => hb.imp (t1 b) id) (fun b hb => .inl (t2 b hb)) fun b hb z => ?_
              · exact (pr b (t1 b hb)).1 (f2 b (A2P b z)).2.1
              · rcases hb with hb | hb
                · exact t3 b hb z
                · exact (pr b (t2 b z)).1 (f2 b (A2P b hb)).2.1
            · rcases hb with hb | hb
              · exact ⟨(pr b hb).2.1, .inl hb⟩
              · have f := f2 b (A2P b hb)
                refine ⟨fun z => ?_, .inr ⟨f.2.1, f.1, f.2.2⟩⟩
                rw [z, hu] at f
                cases f.2.1
  | _ => cases q
/-- P.extend(e), e's parts frozen -/
def extD (ds : List Dt) (e : Dt) : Option (List Dt) := match e with
  | .lst es => if lenSz (ds.length + es.length) = true then some (ds ++ es) else none
  | _ => none
def chg1S (f : List Dt → Dt → Option (List Dt)) (Fp : Ev → Rs (Dt × (Dt → Ev))) (Fe : Ev → Rs Dt) (ρ : Ev) : Ot := bindS (Fp ρ) ρ fun x => match x.1 with
  | .lst ds => bindS (Fe ρ) ρ fun e => match f ds e with
    | some es => .nx (x.2 (.lst es))
    | none => .no
  | _ => .no
abbrev extS := chg1S extD
theorem ss_ext (h : SemP J Γ Fp (.L .F) te) (k : SemE J Γ .S Fe ta) (hx : Gx J Γ) : SemS J Γ Γ (extS Fp Fe) (tDrop (tBM J.K "list" rExtend te (tCons ta tNil))) := fun {G0 H0 G H ρ σ D} w p => by
  refine h w ((PostS.bind w hx p).imp (fun x _ q v G1 H1 e1 f1 => ?_) fun _ q => q)
  obtain ⟨xd, xp⟩ := x
  have w1 := w.ext e1
  cases xd with
  | lst ds =>
    have q : PostS J G0 H0 G1 Γ D (bindS (Fe ρ) ρ fun e => match extD ds e with
      | some es => .nx (xp (.lst es))
      | none => .no) := q.up e1.g
    obtain ⟨a, us, Pin, rfl, hu, _⟩ := f1.chg w1 (Ext.refl w1.gh)
    refine ⟨.inl ⟨rfl, us, .of hu⟩, ?_⟩
    refine k w1 ((PostS.bind w1 hx q).imp (fun y _ q vy G2 H2 P2 e2 f2 o2 => ?_) fun _ q => q)
    obtain ⟨a', us', Pin', ea, hu', own, pr, fin⟩ := f1.chg w1 e2
    cases ea
    have q : PostS J G0 H0 G1 Γ D (match extD ds y with
      | some es => .nx (xp (.lst es))
      | none => .no) := q
    cases y with
    | lst es =>
      obtain ⟨b, zs, rfl, hz, rz⟩ := S_lst o2
      have q : PostS J G0 H0 G1 Γ D (match (if lenSz (ds.length + es.length) = true then some (ds ++ es) else none) with
        | some es => .nx (xp (.lst es))
        | none => .no) := q
      by_cases c : lenSz (ds.length + es.length) = true
      case neg => rw [if_neg c] at q; cases q
      rw [if_pos c] at q
      refine ⟨a, b, us', zs, rfl, rfl, hu', hz, by rw [← own.len.1, ← rz.length]; exact lenSz_ok c, ?_⟩
      exact q.of_nx σ G2 _ e2.g (fin (ds ++ es) (us' ++ zs) Pno (Rps.own ((own.frozen).append rz)) fun b z => z.elim)
    | _ => cases q
  | _ => cases q
/-- P.reverse(), P.clear() -/
def chg0S (f : List Dt → List Dt) (Fp : Ev → Rs (Dt × (Dt → Ev))) (ρ : Ev) : Ot := bindS (Fp ρ) ρ fun x => match x.1 with
  | .lst ds => .nx (x.2 (.lst (f ds)))
  | _ => .no
abbrev revS := chg0S List.reverse
abbrev clrS := chg0S fun _ => []
theorem ss_rev (h : SemP J Γ Fp (.L m) te) (hx : Gx J Γ) : SemS J Γ Γ (revS Fp) (tDrop (tBM0 J.K "list" rReverse te)) := fun {G0 H0 G H ρ σ D} w p => by
  refine h w ((PostS.bind w hx p).imp (fun x _ q v G1 H1 e1 f1 => ?_) fun _ q => q)
  obtain ⟨xd, xp⟩ := x
  have w1 := w.ext e1
  cases xd with
  | lst ds =>
    obtain ⟨a, us, Pin, rfl, hu, own, pr, fin⟩ := f1.chg w1 (Ext.refl w1.gh)
    refine ⟨.inl ⟨rfl, us, .of hu⟩, a, us, rfl, rfl, hu, ?_⟩
    exact PostS.of_nx q σ G1 _ e1.g (fin ds.reverse us.reverse Pin own.rev fun b hb => ⟨(pr b hb).2.1, .inl hb⟩)
  | _ => cases q
theorem ss_clr (h : SemP J Γ Fp (.L m) te) (hx : Gx J Γ) : SemS J Γ Γ (clrS Fp) (tDrop (tBM0 J.K "list" rClear te)) := fun {G0 H0 G H ρ σ D} w p => by
  refine h w ((PostS.bind w hx p).imp (fun x _ q v G1 H1 e1 f1 => ?_) fun _ q => q)
  obtain ⟨xd, xp⟩ := x
  have w1 := w.ext e1
  cases xd with
  | lst ds =>
    obtain ⟨a, us, Pin, rfl, hu, own, pr, fin⟩ := f1.chg w1 (Ext.refl w1.gh)
    refine ⟨.inl ⟨rfl, us, .of hu⟩, a, us, rfl, rfl, hu, ?_⟩
    exact PostS.of_nx q σ G1 _ e1.g (fin [] [] Pno .nil fun b hb => hb.elim)
  | _ => cases q
end
end Pm
namespace Pm
open PySem PySem.Spec PyProof.Rows L2
open Classical
/-! ### sorted -/
def sortI (ns : List Int) : List Int := ns.mergeSort fun a b => decide (a ≤ b)
theorem sortI_perm (ns : List Int) : (sortI ns).Perm ns := List.mergeSort_perm _ _
theorem sortI_le (ns : List Int) : (sortI ns).Pairwise (· ≤ ·) := by
  have := List.pairwise_mergeSort (le := fun a b : Int => decide (a ≤ b)) (fun a b c h1 h2 => by
    have := of_decide_eq_true h1
    have := of_decide_eq_true h2
    exact decide_eq_true (by omega)) (fun a b => by
    rw [Bool.or_eq_true]
    rcases Int.le_total a b with h | h
    · exact .inl (decide_eq_true h)
    · exact .inr (decide_eq_true h)) ns
  exact this.imp fun h => of_decide_eq_true h
theorem sortI_uniq {ns ms : List Int} (hp : ms.Perm ns) (hs : ms.Pairwise (· ≤ ·)) : ms = sortI ns :=
  List.Perm.eq_of_pairwise (fun a b _ _ h1 h2 => Int.le_antisymm h1 h2) hs (sortI_le ns) (hp.trans (sortI_perm ns).symm)
def leP (p q : Int × Int) : Bool := decide (p.1 < q.1 ∨ (p.1 = q.1 ∧ p.2 ≤ q.2))
theorem leP_iff {p q : Int × Int} : leP p q = true ↔ p.1 < q.1 ∨ (p.1 = q.1 ∧ p.2 ≤ q.2) := decide_eq_true_iff
def sortP (ps : List (Int × Int)) : List (Int × Int) := ps.mergeSort leP
theorem sortP_perm (ps : List (Int × Int)) : (sortP ps).Perm ps := List.mergeSort_perm _ _
theorem sortP_le (ps : List (Int × Int)) : (sortP ps).Pairwise fun p q => leP p q = true :=
  List.pairwise_mergeSort (fun a b c h1 h2 => by
    rw [leP_iff] at h1 h2 ⊢
    omega) (fun a b => by
    rw [Bool.or_eq_true, leP_iff, leP_iff]
    omega) ps
theorem leP_anti {p q : Int × Int} (h1 : leP p q = true) (h2 : leP q p = true) : p = q := by
  rw [leP_iff] at h1 h2
  exact Prod.ext (by omega) (by omega)
theorem sortP_uniq {ps qs : List (Int × Int)} (hp : qs.Perm ps) (hs : qs.Pairwise fun p q => leP p q = true) : qs = sortP ps :=
  List.Perm.eq_of_pairwise (fun a b _ _ h1 h2 => leP_anti h1 h2) hs (sortP_le ps) (hp.trans (sortP_perm ps).symm)
def prD (p : Int × Int) : Dt := .tup [.int p.1, .int p.2]
def prsOf : List Dt → Option (List (Int × Int))
  | [] => some []
  | .tup [.int i, .int j] :: ds => (prsOf ds).map ((i, j) :: ·)
  | _ => none
theorem prsOf_map (ps : List (Int × Int)) : prsOf (ps.map prD) = some ps := by
  induction ps with
  | nil => rfl
  | cons p ps ih => rw [List.map_cons, prD, prsOf, ih]; rfl
theorem prsOf_some : ∀ {ds : List Dt} {ps : List (Int × Int)}, prsOf ds = some ps → ds = ps.map prD
  | [], ps, h => by cases h; rfl
  | d :: ds, ps, h => by
    unfold prsOf at h
    split at h
    · rename_i e
      cases e
    · rename_i i j ds' e
      cases e
      cases q : prsOf ds with
      | none => rw [q] at h; cases h
      | some qs =>
        rw [q] at h
        cases h
        rw [prsOf_some q]
        rfl
    · cases h
def sortID (d : Dt) : Rs Dt := match lisD d with
  | some ds => (match intsOf ds with
    | some ns => .ok (.lst ((sortI ns).map .int))
    | none => .no)
  | none => .no
def sortIE := op1E sortID
def sortPD (d : Dt) : Rs Dt := match d with
  | .lst ds => (match prsOf ds with
    | some ps => .ok (.lst ((sortP ps).map prD))
    | none => .no)
  | _ => .no
def sortPE := op1E sortPD
section
variable {J : Jc} {Γ : List Mode} {F : Ev → Rs Dt} {te : TE} {G0 H0 G H G' H' : Hp} {ρ : Ev} {σ : L2.St}
theorem rps_intsV {K : PySem.W.Frag} {ca : Str → Addr} : ∀ ns : List Int, Rps K ca G (ns.map Dt.int) (ns.map V.int)
  | [] => .nil
  | n :: ns => .cons (.int n) (rps_intsV ns)
theorem se_sortI (h : SemE J Γ .S F te) : SemE J Γ (.o (.L .F)) (sortIE F) (tCB (rSortedI J.K) (tCons te tNil)) := fun {G0 H0 G H ρ σ Q} w p => by
  refine h w (p.bind.imp (fun d _ q v G1 H1 P1 e1 _ r1 => ?_) fun _ q => q)
  have go : ∀ ds, (d = .lst ds ∨ d = .scr ds) → lisD d = some ds → (rSortedI J.K) [v] H1 Q := fun ds hd hl => by
    unfold sortID at q
    rw [hl] at q
    have q : Rs.Post _ _ (match intsOf ds with
      | some ns => Rs.ok (Dt.lst ((sortI ns).map .int))
      | none => Rs.no) := q
    cases z : intsOf ds with
    | none => rw [z] at q; cases q
    | some ns =>
      rw [z] at q
      obtain ⟨a, vs, rfl, sq, r⟩ := r1.2 ds (hd.elim .inl fun x => .inr (.inl x))
      have ev := rps_ints z r
      subst ev
      have sl : SqL J.K H1 a (ns.map V.int) := by
        rcases sq with ⟨_, s⟩ | ⟨_, s⟩ | ⟨e, _⟩
        · exact .of s
        · exact s
        · rcases hd with hd | hd <;> rw [hd] at e <;> cases e
      refine ⟨a, ns, rfl, sl, fun ns' p hp hs hn => ?_⟩
      rw [sortI_uniq hp hs]
      obtain ⟨e2, f2, o2⟩ := new_lst e1.gh hn (rps_intsV (K := J.K) (ca := J.ca) (G := G1) (sortI ns))
      exact q.of_ok (.ref p) G1 _ _ (e1.trans e2) (fun b hb => ⟨(f2 b hb).1, e1.h.free (f2 b hb).2.1, (f2 b hb).2.2⟩) o2
  cases d with
  | lst ds => exact go ds (.inl rfl) rfl
  | scr ds => exact go ds (.inr rfl) rfl
  | _ => unfold sortID at q; cases q
noncomputable def keyV (H : Hp) (x : V) : Int × Int := if h : ∃ p : Int × Int, ∃ t, x = .ref t ∧ H t = some (.tup [.int p.1, .int p.2]) then h.choose else (0, 0)
theorem keyV_eq {H : Hp} {t : Addr} {p : Int × Int} (h : H t = some (.tup [.int p.1, .int p.2])) : keyV H (.ref t) = p := by
  have ex : ∃ p : Int × Int, ∃ t', V.ref t = .ref t' ∧ H t' = some (.tup [.int p.1, .int p.2]) := ⟨p, t, rfl, h⟩
  unfold keyV
  rw [dif_pos ex]
  obtain ⟨t', e, h'⟩ := ex.choose_spec
  cases e
  rw [h] at h'
  simp only [Option.some.injEq, HO.tup.injEq, List.cons.injEq, V.int.injEq, and_true] at h'
  exact Prod.ext h'.1.symm h'.2.symm
theorem rps_pairs {K : PySem.W.Frag} {ca : Str → Addr} : ∀ {ps : List (Int × Int)} {vs : List V}, Rps K ca G (ps.map prD) vs → (∀ x ∈ vs, ∃ t, x = V.ref t ∧ G t = some (.tup [.int (keyV G x).1, .int (keyV G x).2])) ∧ vs.map (keyV G) = ps
  | [], vs, h => by cases h; exact ⟨fun x hx => absurd hx (by simp), rfl⟩
  | p :: ps, vs, h => by
    cases h with
    | @cons _ _ v vs h1 h2 =>
      obtain ⟨i1, i2⟩ := rps_pairs h2
      cases h1 with
      | tup k1 k2 =>
        obtain ⟨a, b, rfl, ra, rb⟩ := k2.two
        cases ra
        cases rb
        have e := keyV_eq k1
        refine ⟨fun x hx => ?_, by rw [List.map_cons, e, i2]⟩
        rcases List.mem_cons.mp hx with rfl | hx
        · exact ⟨_, rfl, by rw [e]; exact k1⟩
        · exact i1 x hx
theorem rps_of {K : PySem.W.Frag} {ca : Str → Addr} : ∀ {ys : List V}, (∀ x ∈ ys, ∃ t, x = V.ref t ∧ G t = some (.tup [.int (keyV G x).1, .int (keyV G x).2])) → Rps K ca G ((ys.map (keyV G)).map prD) ys
  | [], _ => .nil
  | y :: ys, h => by
    obtain ⟨t, e, ht⟩ := h y List.mem_cons_self
    refine .cons ?_ (rps_of fun x hx => h x (List.mem_cons_of_mem _ hx))
    generalize hk : keyV G y = k at ht
    subst e
    exact .tup ht (.cons (.int _) (.cons (.int _) .nil))
theorem se_sortP (h : SemE J Γ .S F te) : SemE J Γ (.o (.L .F)) (sortPE F) (tCB (rSortedPO J.K) (tCons te tNil)) := fun {G0 H0 G H ρ σ Q} w p => by
  refine h w (p.bind.imp (fun d _ q v G1 H1 P1 e1 _ r1 => ?_) fun _ q => q)
  cases d with
  | lst ds =>
    have q : Rs.Post _ _ (match prsOf ds with
      | some ps => Rs.ok (Dt.lst ((sortP ps).map prD))
      | none => Rs.no) := q
    cases z : prsOf ds with
    | none => rw [z] at q; cases q
    | some ps =>
      rw [z] at q
      obtain ⟨a, vs, rfl, hs, r⟩ := S_lst r1
      rw [prsOf_some z] at r
      obtain ⟨c1, c2⟩ := rps_pairs r
      refine ⟨a, vs, keyV G1, rfl, .of hs, fun x hx => ?_, fun ys l hsrt hstb hl => ?_⟩
      · obtain ⟨t, e, ht⟩ := c1 x hx
        exact ⟨t, e, e1.gh _ _ ht⟩
      · have hmem : ∀ x ∈ ys, ∃ t, x = V.ref t ∧ G1 t = some (.tup [.int (keyV G1 x).1, .int (keyV G1 x).2]) := fun x hx => c1 x (hstb.perm.mem_iff.mp hx)
        have hps : ys.map (keyV G1) = sortP ps := by
          refine sortP_uniq ?_ ?_
          · rw [← c2]
            exact hstb.perm.map _
          · rw [List.pairwise_map]
            refine List.Pairwise.imp (fun {x y} hxy => ?_) hsrt
            have hxy := SrtO.lexB_no.mp hxy
            rw [leP_iff]
            omega
        obtain ⟨e2, f2, o2⟩ := new_lst e1.gh hl (rps_of (K := J.K) (ca := J.ca) hmem)
        rw [hps] at o2
        exact q.of_ok (.ref l) G1 _ _ (e1.trans e2) (fun b hb => ⟨(f2 b hb).1, e1.h.free (f2 b hb).2.1, (f2 b hb).2.2⟩) o2
  | _ => cases q
end
end Pm
namespace RT
open PySem PySem.Spec PyProof.Rows
open AutoSeq1 (wpAny_loadPart')
/-! ### list(reversed(a list)) -/
section
variable {prog : Program} {w : World} {A : Around} {E : Value → Shared → Prop} {s : Shared}
theorem pm_ext_rev {R : Result → Shared → Prop} {it l : Addr} {items : Array Value} (hh : A.handled = none)
    (hit : s.heap.IsRevIter it l ((items.size : Int) - 1)) (hl : s.heap.IsList l items) (hne : l ≠ it) (hn : items.size ≤ sizeLine)
    (S : Addr) (hSi : S ≠ it) (hSl : S ≠ l) (res : Value) (c0 : Nat) (hS : s.heap.get? S = some { cls := .type "list", data := .seq #[] c0 })
    (hR : ∀ h' tk acc c', (∀ b o, b ≠ S → b ≠ it → s.heap.get? b = some o → h'.get? b = some o) → h'.get? S = some { cls := .type "list", dict := none, data := .seq acc c', slots := #[] } →
      ItemsOf (fun i v => items[items.size - 1 - i]? = some v) acc items.size → R (.ok (.ret res)) { s with heap := h', toks := tk }) :
    wpAny (model prog w) A.in1 (Builtin.List.listExtendWith (.ref S) (.ref it) res)
      (fun fin s' => match fin with
        | .done f => R (.ok f) s'
        | .again c' => c'.quiet = true ∧ codeAny (model prog w) A c' R s') (fun e s' => R (.error e) s') s := by
  have walks := (Walks.listRev (prog := prog) (w := w) (A := A.in1) hh it l hne items).toS
  have out : S ∉ [it, l] := by
    simp only [List.mem_cons, List.not_mem_nil, or_false, not_or]
    exact ⟨hSi, hSl⟩
  have hT : s.TypeIs (.ref it) "list_reverseiterator" := hit.typeIs
  have diff : Builtin.List.listSameRef (.ref S) (.ref it) = false := by
    simp [Builtin.List.listSameRef, hSi]
  have start0 : ((items.size : Nat) : Int) - 1 - ((0 : Nat) : Int) = (items.size : Int) - 1 := by omega
  unfold Builtin.List.listExtendWith
  refine wpAny_bind (wpAny_typeOf hT ?_)
  rw [if_neg (by rw [diff]; decide)]
  refine wpAny_bind (wpAny_pyIter_revIter hit ?_)
  refine wpAny_bind (wpAny_holding ?_)
  unfold Builtin.List.listLengthHint
  refine wpAny_bind (wpAny_specialOf hT nolen_lri ?_)
  show wpAny _ A.in1 (specialOf (Value.ref it) (Str.ofString "__length_hint__") >>= _) _ _ _
  refine wpAny_bind (wpAny_specialOf hT hint_lri ?_)
  generalize hid : ("list_reverseiterator.__length_hint__" : String) = idn
  wp_delta
  rw [show splitId idn = some ("list_reverseiterator", "__length_hint__") by subst hid; decide +kernel]
  subst hid
  refine wpAny_bind (wpAny_isInstance (b := true) hT (by rw [isSubtype_type]; kernel_rfl) ?_)
  refine wpAny_pure ?_
  rw [if_neg (by decide)]
  refine wpAny_pure ⟨plainId_quiet F.plain_extend_loop _, codeAny_extend_loopS walks hn S out res items.size 0 _ #[] c0 rfl (Nat.zero_le _)
    ⟨Nat.zero_le _, by rw [start0]; exact hit, hl⟩ hS (ItemsOf.nil _) fun s' acc c' moved hS' hacc => ?_⟩
  rw [Moved.eq_with moved]
  refine hR s'.heap s'.toks acc c' (fun b o hb hb2 e => moved.heap b o (fun mem => ?_) e) hS' hacc
  rcases List.mem_cons.mp mem with e' | mem
  · exact hb e'
  · exact hb2 (List.mem_singleton.mp mem)
theorem pm_init_rev {R : Result → Shared → Prop} {it l : Addr} {items : Array Value} (hh : A.handled = none)
    (hit : s.heap.IsRevIter it l ((items.size : Int) - 1)) (hl : s.heap.IsList l items) (hne : l ≠ it) (hn : items.size ≤ sizeLine)
    (S : Addr) (hSi : S ≠ it) (hSl : S ≠ l) (hS : s.heap.get? S = some { cls := .type "list", data := .seq #[] })
    (hR : ∀ h' tk acc c', (∀ b o, b ≠ S → b ≠ it → s.heap.get? b = some o → h'.get? b = some o) → h'.get? S = some { cls := .type "list", dict := none, data := .seq acc c', slots := #[] } →
      ItemsOf (fun i v => items[items.size - 1 - i]? = some v) acc items.size → R (.ok (.ret .none)) { s with heap := h', toks := tk }) :
    wpAny (model prog w) A.in1 (Builtin.«list.__init__» ⟨[.ref S, .ref it], []⟩)
      (fun fin s' => match fin with
        | .done f => R (.ok f) s'
        | .again c' => c'.quiet = true ∧ codeAny (model prog w) A c' R s') (fun e s' => R (.error e) s') s := by
  show wpAny _ _ (do
    let old ← Builtin.List.listItems (.ref S)
    Builtin.List.listUpdate (.ref S) (fun _ => #[])
    letGo old.toList.reverse
    Builtin.List.listExtendWith (.ref S) (.ref it) .none) _ _ s
  refine wpAny_bind ?_
  unfold Builtin.List.listItems
  refine wpAny_bind (wpAny_seqItems hS rfl (wpAny_pure ?_))
  show wpAny _ _ (updateSeq S (fun _ => #[]) >>= fun _ =>
    letGo (#[] : Array Value).toList.reverse >>= fun _ => Builtin.List.listExtendWith (.ref S) (.ref it) .none) _ _ s
  refine wpAny_bind (wpAny_updateSeq hS rfl ?_)
  have hS2 := Heap.get?_update_self (Obj.mapSeq (fun _ => (#[] : Array Value))) hS rfl
  have oth : ∀ b, b ≠ S → (s.heap.update S (Obj.mapSeq (fun _ => (#[] : Array Value)))).get? b = s.heap.get? b :=
    fun b hb => Heap.get?_update_other _ _ (Ne.symm hb)
  refine wpAny_bind (wpAny_letGo ?_)
  refine pm_ext_rev hh (hit.at fun o e => (oth it (Ne.symm hSi)).trans e) ?_ hne hn S hSi hSl .none _ hS2 fun h' tk acc c' hk hS' hacc => ?_
  · obtain ⟨o, ho, rest⟩ := hl
    exact ⟨o, (oth l (Ne.symm hSl)).trans ho, rest⟩
  · exact hR h' tk acc c' (fun b o hb hb2 e => hk b o hb hb2 ((oth b hb).trans e)) hS' hacc
theorem pm_list_rev {Q : Value → Shared → Prop} {it l : Addr} {items : Array Value} (hh : A.handled = none)
    (hit : s.heap.IsRevIter it l ((items.size : Int) - 1)) (hl : s.heap.IsList l items) (hne : l ≠ it) (hn : items.size ≤ sizeLine)
    (hQ : ∀ h' tk acc c', (∀ b o, b ≠ it → s.heap.get? b = some o → h'.get? b = some o) →
      h'.get? s.heap.objs.size = some { cls := .type "list", dict := none, data := .seq acc c', slots := #[] } →
      ItemsOf (fun i v => items[items.size - 1 - i]? = some v) acc items.size → Q (.ref s.heap.objs.size) { s with heap := h', toks := tk }) :
    wpAny (model prog w) A (call (.type "list") [.ref it]) Q E s := by
  obtain ⟨oi, hoi, ri⟩ := id hit
  obtain ⟨ol, hol, rl⟩ := id hl
  refine callType_codes (Q₁ := fun obj s₁ => obj = .ref s.heap.objs.size ∧
    s₁ = { s with heap := s.heap.push { cls := .type "list", data := .seq #[] } }) F.called_list (F.typeCall_list_1 _)
    F.entry_list_init (code_list_new _ ⟨rfl, rfl⟩) fun obj s₁ h₁ => ?_
  obtain ⟨rfl, rfl⟩ := h₁
  have hS : (s.heap.push { cls := .type "list", data := .seq #[] }).get? s.heap.objs.size =
    some { cls := .type "list", data := .seq #[] } := Heap.get?_push_size _ rfl
  refine ⟨⟨_, hS, rfl⟩, F.args_list_init_2 _ _, pm_init_rev (A := A.in1) hh (hit.at fun o e => Heap.get?_push_of_some _ e) (hl.push _) hne hn _
    (Nat.ne_of_gt (Heap.lt_size hoi)) (Nat.ne_of_gt (Heap.lt_size hol)) hS fun h' tk acc c' hk hS' hacc => ?_⟩
  exact ⟨rfl, hQ h' tk acc c' (fun b o hb e => hk b o (Nat.ne_of_lt (Heap.lt_size e)) hb (Heap.get?_push_of_some _ e)) hS' hacc⟩
end
end RT
namespace Pm
open PySem PySem.Spec PyProof.Rows L2 RT
def tLstRev (K : PySem.W.Frag) (te : TE) : TE := fun σ H Q => te σ H fun v H1 => ∃ (a : Addr) (xs : List V), v = .ref a ∧ SqL K H1 a xs ∧ ∀ q, H1 q = none → Q (.ref q) (upd H1 q (.lst xs.reverse))
section
variable {X : Cx}
theorem pe_listRev {e : Expr} {te : TE} {p p2 pos pos2 : Pos} (hc : X.calm = true) (hg : Gl X "list") (hm : X.mg "list" = none) (hg2 : Gl X "reversed") (hm2 : X.mg "reversed" = none) (he : PE X e te)
    (one : starEach [e] X.env = (false, eval e X.env) :: starEach [] X.env := by rfl)
    (two : starEach [.Call (.Name "reversed" p2) [e] [] pos2] X.env = (false, eval (.Call (.Name "reversed" p2) [e] [] pos2) X.env) :: starEach [] X.env := by rfl) :
    PE X (.Call (.Name "list" p) [.Call (.Name "reversed" p2) [e] [] pos2] [] pos) (tLstRev X.K te) := by
  refine ⟨fun pins s σ H Q I h => ?_⟩
  refine Call_ (ld_blt I hg hm boot_list (PyProof.Rows.callWith_type1 (args_cons (Call_ (ld_blt I hg2 hm2 PyProof.Rows.boot_reversed
    (PyProof.Rows.callWith_type1 (args_cons (thn (he.run pins s σ H _ I h) fun u s1 ⟨v, H1, I1, r1, q1⟩ => args_nil ?_) one) one rfl))) two) two rfl))
  obtain ⟨a, xs, ev, hq, q⟩ := q1
  subst ev
  obtain rfl : u = Value.ref a := r1
  obtain ⟨its, rv, pl, hz⟩ := I1.list hq
  have isl := pl.isList
  refine call_reversed_list isl (args_nil ?_)
  have grows : ∀ b o, s1.heap.get? b = some o → (s1.heap.push (revObj a ((its.toArray.size : Int) - 1))).get? b = some o := fun b o e => Heap.get?_push_of_some _ e
  have I2 : Inv X pins σ H1 { s1 with heap := s1.heap.push (revObj a ((its.toArray.size : Int) - 1)) } := I1.kept (t' := s1.toks) grows
  obtain ⟨ol, hol, _⟩ := id isl
  have apart : a ≠ s1.heap.objs.size := Nat.ne_of_lt (Heap.lt_size hol)
  have fits : its.toArray.size ≤ sizeLine := by
    rw [List.size_toArray, ← rv.length]
    exact hz
  refine pm_list_rev (s := { s1 with heap := s1.heap.push (revObj a ((its.toArray.size : Int) - 1)) }) (I1.ok.hd hc)
    ⟨_, Heap.get?_push_size _ rfl, rfl, rfl⟩ (isl.push _) apart fits fun h' tk acc c' hk hS hi => ?_
  have vals := vals_rev rv hi
  have I3 : Inv X pins σ (upd H1 (s1.heap.push (revObj a ((its.toArray.size : Int) - 1))).objs.size (.lst xs.reverse)) { s1 with heap := h', toks := tk } :=
    I2.turnedNew (ch := [s1.heap.objs.size]) (t' := tk) (fun b o hb e => hk b o (fun z => hb (by rw [z]; exact List.mem_singleton.mpr rfl)) e)
      (fun b hb => by rw [List.mem_singleton.mp hb]; exact I1.fpOk (Nat.le_refl _) (I1.hok.fresh (Nat.le_refl _))) (Nat.le_refl _)
      (show ObjOk X.prog X.w _ _ _ (.lst xs.reverse) from ⟨by rw [List.length_reverse]; exact hz, acc.toList, c', vals, by rw [Array.toArray_toList]; exact hS⟩)
  exact ⟨.ref (s1.heap.push (revObj a ((its.toArray.size : Int) - 1))).objs.size, _, I3, rfl, q _ (I2.hok.fresh (Nat.le_refl _))⟩
end
/-! readings -/
section
variable {J : Jc} {Γ : List Mode} {em : EM} {m : Mode} {Fs : List (Ev → Rs Dt)} {F Fa Fb : Ev → Rs Dt} {te ta tb : TE} {tr : TA} {G0 H0 G H G' H' : Hp} {ρ : Ev} {σ : L2.St}
def lrevD (d : Dt) : Rs Dt := match lisD d with
  | some ds => .ok (.lst ds.reverse)
  | none => .no
def lrevE := op1E lrevD
theorem S_lis {K : PySem.W.Frag} {ca : Str → Addr} {d : Dt} {v : V} {P : Addr → Prop} {ds : List Dt} (h : Res K ca G H .S d v P) (q : lisD d = some ds) : ∃ a vs, v = .ref a ∧ SqL K H a vs ∧ Rps K ca G ds vs := by
  cases d with
  | lst es =>
    cases q
    obtain ⟨a, vs, e, s, r⟩ := S_lst h
    exact ⟨a, vs, e, .of s, r⟩
  | scr es =>
    cases q
    obtain ⟨a, vs, e, sq, r⟩ := h.2 _ (.inr (.inl rfl))
    rcases sq with ⟨z, _⟩ | ⟨_, s⟩ | ⟨z, _⟩ <;> try cases z
    exact ⟨a, vs, e, s, r⟩
  | _ => cases q
theorem se_lrev (h : SemE J Γ .S F te) : SemE J Γ (.o (.L .F)) (lrevE F) (tLstRev J.K te) := fun {G0 H0 G H ρ σ Q} w p => by
  refine h w (p.bind.imp (fun d _ q v G1 H1 P1 e1 _ r1 => ?_) fun _ q => q)
  unfold lrevD at q
  cases z : lisD d with
  | none => rw [z] at q; cases q
  | some ds =>
    rw [z] at q
    obtain ⟨a, vs, rfl, s, r⟩ := S_lis r1 z
    refine ⟨a, vs, rfl, s, fun l hl => ?_⟩
    obtain ⟨e2, f2, o2⟩ := new_lst e1.gh hl r.reverse
    exact q.of_ok (.ref l) G1 _ _ (e1.trans e2) (fun b hb => ⟨(f2 b hb).1, e1.h.free (f2 b hb).2.1, (f2 b hb).2.2⟩) o2
def trevD (d : Dt) : Rs Dt := match lisD d with
  | some ds => .ok (.tup ds.reverse)
  | none => .no
def tupRevE := op1E trevD
theorem se_tupRev (h : SemE J Γ .S F te) : SemE J Γ (.o .F) (tupRevE F) (tTupRev J.K te) := fun {G0 H0 G H ρ σ Q} w p => by
  refine h w (p.bind.imp (fun d _ q v G1 H1 P1 e1 _ r1 => ?_) fun _ q => q)
  unfold trevD at q
  cases z : lisD d with
  | none => rw [z] at q; cases q
  | some ds =>
    rw [z] at q
    obtain ⟨a, vs, rfl, s, r⟩ := S_lis r1 z
    refine ⟨a, vs, rfl, s, fun l hl => ?_⟩
    obtain ⟨e2, o2⟩ := new_tup e1.gh hl r.reverse
    exact q.of_ok _ _ _ Pno (e1.trans e2) Fr.no (.F o2)
/-- list(range(..)) -/
def lrng1E (F : Ev → Rs Dt) (ρ : Ev) : Rs Dt := F ρ >>= fun d => match d with
  | .int j => if intSz j = true then (if lenSz j.toNat = true then .ok (.lst (rangeL 0 j.toNat)) else .no) else .no
  | _ => .no
theorem rps_rg {K : PySem.W.Frag} {ca : Str → Addr} (a b : Int) : Rps K ca G (rangeL a (b - a).toNat) (rgV a b) := by
  unfold rangeL rgV
  generalize (b - a).toNat = n
  have : ∀ l : List Nat, Rps K ca G (l.map fun i => Dt.int (a + (i : Nat))) (l.map fun i => V.int (a + (i : Nat))) := fun l => by
    induction l with
    | nil => exact .nil
    | cons x l ih => exact .cons (.int _) ih
  exact this _
theorem se_lrng1 (h : SemE J Γ .B F te) : SemE J Γ (.o (.L .F)) (lrng1E F) (tLstRg (tRg1 te)) := fun {G0 H0 G H ρ σ Q} w p => by
  refine h w (p.bind.imp (fun d _ q v G1 H1 P1 e1 _ r1 => ?_) fun _ q => q)
  cases r1 with
  | int j =>
    have q : Rs.Post _ _ (if intSz j = true then (if lenSz j.toNat = true then Rs.ok (Dt.lst (rangeL 0 j.toNat)) else .no) else .no) := q
    by_cases c : intSz j = true
    case neg => rw [if_neg c] at q; cases q
    rw [if_pos c] at q
    by_cases c2 : lenSz j.toNat = true
    case neg => rw [if_neg c2] at q; cases q
    rw [if_pos c2] at q
    have b1 := intSz_ok c
    have b2 := lenSz_le c2
    refine ⟨j, rfl, ⟨by omega, by omega, by omega, by omega, by rw [Int.sub_zero]; omega⟩, fun l hl => ?_⟩
    have r := rps_rg (K := J.K) (ca := J.ca) (G := G1) 0 j
    rw [Int.sub_zero] at r
    obtain ⟨e2, f2, o2⟩ := new_lst e1.gh hl r
    exact q.of_ok (.ref l) G1 _ _ (e1.trans e2) (fun b hb => ⟨(f2 b hb).1, e1.h.free (f2 b hb).2.1, (f2 b hb).2.2⟩) o2
  | _ => cases q
/-- divmod -/
def dvmD : Dt → Dt → Rs Dt
  | .int i, .int j => if divOk j = true then .ok (.tup [.int (i / j), .int (i % j)]) else .no
  | _, _ => .no
def divmodE := op2E dvmD
theorem se_divmod (ha : SemE J Γ .B Fa ta) (hb : SemE J Γ .B Fb tb) : SemE J Γ (.o .F) (divmodE Fa Fb) (tCB (fun xs H Q => ∃ i j, xs = [.int i, .int j] ∧ CDiv i j ∧ ∀ p, H p = none → Q (.ref p) (upd H p (.tup [.int (i / j), .int (i % j)]))) (tCons ta (tCons tb tNil))) := fun {G0 H0 G H ρ σ Q} w p => by
  refine ha w (p.bind.imp (fun a _ p1 x G1 H1 _ e1 _ ra => ?_) fun _ q => q)
  refine hb (w.ext e1) (p1.bind.imp (fun b _ q y G2 H2 _ e2 _ rb => ?_) fun _ q H' dx s => q H' dx (e1.h.trans s))
  cases ra with
  | int i =>
    cases rb with
    | int j =>
      have q : Rs.Post _ _ (if divOk j = true then Rs.ok (Dt.tup [.int (i / j), .int (i % j)]) else .no) := q
      by_cases c : divOk j = true
      case neg => rw [if_neg c] at q; cases q
      rw [if_pos c] at q
      unfold divOk at c
      rw [Bool.and_eq_true] at c
      refine ⟨i, j, rfl, ⟨of_decide_eq_true c.1, of_decide_eq_true c.2⟩, fun l hl => ?_⟩
      obtain ⟨e3, o3⟩ := new_tup (K := J.K) (ca := J.ca) e2.gh hl (.cons (.int (i / j)) (.cons (.int (i % j)) .nil))
      exact q.of_ok _ _ _ Pno ((e1.trans e2).trans e3) Fr.no (.F o3)
    | _ => cases q
  | _ => cases rb <;> cases q
end
end Pm
namespace Pm
open PySem PySem.Spec PyProof.Rows L2
open Classical
/-! ### dicts whose values are frozen -/
section
variable {κ : Type} [DecidableEq κ] {α β : Type}
def lookK (ks : List κ) (ds : List α) (k : κ) : Option α := ((ks.zip ds).find? fun q => decide (q.1 = k)).map (·.2)
def hasK (ks : List κ) (k : κ) : Bool := ks.any fun q => decide (q = k)
def putKs (ks : List κ) (k : κ) : List κ := if hasK ks k = true then ks else ks ++ [k]
def putDs (ks : List κ) (ds : List α) (k : κ) (d : α) : List α := if hasK ks k = true then (ks.zip ds).map (fun q => if q.1 = k then d else q.2) else ds ++ [d]
theorem hasK_zip : ∀ {ks : List κ} {ds : List α} {k : κ}, ks.length = ds.length → ((ks.zip ds).any fun q => decide (q.1 = k)) = hasK ks k
  | [], _, _, _ => rfl
  | _ :: _, [], _, h => by cases h
  | a :: ks, d :: ds, k, h => by
    show (decide (a = k) || (ks.zip ds).any fun q => decide (q.1 = k)) = (decide (a = k) || hasK ks k)
    rw [hasK_zip (by simpa using h)]
theorem map_zip_fst {ks : List κ} {ds : List α} {k : κ} {d : α} (h : ks.length = ds.length) : (ks.zip ds).map (fun q => if q.1 = k then (q.1, d) else q) = ks.zip ((ks.zip ds).map fun q => if q.1 = k then d else q.2) := by
  induction ks generalizing ds with
  | nil => rfl
  | cons a ks ih =>
    cases ds with
    | nil => cases h
    | cons b ds =>
      rw [List.zip_cons_cons, List.map_cons, List.map_cons, List.zip_cons_cons, ih (by simpa using h)]
      congr 1
      split <;> rfl
theorem putK_zip {ks : List κ} {vs : List V} {k : κ} {v : V} (h : ks.length = vs.length) : putK (ks.zip vs) k v = (putKs ks k).zip (putDs ks vs k v) := by
  unfold putK putKs putDs
  rw [hasK_zip h]
  cases hasK ks k with
  | true =>
    rw [if_pos rfl, if_pos rfl, if_pos rfl]
    exact map_zip_fst h
  | false =>
    rw [if_neg (by simp), if_neg (by simp), if_neg (by simp), List.zip_append h]
    rfl
theorem putL_length {ks : List κ} {ds : List α} {k : κ} {d : α} (h : ks.length = ds.length) : (putKs ks k).length = (putDs ks ds k d).length := by
  unfold putKs putDs
  split
  · rw [List.length_map, List.length_zip, h, Nat.min_self]
  · rw [List.length_append, List.length_append, h]; rfl
variable {K : PySem.W.Frag} {ca : Str → Addr} {H : Hp}
theorem lookK_rps : ∀ {ks : List κ} {ds : List Dt} {vs : List V} {k : κ}, Rps K ca H ds vs → ks.length = vs.length → (∃ d v, lookK ks ds k = some d ∧ valV (ks.zip vs) k = some v ∧ Rp K ca H d v) ∨ (lookK ks ds k = none ∧ valV (ks.zip vs) k = none)
  | [], _, _, _, _, _ => .inr ⟨rfl, rfl⟩
  | a :: ks, [], vs, k, h, hl => by cases h; cases hl
  | a :: ks, d :: ds, vs, k, h, hl => by
    cases h with
    | @cons _ _ v vs h1 h2 =>
      by_cases e : a = k
      · left
        refine ⟨d, v, ?_, ?_, h1⟩
        · unfold lookK
          rw [List.zip_cons_cons, List.find?_cons_of_pos (by simpa using e)]
          rfl
        · rw [List.zip_cons_cons]
          exact valV_pos e
      · have ih := lookK_rps (ks := ks) (k := k) h2 (by simpa using hl)
        have e1 : lookK (a :: ks) (d :: ds) k = lookK ks ds k := by
          unfold lookK
          rw [List.zip_cons_cons, List.find?_cons_of_neg (by simpa using e)]
        have e2 : valV ((a :: ks).zip (v :: vs)) k = valV (ks.zip vs) k := by
          rw [List.zip_cons_cons]
          exact valV_neg e
        rw [e1, e2]
        exact ih
theorem mapK_rps {k : κ} {d : Dt} {v : V} (r : Rp K ca H d v) : ∀ {ks : List κ} {ds : List Dt} {vs : List V}, Rps K ca H ds vs → Rps K ca H ((ks.zip ds).map fun q => if q.1 = k then d else q.2) ((ks.zip vs).map fun q => if q.1 = k then v else q.2)
  | [], _, _, _ => .nil
  | a :: ks, [], _, h => by cases h; exact .nil
  | a :: ks, d' :: ds, _, h => by
    cases h with
    | cons h1 h2 =>
      rw [List.zip_cons_cons, List.zip_cons_cons, List.map_cons, List.map_cons]
      refine .cons ?_ (mapK_rps r h2)
      show Rp K ca H (if a = k then d else d') (if a = k then v else _)
      split
      · exact r
      · exact h1
theorem putDs_rps {ks : List κ} {ds : List Dt} {vs : List V} {k : κ} {d : Dt} {v : V} (h : Rps K ca H ds vs) (hl : ks.length = vs.length) (r : Rp K ca H d v) : Rps K ca H (putDs ks ds k d) (putDs ks vs k v) := by
  unfold putDs
  split
  · exact mapK_rps r h
  · exact h.append (.cons r .nil)
end
def flatKs : List Dt → Option (List Key)
  | [] => some []
  | .int i :: ds => (flatKs ds).map (.inl i :: ·)
  | .str x :: ds => (flatKs ds).map (.inr x :: ·)
  | _ => none
def keyD : Dt → Option (Key ⊕ List Key)
  | .int i => some (.inl (.inl i))
  | .str x => some (.inl (.inr x))
  | .tup ds => (flatKs ds).map .inr
  | _ => none
section
variable {K : PySem.W.Frag} {ca : Str → Addr} {H : Hp}
theorem flatKs_rps : ∀ {ds : List Dt} {ks : List Key} {vs : List V}, flatKs ds = some ks → Rps K ca H ds vs → vs = ks.map kV
  | [], ks, vs, h, r => by cases h; cases r; rfl
  | d :: ds, ks, vs, h, r => by
    cases r with
    | cons r1 r2 =>
      cases d with
      | int i =>
        cases q : flatKs ds with
        | none => simp [flatKs, q] at h
        | some l =>
          have e : Sum.inl i :: l = ks := by simpa [flatKs, q] using h
          subst e
          cases r1
          rw [flatKs_rps q r2]
          rfl
      | str i =>
        cases q : flatKs ds with
        | none => simp [flatKs, q] at h
        | some l =>
          have e : Sum.inr i :: l = ks := by simpa [flatKs, q] using h
          subst e
          cases r1
          rw [flatKs_rps q r2]
          rfl
      | _ => simp [flatKs] at h
def dgetD (d k : Dt) : Rs (Option Dt) := match d, keyD k with
  | .dic ks ds, some (.inl x) => .ok (lookK ks ds x)
  | .dit ks ds, some (.inr x) => .ok (lookK ks ds x)
  | _, _ => .no
theorem keyL {k : Dt} {x : Key} {y : V} (h : keyD k = some (.inl x)) (r : Rp K ca H k y) : y = kV x := by
  cases r with
  | int i => cases h; rfl
  | str i => cases h; rfl
  | @tup _ _ ds _ _ => cases q : flatKs ds <;> simp [keyD, q] at h
  | _ => simp [keyD] at h
theorem keyR {k : Dt} {x : List Key} {y : V} (h : keyD k = some (.inr x)) (r : Rp K ca H k y) : ∃ b, y = .ref b ∧ H b = some (.tup (x.map kV)) := by
  cases r with
  | int i => simp [keyD] at h
  | str i => simp [keyD] at h
  | @tup a vs ds h1 h2 =>
    cases q : flatKs ds with
    | none => simp [keyD, q] at h
    | some l =>
      have e : l = x := by simpa [keyD, q] using h
      subst e
      rw [flatKs_rps q h2] at h1
      exact ⟨a, rfl, h1⟩
  | _ => simp [keyD] at h
/-- what stands at a key -/
theorem dget_run {d k : Dt} {o : Option Dt} {x y : V} (q : dgetD d k = .ok o) (rd : Rp K ca H d x) (rk : Rp K ca H k y) : ∃ a, x = .ref a ∧ ((∃ e v, o = some e ∧ DGet H a y (some v) ∧ Rp K ca H e v) ∨ (o = none ∧ DGet H a y none)) := by
  cases rd with
  | @dic a ks vs ds h1 h2 h3 =>
    cases z : keyD k with
    | none => simp [dgetD, z] at q
    | some s =>
      cases s with
      | inr l => simp [dgetD, z] at q
      | inl l =>
        have e : lookK ks ds l = o := by simpa [dgetD, z] using q
        subst e
        have ey := keyL z rk
        subst ey
        have dg := DGet.k (k := l) h1
        refine ⟨a, rfl, ?_⟩
        rcases lookK_rps (k := l) h3 h2 with ⟨e, v, e1, e2, r⟩ | ⟨e1, e2⟩
        · rw [e2] at dg
          exact .inl ⟨e, v, e1, dg, r⟩
        · rw [e2] at dg
          exact .inr ⟨e1, dg⟩
  | @dit a ks vs ds h1 h2 h3 =>
    cases z : keyD k with
    | none => simp [dgetD, z] at q
    | some s =>
      cases s with
      | inl l => simp [dgetD, z] at q
      | inr l =>
        have e : lookK ks ds l = o := by simpa [dgetD, z] using q
        subst e
        obtain ⟨b, rfl, hb⟩ := keyR z rk
        have dg := DGet.t (k := l) h1 hb
        refine ⟨a, rfl, ?_⟩
        rcases lookK_rps (k := l) h3 h2 with ⟨e, v, e1, e2, r⟩ | ⟨e1, e2⟩
        · rw [e2] at dg
          exact .inl ⟨e, v, e1, dg, r⟩
        · rw [e2] at dg
          exact .inr ⟨e1, dg⟩
  | _ => simp [dgetD] at q
end
section
variable {J : Jc} {Γ Γ' Γ1 : List Mode} {em : EM} {m : Mode} {ms : List Mode} {F Fa Fb Fk Fd : Ev → Rs Dt} {te ta tb : TE} {G0 H0 Gs G H G' H' : Hp} {ρ : Ev} {σ : L2.St} {D : Ends} {v : V} {put : Dt → Ev} {Fp : Ev → Rs (Dt × (Dt → Ev))} {ts : TS} {Fs : Ev → Ot}
def dnewE (_ : Ev) : Rs Dt := .ok (.dic [] [])
def dnewTE (_ : Ev) : Rs Dt := .ok (.dit [] [])
theorem se_dnew : SemE J Γ (.o (.K m)) dnewE tDNewK := fun {G0 H0 G H ρ σ Q} w p a ha => by
  refine p.of_ok (.ref a) G _ (fun b => b = a) (Ext.heap w.gh (Same.new ha)) (fun b hb => ?_) (.K (ks := []) (vs := []) upd_same (w.gh.free ha) rfl rfl .nil)
  rw [hb, upd_same]
  exact ⟨w.gh.free ha, ha, fun z => by cases z⟩
theorem se_dnewT : SemE J Γ (.o (.K m)) dnewTE tDNewT := fun {G0 H0 G H ρ σ Q} w p a ha => by
  refine p.of_ok (.ref a) G _ (fun b => b = a) (Ext.heap w.gh (Same.new ha)) (fun b hb => ?_) (.KT (ks := []) (vs := []) upd_same (w.gh.free ha) rfl rfl .nil)
  rw [hb, upd_same]
  exact ⟨w.gh.free ha, ha, fun z => by cases z⟩
def dinE (neg : Bool) (Fk Fd : Ev → Rs Dt) (ρ : Ev) : Rs Dt := Fk ρ >>= fun k => Fd ρ >>= fun d => dgetD d k >>= fun o => .ok (.bl (if neg = true then !o.isSome else o.isSome))
theorem nx_dget {d k : Dt} {c : Xn} : dgetD d k ≠ .ex c := by
  unfold dgetD
  split <;> intro q <;> cases q
theorem se_din (hk : SemE J Γ .B Fk ta) (hd : SemE J Γ .B Fd tb) : SemE J Γ (.o .F) (dinE false Fk Fd) (tDIn ta tb) := fun {G0 H0 G H ρ σ Q} w p => by
  refine hk w (p.bind.imp (fun k _ p1 y G1 H1 _ e1 _ rk => ?_) fun _ q => q)
  refine hd (w.ext e1) (p1.bind.imp (fun d _ q x G2 H2 _ e2 _ rd => ?_) fun _ q H' dx s => q H' dx (e1.h.trans s))
  cases z : dgetD d k with
  | ex c => exact absurd z nx_dget
  | no => rw [z] at q; cases q
  | ok o =>
    rw [z] at q
    obtain ⟨a, rfl, hg⟩ := dget_run z rd (Rp.mono e2.h rk)
    rcases hg with ⟨e, v, rfl, g, _⟩ | ⟨rfl, g⟩
    · exact ⟨a, some v, rfl, g, q.of_ok _ G2 H2 Pno (e1.trans e2) Fr.no (.F (.bl _))⟩
    · exact ⟨a, none, rfl, g, q.of_ok _ G2 H2 Pno (e1.trans e2) Fr.no (.F (.bl _))⟩
theorem se_dnin (hk : SemE J Γ .B Fk ta) (hd : SemE J Γ .B Fd tb) : SemE J Γ (.o .F) (dinE true Fk Fd) (tDNotIn ta tb) := fun {G0 H0 G H ρ σ Q} w p => by
  refine hk w (p.bind.imp (fun k _ p1 y G1 H1 _ e1 _ rk => ?_) fun _ q => q)
  refine hd (w.ext e1) (p1.bind.imp (fun d _ q x G2 H2 _ e2 _ rd => ?_) fun _ q H' dx s => q H' dx (e1.h.trans s))
  cases z : dgetD d k with
  | ex c => exact absurd z nx_dget
  | no => rw [z] at q; cases q
  | ok o =>
    rw [z] at q
    obtain ⟨a, rfl, hg⟩ := dget_run z rd (Rp.mono e2.h rk)
    rcases hg with ⟨e, v, rfl, g, _⟩ | ⟨rfl, g⟩
    · exact ⟨a, some v, rfl, g, q.of_ok _ G2 H2 Pno (e1.trans e2) Fr.no (.F (.bl _))⟩
    · exact ⟨a, none, rfl, g, q.of_ok _ G2 H2 Pno (e1.trans e2) Fr.no (.F (.bl _))⟩
def dgetE (Fd Fk : Ev → Rs Dt) (ρ : Ev) : Rs Dt := Fd ρ >>= fun d => Fk ρ >>= fun k => dgetD d k >>= fun o => match o with
  | some e => .ok e
  | none => .no
theorem se_dgetB (hd : SemE J Γ .B Fd ta) (hk : SemE J Γ .B Fk tb) : SemE J Γ .B (dgetE Fd Fk) (tDGet ta tb) := fun {G0 H0 G H ρ σ Q} w p => by
  refine hd w (p.bind.imp (fun d _ p1 x G1 H1 _ e1 _ rd => ?_) fun _ q => q)
  refine hk (w.ext e1) (p1.bind.imp (fun k _ q y G2 H2 _ e2 _ rk => ?_) fun _ q H' dx s => q H' dx (e1.h.trans s))
  cases z : dgetD d k with
  | ex c => exact absurd z nx_dget
  | no => rw [z] at q; cases q
  | ok o =>
    rw [z] at q
    obtain ⟨a, rfl, hg⟩ := dget_run z (Rp.mono e2.h rd) rk
    rcases hg with ⟨e, v, rfl, g, r⟩ | ⟨rfl, g⟩
    · exact ⟨a, v, rfl, g, q.of_ok v G2 H2 Pno (e1.trans e2) Fr.no r⟩
    · cases q
/-- something looked at that has no parts -/
def scalE (F : Ev → Rs Dt) (ρ : Ev) : Rs Dt := F ρ >>= fun d => if scal d = true then .ok d else .no
theorem se_scal (h : SemE J Γ .B F te) : SemE J Γ (.o .F) (scalE F) te := fun {G0 H0 G H ρ σ Q} w p => by
  refine h w (p.bind.imp (fun d _ q v G1 H1 P1 e1 _ r1 => ?_) fun _ q => q)
  cases c : scal d with
  | false => rw [c] at q; cases q
  | true => rw [c] at q; exact q.of_ok v G1 H1 Pno e1 Fr.no (.F (scal_rp c r1))
def dlenD (d : Dt) : Rs Dt := match d with
  | .dic ks _ => .ok (.int ks.length)
  | _ => .no
def dlenTD (d : Dt) : Rs Dt := match d with
  | .dit ks _ => .ok (.int ks.length)
  | _ => .no
def dlenE := op1E dlenD
def dlenTE := op1E dlenTD
theorem zip_len {κ α : Type} {ks : List κ} {vs : List α} (h : ks.length = vs.length) : (ks.zip vs).length = ks.length := by rw [List.length_zip, h, Nat.min_self]
theorem se_dlenT (ha : SemE J Γ .B Fa ta) : SemE J Γ (.o .F) (dlenTE Fa) (tCB rLenT (tCons ta tNil)) := fun {G0 H0 G H ρ σ Q} w p => by
  refine ha w (p.bind.imp (fun a _ p1 x G1 H1 _ e1 _ ra => ?_) fun _ q => q)
  cases ra with
  | @dit a ks vs ds h1 h2 h3 =>
    refine ⟨a, _, rfl, h1, ?_⟩
    rw [zip_len h2]
    exact Rs.Post.of_ok p1 _ G1 H1 Pno e1 Fr.no (.F (.int _))
  | _ => cases p1
theorem se_dlen (ha : SemE J Γ .B Fa ta) : SemE J Γ (.o .F) (dlenE Fa) (tCB (fun xs H Q => ∃ a kvs, xs = [V.ref a] ∧ H a = some (.dK kvs) ∧ Q (.int kvs.length) H) (tCons ta tNil)) := fun {G0 H0 G H ρ σ Q} w p => by
  refine ha w (p.bind.imp (fun a _ p1 x G1 H1 _ e1 _ ra => ?_) fun _ q => q)
  cases ra with
  | @dic a ks vs ds h1 h2 h3 =>
    refine ⟨a, _, rfl, h1, ?_⟩
    rw [zip_len h2]
    exact Rs.Post.of_ok p1 _ G1 H1 Pno e1 Fr.no (.F (.int _))
  | _ => cases p1
theorem room1 {k : Nat} {A : Around} (r : Room k A) : A.units + 1 < cLine := by
  have := r.units
  omega
/-! the place of a dict -/
theorem Foc.chgK {ks : List Key} {ds : List Dt} (f : Foc J H0 Γ σ G H (.K .F) (.dic ks ds) v put) (w : Wd J G0 H0 Γ ρ σ G H) (e : Ext G H G' H') : ∃ a vs, v = .ref a ∧ H' a = some (.dK (ks.zip vs)) ∧ ks.length = vs.length ∧ Rps J.K J.ca G' ds vs ∧
    ∀ ks' ds' vs', ks'.length = vs'.length → Rps J.K J.ca G' ds' vs' → Wd J G0 H0 Γ (put (.dic ks' ds')) σ G' (upd H' a (.dK (ks'.zip vs'))) := by
  obtain ⟨P, o, r, k⟩ := f.ex
  cases o with
  | @K _ a _ vs _ _ h1 h2 h3 h4 h5 =>
    have hna : H a ≠ none := by rw [h1]; exact fun z => by cases z
    have gpa : G' a = none := by rw [e.base a hna]; exact h2
    refine ⟨a, vs, rfl, e.h _ _ h1, h4, (h5.frozen).mono e.g, fun ks' ds' vs' hl rp => ?_⟩
    have en := k G' (upd H' a (.dK (ks'.zip vs'))) (.dic ks' ds') (fun b => b = a) e.g (fun b hb hn => ⟨by rw [upd_ne fun z => hn (by rw [z]; exact h3)]; exact e.h.at hb, e.base b hb⟩) (.K upd_same gpa rfl hl (Rps.own rp)) fun b hb => by
      rw [hb, upd_same]
      exact ⟨.inl h3, gpa, (r a h3).2.1, fun z => by cases z⟩
    exact ⟨(w.x.trans e).mut (r a h3).2.1 gpa, en.lg, en.lr, en.env, w.pn⟩
theorem Foc.chgT {ks : List (List Key)} {ds : List Dt} (f : Foc J H0 Γ σ G H (.K .F) (.dit ks ds) v put) (w : Wd J G0 H0 Γ ρ σ G H) (e : Ext G H G' H') : ∃ a vs, v = .ref a ∧ H' a = some (.dT (ks.zip vs)) ∧ ks.length = vs.length ∧ Rps J.K J.ca G' ds vs ∧
    ∀ ks' ds' vs', ks'.length = vs'.length → Rps J.K J.ca G' ds' vs' → Wd J G0 H0 Γ (put (.dit ks' ds')) σ G' (upd H' a (.dT (ks'.zip vs'))) := by
  obtain ⟨P, o, r, k⟩ := f.ex
  cases o with
  | @KT _ a _ vs _ _ h1 h2 h3 h4 h5 =>
    have hna : H a ≠ none := by rw [h1]; exact fun z => by cases z
    have gpa : G' a = none := by rw [e.base a hna]; exact h2
    refine ⟨a, vs, rfl, e.h _ _ h1, h4, (h5.frozen).mono e.g, fun ks' ds' vs' hl rp => ?_⟩
    have en := k G' (upd H' a (.dT (ks'.zip vs'))) (.dit ks' ds') (fun b => b = a) e.g (fun b hb hn => ⟨by rw [upd_ne fun z => hn (by rw [z]; exact h3)]; exact e.h.at hb, e.base b hb⟩) (.KT upd_same gpa rfl hl (Rps.own rp)) fun b hb => by
      rw [hb, upd_same]
      exact ⟨.inl h3, gpa, (r a h3).2.1, fun z => by cases z⟩
    exact ⟨(w.x.trans e).mut (r a h3).2.1 gpa, en.lg, en.lr, en.env, w.pn⟩
def dputD (d k y : Dt) : Option Dt := match d, keyD k with
  | .dic ks ds, some (.inl x) => if lenSz ks.length = true then some (.dic (putKs ks x) (putDs ks ds x y)) else none
  | .dit ks ds, some (.inr x) => if lenSz ks.length = true then some (.dit (putKs ks x) (putDs ks ds x y)) else none
  | _, _ => none
def dputS (Fv : Ev → Rs Dt) (Fp : Ev → Rs (Dt × (Dt → Ev))) (Fk : Ev → Rs Dt) (ρ : Ev) : Ot := bindS (Fv ρ) ρ fun y => bindS (Fp ρ) ρ fun x => bindS (Fk ρ) ρ fun k => match dputD x.1 k y with
  | some d => .nx (x.2 d)
  | none => .no
theorem ss_dput (h : SemE J Γ (.o .F) F te) (k : SemP J Γ Fp (.K .F) ta) (l : SemE J Γ .B Fk tb) (hx : Gx J Γ) : SemS J Γ Γ (dputS F Fp Fk) (sDPut ta tb te) := fun {G0 H0 G H ρ σ D} w p => by
  refine h w ((PostS.bind w hx p).imp (fun y _ q v G1 H1 _ e1 _ o1 => ?_) fun _ q => q)
  have w1 := w.ext e1
  refine k w1 ((PostS.bind w1 hx (PostS.up e1.g q)).imp (fun x _ q v2 G2 H2 e2 f2 => ?_) fun _ q => q)
  have w2 := w1.ext e2
  refine l w2 ((PostS.bind w2 hx (PostS.up e2.g q)).imp (fun i _ q v3 G3 H3 _ e3 _ o3 => ?_) fun _ q => q)
  obtain ⟨xd, xp⟩ := x
  cases o1 with
  | F o1 =>
  have q : PostS J G0 H0 G2 Γ D (match dputD xd i y with
    | some d => .nx (xp d)
    | none => .no) := q
  cases z : dputD xd i y with
  | none => rw [z] at q; cases q
  | some d =>
    rw [z] at q
    have oy := o1.mono (e2.g.trans e3.g)
    cases xd with
    | dic ks ds =>
      cases z2 : keyD i with
      | none => simp [dputD, z2] at z
      | some s =>
        cases s with
        | inr s => simp [dputD, z2] at z
        | inl s =>
          have z : (if lenSz ks.length = true then some (Dt.dic (putKs ks s) (putDs ks ds s y)) else none) = some d := by simpa [dputD, z2] using z
          split at z
          · rename_i c
            cases z
            have ey := keyL z2 o3
            subst ey
            obtain ⟨a, vs, rfl, hd, hl, rp, fin⟩ := f2.chgK w2 e3
            refine ⟨a, _, rfl, DPut.k hd (by rw [zip_len hl]; exact lenSz_lt c), ?_⟩
            rw [putK_zip hl]
            exact q.of_nx σ G3 _ e3.g (fin _ _ _ (putL_length hl) (putDs_rps rp hl oy))
          · cases z
    | dit ks ds =>
      cases z2 : keyD i with
      | none => simp [dputD, z2] at z
      | some s =>
        cases s with
        | inl s => simp [dputD, z2] at z
        | inr s =>
          have z : (if lenSz ks.length = true then some (Dt.dit (putKs ks s) (putDs ks ds s y)) else none) = some d := by simpa [dputD, z2] using z
          split at z
          · rename_i c
            cases z
            obtain ⟨b, rfl, hb⟩ := keyR z2 o3
            obtain ⟨a, vs, rfl, hd, hl, rp, fin⟩ := f2.chgT w2 e3
            refine ⟨a, _, rfl, DPut.t hd hb (by rw [zip_len hl]; exact lenSz_lt c), ?_⟩
            rw [putK_zip hl]
            exact q.of_nx σ G3 _ e3.g (fin _ _ _ (putL_length hl) (putDs_rps rp hl oy))
          · cases z
    | _ => simp [dputD] at z
end
end Pm
namespace Pm
open PySem PySem.Spec PyProof.Rows L2
open Classical
/-! ### the place of a field, of a tuple's item -/
section
variable {J : Jc} {Γ Γ' Γ1 : List Mode} {em : EM} {m : Mode} {ms : List Mode} {F Fa Fb Fi : Ev → Rs Dt} {te ta tb ti : TE} {G0 H0 Gs G H G' H' : Hp} {ρ : Ev} {σ : L2.St} {D : Ends} {v : V} {put : Dt → Ev} {Fp : Ev → Rs (Dt × (Dt → Ev))} {ts : TS} {Fs : Ev → Ot}
theorem Foc.fld {C : Str} {ns : List Str} {ds : List Dt} {j : Nat} {e : Dt} (f : Foc J H0 Γ σ G H (.I ms) (.ins C ns ds) v put) (hm : ms[j]? = some m) (hj : ds[j]? = some e) : ∃ a dx us u, v = .ref a ∧ H a = some (.ins (J.ca C) dx (ns.zip us)) ∧ us[j]? = some u ∧ ns.length = us.length ∧ Foc J H0 Γ σ G H m e u (fun y => put (.ins C ns (ds.set j y))) := by
  obtain ⟨P, o, r, k⟩ := f.ex
  cases o with
  | @I _ _ a dx _ us _ _ h1 h2 h3 h4 h5 =>
    obtain ⟨u, Pk, q1, q2, q3, q4⟩ := h5.focus (k := j) (m := m) hm hj
    refine ⟨a, dx, us, u, rfl, h1, q1, h4, Pk, q2, fun b hb => r b (q3 b hb).1, fun G2 H2 d2 P2 sg c o2 c2 => ?_⟩
    have ha : ¬ Pk a := fun z => (q3 a z).2 rfl
    have hna : H a ≠ none := by rw [h1]; exact fun z => by cases z
    have p2a : ∀ b, P2 b → b ≠ a := fun b hb z => by
      rcases (c2 b hb).1 with y | y
      · exact ha (z ▸ y)
      · exact hna (z ▸ y)
    have rest := q4 G2 H2 d2 P2 sg (fun b hb hn => ⟨(c b (r b hb.1).2.2 hn).1, by rw [(c b (r b hb.1).2.2 hn).2]; exact (r b hb.1).1⟩) o2 fun b hb => (c2 b hb).1.imp id fun z y => (r b y.1).2.2 z
    refine k G2 H2 (.ins C ns (ds.set j d2)) (fun b => (P b ∧ ¬ Pk b) ∨ P2 b) sg (fun b hb hn => c b hb fun z => hn (q3 b z).1) (.I (by rw [(c a hna ha).1]; exact h1) (by rw [(c a hna ha).2]; exact h2) (.inl ⟨h3, ha⟩) h4 ?_) fun b hb => ?_
    · refine rest.weaken fun b hb => ?_
      rcases hb with ⟨⟨z1, z2⟩, z3⟩ | z
      · exact ⟨.inl ⟨z1, z3⟩, z2⟩
      · exact ⟨.inr z, p2a b z⟩
    · rcases hb with ⟨z1, z2⟩ | z
      · obtain ⟨a1, a2, a3⟩ := r b z1
        obtain ⟨b1, b2⟩ := c b a3 z2
        exact ⟨.inl z1, by rw [b2]; exact a1, a2, by rw [b1]; exact a3⟩
      · exact ⟨(c2 b z).1.imp (fun y => (q3 b y).1) id, (c2 b z).2⟩
def fldP (C f : Str) (j : Nat) (Fp : Ev → Rs (Dt × (Dt → Ev))) (ρ : Ev) : Rs (Dt × (Dt → Ev)) := Fp ρ >>= fun x => match x.1 with
  | .ins C' ns ds => if C' = C ∧ fix f ns = some j then (match ds[j]? with
    | some e => .ok (e, fun y => x.2 (.ins C' ns (ds.set j y)))
    | none => .no) else .no
  | _ => .no
theorem sp_fld {C f : Str} {j : Nat} (cl : Cls J.K (J.ca C)) (na : NoAttr J.K (J.ca C) f) (h : SemP J Γ Fp (.I ms) te) (hm : ms[j]? = some m) : SemP J Γ (fldP C f j Fp) m (tFld J.K te f) := fun {G0 H0 G H ρ σ Q} w p => by
  refine h w (p.bind.imp (fun x _ q v G1 H1 e1 f1 => ?_) fun _ q => q)
  obtain ⟨xd, xp⟩ := x
  cases xd with
  | ins C' ns ds =>
    by_cases hc : C' = C ∧ fix f ns = some j
    case neg =>
      have e : (if C' = C ∧ fix f ns = some j then (match ds[j]? with
        | some e => (Rs.ok (e, fun y => xp (.ins C' ns (ds.set j y))) : Rs (Dt × (Dt → Ev)))
        | none => .no) else .no) = .no := if_neg hc
      have q2 := e ▸ (show Rs.Post _ _ (if C' = C ∧ fix f ns = some j then (match ds[j]? with
        | some e => (Rs.ok (e, fun y => xp (.ins C' ns (ds.set j y))) : Rs (Dt × (Dt → Ev)))
        | none => .no) else .no) from q)
      clear q
      cases q2
    case pos =>
      have e : (if C' = C ∧ fix f ns = some j then (match ds[j]? with
        | some e => (Rs.ok (e, fun y => xp (.ins C' ns (ds.set j y))) : Rs (Dt × (Dt → Ev)))
        | none => .no) else .no) = (match ds[j]? with
        | some e => (Rs.ok (e, fun y => xp (.ins C' ns (ds.set j y))) : Rs (Dt × (Dt → Ev)))
        | none => .no) := if_pos hc
      have q2 := e ▸ (show Rs.Post _ _ (if C' = C ∧ fix f ns = some j then (match ds[j]? with
        | some e => (Rs.ok (e, fun y => xp (.ins C' ns (ds.set j y))) : Rs (Dt × (Dt → Ev)))
        | none => .no) else .no) from q)
      clear q e
      obtain ⟨hC, hf⟩ := hc
      subst hC
      cases he : ds[j]? with
      | none => simp only [he] at q2; cases q2
      | some e =>
        simp only [he] at q2
        obtain ⟨a, dx, us, u, rfl, h1, h2, h3, h4⟩ := f1.fld hm he
        exact ⟨a, J.ca C', dx, _, u, rfl, h1, cl, na, fix_lookup hf h2, q2.of_ok u G1 H1 e1 h4⟩
  | _ => cases q
theorem Foc.tix {ds : List Dt} {j : Nat} {e : Dt} (f : Foc J H0 Γ σ G H (.T ms) (.tup ds) v put) (hm : ms[j]? = some m) (hj : ds[j]? = some e) : ∃ a us u, v = .ref a ∧ H a = some (.tup us) ∧ us[j]? = some u ∧ ds.length = us.length ∧ Foc J H0 Γ σ G H m e u (fun y => put (.tup (ds.set j y))) := by
  obtain ⟨P, o, r, k⟩ := f.ex
  cases o with
  | @T _ a us _ _ h1 h2 h3 h4 =>
    obtain ⟨u, Pk, q1, q2, q3, q4⟩ := h4.focus (k := j) (m := m) hm hj
    refine ⟨a, us, u, rfl, h1, q1, h4.len.1, Pk, q2, fun b hb => r b (q3 b hb).1, fun G2 H2 d2 P2 sg c o2 c2 => ?_⟩
    have ha : ¬ Pk a := fun z => (q3 a z).2 rfl
    have hna : H a ≠ none := by rw [h1]; exact fun z => by cases z
    have p2a : ∀ b, P2 b → b ≠ a := fun b hb z => by
      rcases (c2 b hb).1 with y | y
      · exact ha (z ▸ y)
      · exact hna (z ▸ y)
    have rest := q4 G2 H2 d2 P2 sg (fun b hb hn => ⟨(c b (r b hb.1).2.2 hn).1, by rw [(c b (r b hb.1).2.2 hn).2]; exact (r b hb.1).1⟩) o2 fun b hb => (c2 b hb).1.imp id fun z y => (r b y.1).2.2 z
    refine k G2 H2 (.tup (ds.set j d2)) (fun b => (P b ∧ ¬ Pk b) ∨ P2 b) sg (fun b hb hn => c b hb fun z => hn (q3 b z).1) (.T (by rw [(c a hna ha).1]; exact h1) (by rw [(c a hna ha).2]; exact h2) (.inl ⟨h3, ha⟩) ?_) fun b hb => ?_
    · refine rest.weaken fun b hb => ?_
      rcases hb with ⟨⟨z1, z2⟩, z3⟩ | z
      · exact ⟨.inl ⟨z1, z3⟩, z2⟩
      · exact ⟨.inr z, p2a b z⟩
    · rcases hb with ⟨z1, z2⟩ | z
      · obtain ⟨a1, a2, a3⟩ := r b z1
        obtain ⟨b1, b2⟩ := c b a3 z2
        exact ⟨.inl z1, by rw [b2]; exact a1, a2, by rw [b1]; exact a3⟩
      · exact ⟨(c2 b z).1.imp (fun y => (q3 b y).1) id, (c2 b z).2⟩
def tixP (j : Nat) (Fp : Ev → Rs (Dt × (Dt → Ev))) (ρ : Ev) : Rs (Dt × (Dt → Ev)) := Fp ρ >>= fun x => match x.1 with
  | .tup ds => (match ds[j]? with
    | some e => .ok (e, fun y => x.2 (.tup (ds.set j y)))
    | none => .no)
  | _ => .no
theorem sp_tix {j : Nat} (h : SemP J Γ Fp (.T ms) te) (hm : ms[j]? = some m) : SemP J Γ (tixP j Fp) m (tOp (rIx J.K) te (tC (.int (j : Nat)))) := fun {G0 H0 G H ρ σ Q} w p => by
  refine h w (p.bind.imp (fun x _ q v G1 H1 e1 f1 => ?_) fun _ q => q)
  obtain ⟨xd, xp⟩ := x
  cases xd with
  | tup ds =>
    have q : Rs.Post _ _ (match ds[j]? with
      | some e => Rs.ok (e, fun y => xp (.tup (ds.set j y)))
      | none => .no) := q
    cases he : ds[j]? with
    | none => simp only [he] at q; cases q
    | some e =>
      simp only [he] at q
      obtain ⟨a, us, u, rfl, h1, h2, h3, h4⟩ := f1.tix hm he
      refine .inr (.inl ⟨a, us, (j : Nat), u, rfl, rfl, .of h1, ?_, q.of_ok u G1 H1 e1 h4⟩)
      unfold atI ixN
      have hl := (List.getElem?_eq_some_iff.mp h2).1
      rw [if_pos (by omega), if_pos (by omega)]
      simpa using h2
  | _ => cases q
/-! ### a field is frozen -/
theorem Ows.frzAt {K : PySem.W.Frag} {ca : Str → Addr} : ∀ {ds : List Dt} {ms : List Mode} {us : List V} {P : Addr → Prop} (j : Nat), Ows K ca G H ms ds us P → ∃ Pk : Addr → Prop, (∀ b, Pk b → P b) ∧ ∀ G2, Same G G2 → (∀ b, Pk b → G2 b = H b) → (∀ b, P b → ¬ Pk b → G2 b = none) → Ows K ca G2 H (ms.set j .F) ds us (fun b => P b ∧ ¬ Pk b)
  | [], ms, us, P, j, h => by
    cases h
    exact ⟨Pno, fun _ z => z.elim, fun G2 _ _ _ => .nil⟩
  | d :: ds, _, _, P, 0, h => by
    cases h with
    | @cons _ ms _ _ v us _ A B h1 h2 q1 q2 q3 =>
      refine ⟨A, q1, fun G2 sg c1 c2 => ?_⟩
      rw [List.set_cons_zero]
      refine .cons (P1 := Pno) (P2 := B) (.F (h1.freeze sg c1)) (h2.carry sg fun b hb => ⟨rfl, c2 b (q2 b hb) fun z => q3 b z hb⟩) (fun _ z => z.elim) (fun b hb => ⟨q2 b hb, fun z => q3 b z hb⟩) (fun _ z => z.elim)
  | d :: ds, _, _, P, j + 1, h => by
    cases h with
    | @cons _ ms _ _ v us _ A B h1 h2 q1 q2 q3 =>
      obtain ⟨Pk, r1, r2⟩ := Ows.frzAt j h2
      refine ⟨Pk, fun b hb => q2 b (r1 b hb), fun G2 sg c1 c2 => ?_⟩
      rw [List.set_cons_succ]
      refine .cons (P1 := A) (P2 := fun b => B b ∧ ¬ Pk b) (h1.carry sg fun b hb => ⟨rfl, c2 b (q1 b hb) fun z => q3 b hb (r1 b z)⟩) (r2 G2 sg c1 fun b hb hn => c2 b (q2 b hb) hn) (fun b hb => ⟨q1 b hb, fun z => q3 b hb (r1 b z)⟩) (fun b hb => ⟨q2 b hb.1, hb.2⟩) fun b hb z => q3 b hb z.1
/-- from here on the field j of the owned slot i is frozen -/
theorem ss_frzI {i j : Nat} (hm : Γ[i]? = some (.I ms)) (h : SemS J (Γ.set i (.I (ms.set j .F))) Γ' Fs ts) : SemS J Γ Γ' Fs ts := fun {G0 H0 G H ρ σ D} w p => by
  obtain ⟨Pf, h1, h2, h3⟩ := w.env
  by_cases hd : ∃ d, ρ[i]? = some (some d)
  case neg =>
    refine h ⟨w.x, by rw [List.length_set]; exact w.lg, w.lr, ⟨Pf, h1, h2, fun k c q => ?_⟩, w.pn⟩ p
    obtain ⟨v, m', s1, s2, s3⟩ := h3 k c q
    refine ⟨v, m', s1, ?_, s3⟩
    rw [List.getElem?_set_ne fun z => hd ⟨c, by rw [z]; exact q⟩]
    exact s2
  obtain ⟨d, hd⟩ := hd
  obtain ⟨v, m', s1, s2, s3⟩ := h3 i d hd
  rw [hm] at s2
  cases s2
  cases s3 with
  | @I _ C a dx ns us ds _ k1 k2 k3 k4 k5 =>
    obtain ⟨Pk, r1, r2⟩ := k5.frzAt j
    have pk : ∀ b, Pk b → Pf i b := fun b hb => (r1 b hb).1
    have sg : Same G (fun b => if Pk b then H b else G b) := fun x u q => by
      show (if Pk x then H x else G x) = some u
      by_cases z : Pk x
      · rw [if_pos z]; exact w.gh x u q
      · rw [if_neg z]; exact q
    have old : ∀ b, ¬ Pk b → (if Pk b then H b else G b) = G b := fun b hb => if_neg hb
    refine h (G := fun b => if Pk b then H b else G b) ⟨⟨w.x.g.trans sg, w.x.h, fun x u q => ?_, fun x q => ?_⟩, by rw [List.length_set]; exact w.lg, w.lr, ⟨fun k b => Pf k b ∧ ¬ Pk b, fun k l b q r s => h1 k l b q r.1 s.1, fun k b q => ?_, fun k c q => ?_⟩, w.pn⟩ (p.up sg)
    · have q : (if Pk x then H x else G x) = some u := q
      by_cases z : Pk x
      · rw [if_pos z] at q; exact q
      · rw [if_neg z] at q; exact w.gh x u q
    · show (if Pk x then H x else G x) = G0 x
      rw [if_neg fun z => q (h2 i x (pk x z)).2.1]
      exact w.x.base x q
    · refine ⟨?_, (h2 k b q.1).2⟩
      show (if Pk b then H b else G b) = none
      rw [if_neg q.2]
      exact (h2 k b q.1).1
    · by_cases hk : k = i
      · subst hk
        rw [hd] at q
        cases q
        refine ⟨_, .I (ms.set j .F), s1, List.getElem?_set_self (by rw [w.lg]; exact (List.getElem?_eq_some_iff.mp hd).1), ?_⟩
        have ha : ¬ Pk a := fun z => (r1 a z).2 rfl
        refine .I k1 (by show (if Pk a then H a else G a) = none; rw [if_neg ha]; exact k2) ⟨k3, ha⟩ k4 ?_
        refine (r2 _ sg (fun b hb => if_pos hb) fun b hb hn => ?_).weaken fun b hb => ⟨⟨hb.1.1, hb.2⟩, hb.1.2⟩
        show (if Pk b then H b else G b) = none
        rw [if_neg hn]
        exact (h2 k b hb.1).1
      · obtain ⟨v2, m2, t1, t2, t3⟩ := h3 k c q
        refine ⟨v2, m2, t1, by rw [List.getElem?_set_ne (Ne.symm hk)]; exact t2, (t3.carry sg fun b hb => ⟨rfl, ?_⟩).weaken fun b hb => ⟨hb, fun z => h1 k i b hk hb (pk b z)⟩⟩
        show (if Pk b then H b else G b) = none
        rw [if_neg fun z => h1 k i b hk hb (pk b z)]
        exact (h2 k b hb).1
end
end Pm
namespace Pm
open PySem PySem.Spec PyProof.Rows L2
/-! ### the head's Hook: facts, defs, one more Bool -/
def obX (facts : List He.Fa) (defs : List He.DefD) (more : PySem.W.Frag → Bool) (g : Addr → Option Obj) (n : Nat) : He.AlD × Bool :=
  (He.obsD facts defs (He.frG g (He.asD g n)), more (He.frG g (He.asD g n)))
def SaysX (facts : List He.Fa) (defs : List He.DefD) (more : PySem.W.Frag → Bool) (K : PySem.W.Frag) : Prop := He.SaysD facts defs K ∧ more K = true
def hookX (n : Nat) (facts : List He.Fa) (defs : List He.DefD) (more : PySem.W.Frag → Bool) : PySem.W.Hook where
  α := He.AlD × Bool
  obs := fun st => obX facts defs more st.heap.get? n
  val := fun _ => (He.valD defs, true)
  says := fun _ hp => ∃ K : PySem.W.Frag, K.In hp ∧ SaysX facts defs more K
  of := fun _ _ eq => ⟨_, He.frG_in, congrArg Prod.fst eq, congrArg Prod.snd eq⟩
  keeps := fun _ _ _ ⟨K, hIn, says⟩ kept => ⟨K, hIn.keeps kept, says⟩
theorem obX_eq {n : Nat} {facts : List He.Fa} {defs : List He.DefD} {more : PySem.W.Frag → Bool} {g : Addr → Option Obj} {st : Shared} (h : ∀ a, g a = st.heap.get? a) : obX facts defs more g n = (hookX n facts defs more).obs st := by
  have e : g = st.heap.get? := funext h
  subst e
  rfl
/-! ### the law's end -/
theorem walkX {l : PySem.W.OpenLaw} {n k : Nat} {q : Program} {loose : List Str} {XP : (Str → Option Value) → Heap → Prop} {YP : World → Heap → Prop} {d : DefRec} {x : Str} {Fn : List Dt → Rs Dt}
    (hn : l.most = some n) (hsz : n ≤ sizeLine) (hdf : d.params.defaults = []) (hr : Room k callerA)
    (hF : ∀ ns : List Int, ns.length ≤ n → Fn [.scr (ns.map Dt.int)] = .ok (.bl true))
    (F : ∀ (w : World) (mg : Str → Option Value) (fa : Addr) (h : Heap), YP w h → h.Ns mainGlobals mg → mg d.name = some (.ref fa) →
      ∃ (K : PySem.W.Frag) (fd : FuncData) (ca : Str → Addr), K.In h ∧ (∀ (s : Shared) (u : Value), BindsTo s fd ⟨[u], []⟩ [(x, u)]) ∧
        ∀ base : Heap, FnOk l.prog w K mg base (L2.CX l.prog w) k fa fd [x] (spM K ca 1 .F Fn)) :
    PySem.W.WalkO q loose XP YP l.row.toRowW d [] (fun f vs => PySem.call f vs) := by
  refine Att.attach_call hn hdf fun w s0 s1 mg mb fa o pm cd doc a vs ns G Y ho hd hcd hmg hobj hints hlen hg => ?_
  obtain ⟨K, fd, ca, KX, hb, ok⟩ := F w mg fa _ Y G.T.g hmg
  have size := Nat.le_trans hlen hsz
  refine law_call KX G.T.g G.T.b G.T.builtins G.T.nolimit hg hobj hints size hr (fun base _ _ => ok base) hb (fun H hO hS => ?_) fun H e s' z => ?_
  · have rs : ∀ ms : List Int, Rps K ca H (ms.map Dt.int) (ms.map V.int) := fun ms => by
      induction ms with
      | nil => exact .nil
      | cons m ms ih => exact .cons (.int m) ih
    refine ⟨rfl, H, [.scr (ns.map Dt.int)], Same.refl H, .cons (.scr hS (rs ns)) .nil, ?_⟩
    rw [hF ns hlen]
    exact .ok fun v G2 H2 P2 _ _ o2 => by
      cases o2 with
      | F o2 => cases o2; rfl
  · obtain ⟨_, _, _, _, _, _, _, _, _, _, _, _, no⟩ := z
    exact no
section
/-! a def's result -/
theorem v_def {np nl : Nat} {m : Mode} {F : Ev → Ot} {ds : List Dt} (h : ds.length = np) : defF np nl m F ds = outF m (F (ds.map some ++ List.replicate (nl - np) none)) := if_pos h
theorem v_init {C : Str} {np nl : Nat} {F : Ev → Ot} {ds : List Dt} (h : ds.length + 1 = np) : initF C np nl F ds = outI (F (some (.ins C [] []) :: ds.map some ++ List.replicate (nl - np) none)) := if_pos h
end
end Pm
namespace Pm
open PySem PySem.Spec L2
/-! ### reckoning with what the defs compute, no program in sight -/
section
variable {ρ : Ev} {d : Dt} {i j : Nat} {Fa Fb Fc Fe : Ev → Rs Dt} {Fs : List (Ev → Rs Dt)} {Ft Fu : Ev → Rs Bool} {F1 F2 F3 rest : Ev → Ot} {Post : Ot → Prop} {FG : Dt → Ev → Option Ev} {Fi : Ev → Rs (List Dt)}
theorem v_var0 : varE 0 (some d :: ρ) = .ok d := rfl
theorem v_varS {x : Option Dt} : varE (i + 1) (x :: ρ) = varE i ρ := rfl
theorem v_con : conE d ρ = .ok d := rfl
theorem v_add : addE Fa Fb ρ = (Fa ρ >>= fun a => Fb ρ >>= fun b => i2 addI a b) := rfl
theorem v_sub : subE Fa Fb ρ = (Fa ρ >>= fun a => Fb ρ >>= fun b => i2 subI a b) := rfl
theorem v_mul : mulE Fa Fb ρ = (Fa ρ >>= fun a => Fb ρ >>= fun b => i2 mulI a b) := rfl
theorem v_div : divE Fa Fb ρ = (Fa ρ >>= fun a => Fb ρ >>= fun b => i2 divI a b) := rfl
theorem v_mod : modE Fa Fb ρ = (Fa ρ >>= fun a => Fb ρ >>= fun b => i2 modI a b) := rfl
theorem v_pow : powE Fa Fb ρ = (Fa ρ >>= fun a => Fb ρ >>= fun b => i2 powI a b) := rfl
theorem v_shl : shlE Fa Fb ρ = (Fa ρ >>= fun a => Fb ρ >>= fun b => i2 shlI a b) := rfl
theorem v_lt : ltE Fa Fb ρ = (Fa ρ >>= fun a => Fb ρ >>= fun b => i2 ltI a b) := rfl
theorem v_le : leE Fa Fb ρ = (Fa ρ >>= fun a => Fb ρ >>= fun b => i2 leI a b) := rfl
theorem v_gt : gtE Fa Fb ρ = (Fa ρ >>= fun a => Fb ρ >>= fun b => i2 gtI a b) := rfl
theorem v_ge : geE Fa Fb ρ = (Fa ρ >>= fun a => Fb ρ >>= fun b => i2 geI a b) := rfl
theorem v_eq : eqE Fa Fb ρ = (Fa ρ >>= fun a => Fb ρ >>= fun b => eqD a b) := rfl
theorem v_ne : neE Fa Fb ρ = (Fa ρ >>= fun a => Fb ρ >>= fun b => neD a b) := rfl
theorem v_in : inE Fa Fb ρ = (Fa ρ >>= fun a => Fb ρ >>= fun b => memD false a b) := rfl
theorem v_nin : ninE Fa Fb ρ = (Fa ρ >>= fun a => Fb ρ >>= fun b => memD true a b) := rfl
theorem v_ix : ixE Fa Fb ρ = (Fa ρ >>= fun a => Fb ρ >>= fun b => ixD a b) := rfl
theorem v_plus : plusE Fa Fb ρ = (Fa ρ >>= fun a => Fb ρ >>= fun b => plusD a b) := rfl
theorem v_cat : catE Fa Fb ρ = (Fa ρ >>= fun a => Fb ρ >>= fun b => catD a b) := rfl
theorem v_rep : repE Fa Fb ρ = (Fa ρ >>= fun a => Fb ρ >>= fun b => repD a b) := rfl
theorem v_isN : isNE Fa ρ = (Fa ρ >>= fun a => .ok (.bl (isNonD a))) := rfl
theorem v_notN : notNE Fa ρ = (Fa ρ >>= fun a => .ok (.bl (!isNonD a))) := rfl
theorem v_len : lenE Fa ρ = (Fa ρ >>= lenD) := rfl
theorem v_neg : negE Fa ρ = (Fa ρ >>= negD) := rfl
theorem v_isi {c : Ty} : isiE c Fa ρ = (Fa ρ >>= isiD c) := rfl
theorem v_list : listE Fa ρ = (Fa ρ >>= listD) := rfl
theorem v_tuple : tupleE Fa ρ = (Fa ρ >>= tupleD) := rfl
theorem v_tupleL : tupleLE Fa ρ = (Fa ρ >>= tupleLD) := rfl
theorem v_fld {C f : Str} : fldE C f Fa ρ = (Fa ρ >>= fldD C f) := rfl
theorem v_fldI {C f : Str} : fldIE C f j i ρ = (varE i ρ >>= fldID C f j) := rfl
theorem v_all : allE Fa ρ = (Fa ρ >>= allD) := rfl
theorem v_any : anyE Fa ρ = (Fa ρ >>= anyD) := rfl
theorem v_sum : sumE Fa ρ = (Fa ρ >>= sumD) := rfl
theorem v_max2 : max2E Fa Fb ρ = (Fa ρ >>= fun a => Fb ρ >>= fun b => i2 (fun i j => .ok (.int (if j > i then j else i))) a b) := rfl
theorem v_min2 : min2E Fa Fb ρ = (Fa ρ >>= fun a => Fb ρ >>= fun b => i2 (fun i j => .ok (.int (if j < i then j else i))) a b) := rfl
theorem v_i2 {f : Int → Int → Rs Dt} {a b : Int} : i2 f (.int a) (.int b) = f a b := rfl
theorem v_addI {a b : Int} : addI a b = .ok (.int (a + b)) := rfl
theorem v_subI {a b : Int} : subI a b = .ok (.int (a - b)) := rfl
theorem v_mulL {a b : Int} (h : smallI a = true) : mulI a b = .ok (.int (a * b)) := by unfold mulI; rw [h]; rfl
theorem v_mulR {a b : Int} (h : smallI b = true) : mulI a b = .ok (.int (a * b)) := by unfold mulI; rw [h, Bool.or_true]; rfl
theorem divOk_of {b : Int} (h : 0 < b) (h2 : b < 1073741824) : divOk b = true := by
  unfold divOk
  rw [decide_eq_true h, decide_eq_true h2]
  rfl
theorem v_divI {a b : Int} (h : divOk b = true) : divI a b = .ok (.int (a / b)) := by unfold divI; rw [if_pos h]
theorem v_modI {a b : Int} (h : 0 < b) : modI a b = .ok (.int (a % b)) := by unfold modI; rw [if_pos (decide_eq_true h)]
theorem v_ltI {a b : Int} : ltI a b = .ok (.bl (decide (a < b))) := rfl
theorem v_leI {a b : Int} : leI a b = .ok (.bl (decide (a ≤ b))) := rfl
theorem v_gtI {a b : Int} : gtI a b = .ok (.bl (decide (b < a))) := rfl
theorem v_geI {a b : Int} : geI a b = .ok (.bl (decide (b ≤ a))) := rfl
theorem v_negD {a : Int} : negD (.int a) = .ok (.int (-a)) := rfl
theorem deq_int {a b : Int} : deq (.int a) (.int b) = decide (a = b) := rfl
theorem v_eqI {a b : Int} : eqD (.int a) (.int b) = .ok (.bl (decide (a = b))) := rfl
theorem v_neI {a b : Int} : neD (.int a) (.int b) = .ok (.bl (!decide (a = b))) := rfl
theorem v_eqB {a b : Bool} : eqD (.bl a) (.bl b) = .ok (.bl (a == b)) := by cases a <;> cases b <;> rfl
theorem v_neB {a b : Bool} : neD (.bl a) (.bl b) = .ok (.bl (!(a == b))) := by cases a <;> cases b <;> rfl
theorem v_lenL {ds : List Dt} : lenD (.lst ds) = .ok (.int ds.length) := rfl
theorem v_lenC {ds : List Dt} : lenD (.scr ds) = .ok (.int ds.length) := rfl
theorem v_lenT {ds : List Dt} : lenD (.tup ds) = .ok (.int ds.length) := rfl
theorem v_ixL {ds : List Dt} {k : Int} (h : atI ds k = some d) : ixD (.lst ds) (.int k) = .ok d := by show (match atI ds k with | some d => (Rs.ok d : Rs Dt) | none => .no) = _; rw [h]
theorem v_ixC {ds : List Dt} {k : Int} (h : atI ds k = some d) : ixD (.scr ds) (.int k) = .ok d := by show (match atI ds k with | some d => (Rs.ok d : Rs Dt) | none => .no) = _; rw [h]
theorem v_ixT {ds : List Dt} {k : Int} (h : atI ds k = some d) : ixD (.tup ds) (.int k) = .ok d := by show (match atI ds k with | some d => (Rs.ok d : Rs Dt) | none => .no) = _; rw [h]
theorem atI_nat {α : Type} {xs : List α} {x : α} {k : Nat} (h : xs[k]? = some x) : atI xs (k : Int) = some x := by
  have hk := (List.getElem?_eq_some_iff.mp h).1
  have e : ixN xs.length (k : Int) = some k := by
    unfold ixN
    first | simp; omega | simp [hk]
  unfold atI
  rw [e]
  exact h
theorem atI_int {α : Type} {xs : List α} {x : α} {k : Int} (h0 : 0 ≤ k) (h : xs[k.toNat]? = some x) : atI xs k = some x := by
  have := atI_nat h
  rwa [Int.toNat_of_nonneg h0] at this
theorem v_listL {ds : List Dt} : listD (.lst ds) = .ok (.lst ds) := rfl
theorem v_listC {ds : List Dt} : listD (.scr ds) = .ok (.lst ds) := rfl
theorem v_listT {ds : List Dt} : listD (.tup ds) = .ok (.lst ds) := rfl
theorem v_tupL {ds : List Dt} : tupleD (.lst ds) = .ok (.tup ds) := rfl
theorem v_tupC {ds : List Dt} : tupleD (.scr ds) = .ok (.tup ds) := rfl
theorem v_tupT {ds : List Dt} : tupleD (.tup ds) = .ok (.tup ds) := rfl
theorem v_tupLL {ds : List Dt} : tupleLD (.lst ds) = .ok (.tup ds) := rfl
theorem v_plusI {a b : Int} : plusD (.int a) (.int b) = .ok (.int (a + b)) := rfl
theorem v_plusL {a b : List Dt} (h : lenSz (a.length + b.length) = true) : plusD (.lst a) (.lst b) = .ok (.lst (a ++ b)) := if_pos h
theorem v_plusT {a b : List Dt} (h : lenSz (a.length + b.length) = true) : plusD (.tup a) (.tup b) = .ok (.tup (a ++ b)) := if_pos h
theorem v_catL {a b : List Dt} (h : lenSz (a.length + b.length) = true) : catD (.lst a) (.lst b) = .ok (.lst (a ++ b)) := if_pos h
theorem v_slc {Fl Fh : Ev → Rs (Option Int)} : slcE Fa Fl Fh ρ = (Fa ρ >>= fun d => Fl ρ >>= fun l => Fh ρ >>= fun u => cutD d l u) := rfl
theorem v_slcL {Fl Fh : Ev → Rs (Option Int)} : slcLE Fa Fl Fh ρ = (Fa ρ >>= fun d => Fl ρ >>= fun l => Fh ρ >>= fun u => cutLD d l u) := rfl
theorem v_noPart : noPart ρ = .ok none := rfl
theorem v_partO : partO Fa ρ = (Fa ρ >>= asI) := rfl
theorem v_asI {a : Int} : asI (.int a) = .ok (some a) := rfl
theorem v_cutL {ds : List Dt} {lo hi : Option Int} : cutD (.lst ds) lo hi = .ok (.lst (cutL ds lo hi)) := rfl
theorem v_cutC {ds : List Dt} {lo hi : Option Int} : cutD (.scr ds) lo hi = .ok (.lst (cutL ds lo hi)) := rfl
theorem v_cutT {ds : List Dt} {lo hi : Option Int} : cutD (.tup ds) lo hi = .ok (.tup (cutL ds lo hi)) := rfl
theorem v_cutLL {ds : List Dt} {lo hi : Option Int} : cutLD (.lst ds) lo hi = .ok (.lst (cutL ds lo hi)) := rfl
theorem v_cutLC {ds : List Dt} {lo hi : Option Int} : cutLD (.scr ds) lo hi = .ok (.lst (cutL ds lo hi)) := rfl
/-! tests -/
theorem v_boolT : boolT Fa ρ = (Fa ρ >>= asB) := rfl
theorem v_notT : notT Ft ρ = (Ft ρ >>= fun b => .ok (!b)) := rfl
theorem v_andT : andT Ft Fu ρ = (Ft ρ >>= fun b => if b = true then Fu ρ else .ok false) := rfl
theorem v_orT : orT Ft Fu ρ = (Ft ρ >>= fun b => if b = true then .ok true else Fu ρ) := rfl
theorem v_yes : yesT ρ = .ok true := rfl
theorem v_andE : andE Fa Fb ρ = (Fa ρ >>= fun a => asB a >>= fun b => if b = true then Fb ρ else .ok (.bl false)) := rfl
theorem v_orE : orE Fa Fb ρ = (Fa ρ >>= fun a => asB a >>= fun b => if b = true then .ok (.bl true) else Fb ρ) := rfl
theorem v_notE : notE Fa ρ = (Fa ρ >>= fun a => asB a >>= fun b => .ok (.bl (!b))) := rfl
theorem v_ifE : ifE Ft Fa Fb ρ = (Ft ρ >>= fun b => if b = true then Fa ρ else Fb ρ) := rfl
theorem v_andOk {b c : Bool} : (if b = true then (Rs.ok c : Rs Bool) else .ok false) = .ok (b && c) := by cases b <;> rfl
theorem v_orOk {b c : Bool} : (if b = true then (Rs.ok true : Rs Bool) else .ok c) = .ok (b || c) := by cases b <;> rfl
theorem v_andOkE {b c : Bool} : (if b = true then (Rs.ok (.bl c) : Rs Dt) else .ok (.bl false)) = .ok (.bl (b && c)) := by cases b <;> rfl
theorem v_orOkE {b c : Bool} : (if b = true then (Rs.ok (.bl true) : Rs Dt) else .ok (.bl c)) = .ok (.bl (b || c)) := by cases b <;> rfl
theorem v_isB {b : Bool} : isiD .bool (.bl b) = .ok (.bl true) := rfl
theorem filter_none {α : Type} {p : α → Bool} {xs : List α} : decide (((xs.filter p).length : Int) = 0) = xs.all fun x => !p x := by
  induction xs with
  | nil => rfl
  | cons x xs ih =>
    cases q : p x with
    | true =>
      rw [List.filter_cons_of_pos q, List.all_cons, q, decide_eq_false (by rw [List.length_cons]; omega)]
      rfl
    | false =>
      rw [List.filter_cons_of_neg (by simp [q]), List.all_cons, q, ih]
      rfl
theorem v_asB {b : Bool} : asB (.bl b) = .ok b := rfl
/-! arguments, displays, calls -/
theorem v_args0 : argsE [] ρ = .ok [] := rfl
theorem v_args1 : argsE (Fa :: Fs) ρ = (Fa ρ >>= fun d => argsE Fs ρ >>= fun ds => .ok (d :: ds)) := rfl
theorem v_tup : tupE Fs ρ = (argsE Fs ρ >>= fun ds => .ok (.tup ds)) := rfl
theorem v_lst : lstE Fs ρ = (argsE Fs ρ >>= fun ds => .ok (.lst ds)) := rfl
theorem v_call {Fn : List Dt → Rs Dt} : callE Fn Fs ρ = (argsE Fs ρ >>= Fn) := rfl
theorem v_callB {Fn : List Dt → Rs Dt} : callBE Fn Fs ρ = (argsE Fs ρ >>= fun ds => scalR (Fn ds)) := rfl
theorem v_meth {C m : Str} {Fn : List Dt → Rs Dt} : methE C m Fn Fa Fs ρ = (Fa ρ >>= fun s => noMeth C m s >>= fun _ => argsE Fs ρ >>= fun ds => Fn (s :: ds)) := rfl
theorem v_methB {C m : Str} {Fn : List Dt → Rs Dt} : methBE C m Fn Fa Fs ρ = (Fa ρ >>= fun s => noMeth C m s >>= fun _ => argsE Fs ρ >>= fun ds => scalR (Fn (s :: ds))) := rfl
theorem v_scal : scalR (.ok d) = if scal d = true then .ok d else .no := rfl
theorem v_scalI {a : Int} : scal (.int a) = true := rfl
theorem v_scalB {a : Bool} : scal (.bl a) = true := rfl
theorem v_scalS {a : Str} : scal (.str a) = true := rfl
theorem v_scalN : scal .non = true := rfl
/-! what is walked -/
def rngD (ds : List Dt) : Rs (List Dt) := match ds with
  | [.int j] => if intSz j = true then .ok (rangeL 0 j.toNat) else .no
  | [.int i, .int j] => if (intSz i && intSz j) = true then .ok (rangeL i (j - i).toNat) else .no
  | _ => .no
theorem v_rng1 : rng1I [Fa] ρ = (Fa ρ >>= fun a => rngD [a]) := by
  unfold rng1I
  rw [v_args1]
  cases Fa ρ with
  | ok a => cases a <;> rfl
  | ex c => rfl
  | no => rfl
theorem v_rng2 : rng2I [Fa, Fb] ρ = (Fa ρ >>= fun a => Fb ρ >>= fun b => rngD [a, b]) := by
  unfold rng2I
  rw [v_args1, v_args1]
  cases Fa ρ with
  | ok a =>
    cases Fb ρ with
    | ok b => cases a <;> cases b <;> rfl
    | ex c => rfl
    | no => rfl
  | ex c => rfl
  | no => rfl
theorem v_rngD1 {a : Int} (h : intSz a = true) : rngD [.int a] = .ok (rangeL 0 a.toNat) := if_pos h
theorem v_rngD2 {a b : Int} (h : (intSz a && intSz b) = true) : rngD [.int a, .int b] = .ok (rangeL a (b - a).toNat) := if_pos h
def seqID (d : Dt) : Rs (List Dt) := match d with
  | .lst ds => .ok ds
  | .scr ds => .ok ds
  | .tup ds => .ok ds
  | _ => .no
/-- a tuple or a list -/
def sqD (b : Bool) (ds : List Dt) : Dt := if b = true then .tup ds else .lst ds
def tupID (d : Dt) : Rs (List Dt) := match d with
  | .tup ds => .ok ds
  | _ => .no
theorem v_seqI : seqI Fa ρ = (Fa ρ >>= seqID) := rfl
theorem v_tupI : tupI Fa ρ = (Fa ρ >>= tupID) := rfl
theorem v_seqL {ds : List Dt} : seqID (.lst ds) = .ok ds := rfl
theorem v_seqC {ds : List Dt} : seqID (.scr ds) = .ok ds := rfl
theorem v_seqT {ds : List Dt} : seqID (.tup ds) = .ok ds := rfl
theorem v_seqQ {b : Bool} {ds : List Dt} : seqID (sqD b ds) = .ok ds := by cases b <;> rfl
theorem v_lenQ {b : Bool} {ds : List Dt} : lenD (sqD b ds) = .ok (.int ds.length) := by cases b <;> rfl
theorem v_tupQ {b : Bool} {ds : List Dt} : tupleD (sqD b ds) = .ok (.tup ds) := by cases b <;> rfl
theorem v_ixQ {b : Bool} {ds : List Dt} {k : Int} (h : atI ds k = some d) : ixD (sqD b ds) (.int k) = .ok d := by
  cases b
  · exact v_ixL h
  · exact v_ixT h
theorem v_tupID {ds : List Dt} : tupID (.tup ds) = .ok ds := rfl
def zipD (ds : List Dt) : Rs (List Dt) := match ds with
  | [.lst a, .lst b] => .ok (zipL a b)
  | [.tup a, .tup b] => .ok (zipL a b)
  | _ => .no
theorem v_zipI : zipI Fs ρ = (argsE Fs ρ >>= zipD) := rfl
theorem v_zipL {a b : List Dt} : zipD [.lst a, .lst b] = .ok (zipL a b) := rfl
theorem v_zipT {a b : List Dt} : zipD [.tup a, .tup b] = .ok (zipL a b) := rfl
def enumD (ds : List Dt) : Rs (List Dt) := match ds with
  | [.lst a] => .ok (enumL 0 a)
  | [.scr a] => .ok (enumL 0 a)
  | _ => .no
theorem v_enumI : enumI Fs ρ = (argsE Fs ρ >>= enumD) := rfl
theorem v_enumL {a : List Dt} : enumD [.lst a] = .ok (enumL 0 a) := rfl
theorem v_enumC {a : List Dt} : enumD [.scr a] = .ok (enumL 0 a) := rfl
def revD (d : Dt) : Rs (List Dt) := match d with
  | .lst ds => .ok ds.reverse
  | .tup ds => .ok ds.reverse
  | _ => .no
theorem v_revI : revI Fa ρ = (Fa ρ >>= revD) := rfl
theorem v_revL {a : List Dt} : revD (.lst a) = .ok a.reverse := rfl
theorem v_revT {a : List Dt} : revD (.tup a) = .ok a.reverse := rfl
/-! comprehensions -/
def compR (FG : Dt → Ev → Option Ev) (Ft : Ev → Rs Bool) (Fe : Ev → Rs Dt) (ρ : Ev) (ds : List Dt) : Rs Dt := if lenSz ds.length = true then noEx (compL FG Ft Fe ρ ds) >>= fun ys => .ok (.lst ys) else .no
theorem v_comp {vs : List Nat} : compE Fi vs FG Ft Fe ρ = (Fi ρ >>= fun ds => compR FG Ft Fe (wipeE ρ vs) ds) := rfl
theorem v_wipe0 : wipeE ρ [] = ρ := rfl
theorem v_wipe1 {v : Nat} {vs : List Nat} : wipeE ρ (v :: vs) = (wipeE ρ vs).set v none := rfl
theorem compL_filter {α : Type} {g f : α → Dt} {p : α → Bool} : ∀ {xs : List α}, (∀ x, x ∈ xs → ∃ ρ1, FG (g x) ρ = some ρ1 ∧ Ft ρ1 = .ok (p x) ∧ (p x = true → Fe ρ1 = .ok (f x))) → compL FG Ft Fe ρ (xs.map g) = .ok ((xs.filter p).map f)
  | [], _ => rfl
  | x :: xs, h => by
    obtain ⟨ρ1, h1, h2, h3⟩ := h x List.mem_cons_self
    have ih := compL_filter (xs := xs) fun y hy => h y (List.mem_cons_of_mem _ hy)
    rw [List.map_cons]
    unfold compL
    simp only [h1, h2, ok_bind]
    cases q : p x with
    | true =>
      rw [if_pos rfl, h3 q, ok_bind, ih, ok_bind, List.filter_cons_of_pos q, List.map_cons]
    | false =>
      rw [if_neg (by simp), ih, List.filter_cons_of_neg (by simp [q])]
theorem comp_filter {α : Type} {g f : α → Dt} {p : α → Bool} {xs : List α} (hl : lenSz xs.length = true) (h : ∀ x, x ∈ xs → ∃ ρ1, FG (g x) ρ = some ρ1 ∧ Ft ρ1 = .ok (p x) ∧ (p x = true → Fe ρ1 = .ok (f x))) : compR FG Ft Fe ρ (xs.map g) = .ok (.lst ((xs.filter p).map f)) := by
  unfold compR
  rw [List.length_map, if_pos hl, compL_filter h]
  rfl
theorem comp_map {α : Type} {g f : α → Dt} {xs : List α} (hl : lenSz xs.length = true) (h : ∀ x, x ∈ xs → ∃ ρ1, FG (g x) ρ = some ρ1 ∧ Fe ρ1 = .ok (f x)) : compR FG yesT Fe ρ (xs.map g) = .ok (.lst (xs.map f)) := by
  have := comp_filter (Ft := yesT) (p := fun _ => true) hl fun x hx => by
    obtain ⟨ρ1, h1, h2⟩ := h x hx
    exact ⟨ρ1, h1, rfl, fun _ => h2⟩
  rw [this, List.filter_eq_self.mpr fun _ _ => rfl]
theorem compL_ex {α β : Type} {g : α → Dt} {f : β → Dt} {Q : α → β → Prop} : ∀ {xs : List α}, (∀ x, x ∈ xs → ∃ ρ1 b, FG (g x) ρ = some ρ1 ∧ Fe ρ1 = .ok (f b) ∧ Q x b) → ∃ bs : List β, bs.length = xs.length ∧ (∀ (i : Nat) (x : α) (b : β), xs[i]? = some x → bs[i]? = some b → Q x b) ∧ compL FG yesT Fe ρ (xs.map g) = .ok (bs.map f)
  | [], _ => ⟨[], rfl, fun _ _ _ h _ => by simp at h, rfl⟩
  | x :: xs, h => by
    obtain ⟨ρ1, b, h1, h2, h3⟩ := h x List.mem_cons_self
    obtain ⟨bs, q1, q2, q3⟩ := compL_ex (xs := xs) fun y hy => h y (List.mem_cons_of_mem _ hy)
    refine ⟨b :: bs, by rw [List.length_cons, List.length_cons, q1], fun i y c hx hb => ?_, ?_⟩
    · cases i with
      | zero =>
        have e1 : x = y := by simpa using hx
        have e2 : b = c := by simpa using hb
        subst e1 e2
        exact h3
      | succ i => exact q2 i y c (by simpa using hx) (by simpa using hb)
    · rw [List.map_cons]
      unfold compL
      simp only [h1, v_yes, ok_bind, if_true, h2, q3]
      rfl
theorem comp_ex {α β : Type} {g : α → Dt} {f : β → Dt} {Q : α → β → Prop} {xs : List α} (hl : lenSz xs.length = true) (h : ∀ x, x ∈ xs → ∃ ρ1 b, FG (g x) ρ = some ρ1 ∧ Fe ρ1 = .ok (f b) ∧ Q x b) : ∃ bs : List β, bs.length = xs.length ∧ (∀ (i : Nat) (x : α) (b : β), xs[i]? = some x → bs[i]? = some b → Q x b) ∧ compR FG yesT Fe ρ (xs.map g) = .ok (.lst (bs.map f)) := by
  obtain ⟨bs, q1, q2, q3⟩ := compL_ex h
  refine ⟨bs, q1, q2, ?_⟩
  unfold compR
  rw [List.length_map, if_pos hl, q3]
  rfl
theorem lenSz_of {n : Nat} (h : n ≤ 1000000) : lenSz n = true := by
  unfold lenSz
  exact decide_eq_true h
theorem intSz_of {a : Int} (h : -1000000000 ≤ a) (h2 : a ≤ 1000000000) : intSz a = true := by
  unfold intSz
  exact decide_eq_true ⟨h, h2⟩
theorem smallI_of {a : Int} (h : -9000000000000000000 ≤ a) (h2 : a ≤ 9000000000000000000) : smallI a = true := by
  unfold smallI
  rw [Bool.and_eq_true]
  exact ⟨decide_eq_true (by omega), decide_eq_true (by omega)⟩
theorem at_map {α β : Type} {f : α → β} {xs : List α} {k : Nat} {x : α} (h : xs[k]? = some x) : (xs.map f)[k]? = some (f x) := by rw [List.getElem?_map, h]; rfl
theorem of_at_map {α β : Type} {f : α → β} {xs : List α} {k : Nat} {y : β} (h : (xs.map f)[k]? = some y) : ∃ x, xs[k]? = some x ∧ y = f x := by
  rw [List.getElem?_map] at h
  cases e : xs[k]? with
  | none => rw [e] at h; cases h
  | some x => rw [e] at h; exact ⟨x, rfl, (Option.some.inj h).symm⟩
theorem at_of_lt {α : Type} {xs : List α} {k : Nat} (h : k < xs.length) : ∃ x, xs[k]? = some x ∧ x ∈ xs := ⟨xs[k], List.getElem?_eq_getElem h, List.getElem_mem h⟩
theorem lt_of_at {α : Type} {xs : List α} {k : Nat} {x : α} (h : xs[k]? = some x) : k < xs.length := (List.getElem?_eq_some_iff.mp h).1
theorem rangeL_at {lo : Int} {n k : Nat} {d : Dt} (h : (rangeL lo n)[k]? = some d) : k < n ∧ d = .int (lo + (k : Nat)) := by
  obtain ⟨x, h1, h2⟩ := of_at_map h
  have hk : k < n := by have := (List.getElem?_eq_some_iff.mp h1).1; simpa using this
  rw [List.getElem?_range hk] at h1
  cases h1
  exact ⟨hk, h2⟩
theorem rangeL0_at {n k : Nat} {d : Dt} (h : (rangeL 0 n)[k]? = some d) : k < n ∧ d = .int (k : Nat) := by
  obtain ⟨h1, h2⟩ := rangeL_at h
  rw [Int.zero_add] at h2
  exact ⟨h1, h2⟩
theorem rangeL0_map {n : Nat} : rangeL 0 n = (List.range n).map fun i => Dt.int (i : Nat) := by
  unfold rangeL
  congr 1
  funext i
  rw [Int.zero_add]
theorem rangeL_len {lo : Int} {n : Nat} : (rangeL lo n).length = n := by unfold rangeL; rw [List.length_map, List.length_range]
/-! statements -/
theorem v_assoc : seqS (seqS F1 F2) F3 ρ = seqS F1 (seqS F2 F3) ρ := by
  unfold seqS
  cases F1 ρ <;> rfl
theorem v_nx : seqS nextS rest ρ = rest ρ := rfl
theorem v_end : nextS ρ = .nx ρ := rfl
theorem bindS_seq {α : Type} {r : Rs α} {k : α → Ot} : (match bindS r ρ k with
  | .nx ρ1 => rest ρ1
  | o => o) = bindS r ρ fun a => match k a with
  | .nx ρ1 => rest ρ1
  | o => o := by
  cases r <;> rfl
theorem v_asg : seqS (asgS i Fe) rest ρ = bindS (Fe ρ) ρ fun d => rest (ρ.set i (some d)) := bindS_seq
theorem v_drop : seqS (dropS Fe) rest ρ = bindS (Fe ρ) ρ fun _ => rest ρ := bindS_seq
theorem v_ret : seqS (retS Fe) rest ρ = bindS (Fe ρ) ρ fun d => .rt d := bindS_seq
theorem v_retN : seqS retN rest ρ = .rt .non := rfl
theorem v_raise {c : Str} : seqS (raiS c) rest ρ = .ex (c, none) ρ := rfl
theorem v_brk : seqS brkS rest ρ = .bk ρ := rfl
theorem v_cnt : seqS cntS rest ρ = .ct ρ := rfl
def iteS (b : Bool) (F1 F2 rest : Ev → Ot) (ρ : Ev) : Ot := if b = true then seqS F1 rest ρ else seqS F2 rest ρ
theorem v_if : seqS (ifS Ft F1 F2) rest ρ = bindS (Ft ρ) ρ fun b => iteS b F1 F2 rest ρ := by
  refine bindS_seq.trans ?_
  cases Ft ρ with
  | ok b => cases b <;> rfl
  | _ => rfl
theorem v_iteT : iteS true F1 F2 rest ρ = seqS F1 rest ρ := rfl
theorem v_iteF : iteS false F1 F2 rest ρ = seqS F2 rest ρ := rfl
theorem wp_ite {b : Bool} (h : b = true → Post (seqS F1 rest ρ)) (k : b = false → Post (seqS F2 rest ρ)) : Post (iteS b F1 F2 rest ρ) := by
  cases b with
  | true => exact h rfl
  | false => exact k rfl
def JoinP (Post : Ot → Prop) (I : Ev → Prop) (o : Ot) : Prop := match o with
  | .nx ρ2 => I ρ2
  | .no => False
  | o => Post o
theorem wp_join {b : Bool} (I : Ev → Prop) (h : b = true → JoinP Post I (F1 ρ)) (k : b = false → JoinP Post I (F2 ρ)) (hk : ∀ ρ', I ρ' → Post (rest ρ')) : Post (iteS b F1 F2 rest ρ) := by
  have go : ∀ F : Ev → Ot, JoinP Post I (F ρ) → Post (seqS F rest ρ) := fun F z => by
    unfold seqS
    cases q : F ρ with
    | nx r => rw [q] at z; exact hk r z
    | rt r => rw [q] at z; exact z
    | bk r => rw [q] at z; exact z
    | ct r => rw [q] at z; exact z
    | ex c r => rw [q] at z; exact z
    | no => rw [q] at z; exact z.elim
  cases b with
  | true => exact go _ (h rfl)
  | false => exact go _ (k rfl)
def asgR (FG : Dt → Ev → Option Ev) (rest : Ev → Ot) (ρ : Ev) (d : Dt) : Ot := match FG d ρ with
  | some ρ' => rest ρ'
  | none => .no
theorem v_asgG : seqS (asgG FG Fe) rest ρ = bindS (Fe ρ) ρ fun d => asgR FG rest ρ d := by
  refine bindS_seq.trans ?_
  congr 1
  funext d
  unfold asgR
  cases FG d ρ <;> rfl
theorem v_asgR {ρ' : Ev} (h : FG d ρ = some ρ') : asgR FG rest ρ d = rest ρ' := by unfold asgR; rw [h]
theorem v_nameG : nameG i d ρ = some (ρ.set i (some d)) := rfl
theorem v_tupG {n : Nat} {fs : List Dt → Ev → Option Ev} {ds : List Dt} (h : ds.length = n) : tupG n fs (.tup ds) ρ = fs ds ρ := if_pos h
theorem v_consG {f : Dt → Ev → Option Ev} {fs : List Dt → Ev → Option Ev} {ds : List Dt} : consG f fs (d :: ds) ρ = (f d ρ).bind fun ρ1 => fs ds ρ1 := rfl
theorem v_nilG : nilG [] ρ = some ρ := rfl
theorem v_newF {C f : Str} {ns : List Str} {ds : List Dt} (hf : fix f ns = none) (hl : ns.length < 100) : seqS (newF C f 0 Fe) rest (some (.ins C ns ds) :: ρ) = bindS (Fe (some (.ins C ns ds) :: ρ)) (some (.ins C ns ds) :: ρ) fun y => rest (some (.ins C (ns ++ [f]) (ds ++ [y])) :: ρ) := by
  have e : newF C f 0 Fe (some (.ins C ns ds) :: ρ) = bindS (Fe (some (.ins C ns ds) :: ρ)) (some (.ins C ns ds) :: ρ) fun y => .nx (some (.ins C (ns ++ [f]) (ds ++ [y])) :: ρ) := by
    show (if C = C then newF0 f 0 Fe (some (.ins C ns ds) :: ρ) else .no) = _
    rw [if_pos rfl]
    unfold newF0
    congr 1
    funext y
    show (if fix f ns = none ∧ ns.length < 100 then Ot.nx _ else .no) = _
    rw [if_pos ⟨hf, hl⟩]
    rfl
  unfold seqS
  rw [e]
  exact bindS_seq
theorem v_outI {d : Dt} : outI (.nx (some d :: ρ)) = .ok d := rfl
theorem v_outIX {c : Xn} : outI (.ex c ρ) = .ex c := rfl
def tryR (subs : List (Str × Bool)) (Fh rest : Ev → Ot) (o : Ot) : Ot := match o with
  | .ex c ρ' => (match subs.lookup c.1 with
    | some true => seqS (fun r => noX (Fh r)) rest ρ'
    | some false => .ex c ρ'
    | none => .no)
  | .nx ρ' => rest ρ'
  | o => o
theorem v_try {subs : List (Str × Bool)} {Fb Fh : Ev → Ot} : seqS (tryS subs Fb Fh) rest ρ = tryR subs Fh rest (Fb ρ) := by
  show (match tryS subs Fb Fh ρ with
    | .nx ρ1 => rest ρ1
    | o => o) = _
  unfold tryS tryR
  cases Fb ρ with
  | ex c r =>
    show (match (match subs.lookup c.1 with
      | some true => noX (Fh r)
      | some false => .ex c r
      | none => .no) with
      | .nx ρ1 => rest ρ1
      | o => o) = (match subs.lookup c.1 with
      | some true => seqS (fun r => noX (Fh r)) rest r
      | some false => .ex c r
      | none => .no)
    cases subs.lookup c.1 with
    | none => rfl
    | some b => cases b <;> rfl
  | _ => rfl
theorem v_tryN {subs : List (Str × Bool)} {Fh : Ev → Ot} : tryR subs Fh rest (.nx ρ) = rest ρ := rfl
theorem v_tryT {subs : List (Str × Bool)} {Fh : Ev → Ot} {c : Xn} (h : subs.lookup c.1 = some true) : tryR subs Fh rest (.ex c ρ) = seqS (fun r => noX (Fh r)) rest ρ := by
  unfold tryR
  simp only [h]
theorem v_tryF {subs : List (Str × Bool)} {Fh : Ev → Ot} {c : Xn} (h : subs.lookup c.1 = some false) : tryR subs Fh rest (.ex c ρ) = .ex c ρ := by
  unfold tryR
  simp only [h]
theorem v_tryRt {subs : List (Str × Bool)} {Fh : Ev → Ot} : tryR subs Fh rest (.rt d) = .rt d := rfl
/-! places -/
def appR (rest : Ev → Ot) (y : Dt) (x : Dt × (Dt → Ev)) : Ot := match x.1 with
  | .lst ds => if lenSz ds.length = true then rest (x.2 (.lst (ds ++ [y]))) else .no
  | _ => .no
theorem v_app {Fp : Ev → Rs (Dt × (Dt → Ev))} : seqS (appS Fp Fe) rest ρ = bindS (Fp ρ) ρ fun x => bindS (lstOf x.1) ρ fun _ => bindS (Fe ρ) ρ fun y => appR rest y x := by
  refine bindS_seq.trans ?_
  congr 1
  funext x
  obtain ⟨a, p⟩ := x
  cases a with
  | lst ds =>
    show (match bindS (Fe ρ) ρ (fun y => if lenSz ds.length = true then Ot.nx (p (.lst (ds ++ [y]))) else .no) with
      | .nx ρ1 => rest ρ1
      | o => o) = _
    rw [bindS_seq]
    show _ = bindS (Fe ρ) ρ fun y => appR rest y (.lst ds, p)
    congr 1
    funext y
    show _ = if lenSz ds.length = true then rest (p (.lst (ds ++ [y]))) else .no
    cases lenSz ds.length <;> rfl
  | _ => rfl
theorem v_lstOf {ds : List Dt} : lstOf (.lst ds) = .ok ds := rfl
theorem v_appR {ds : List Dt} {p : Dt → Ev} {y : Dt} (h : lenSz ds.length = true) : appR rest y (.lst ds, p) = rest (p (.lst (ds ++ [y]))) := if_pos h
theorem v_varP {x : Option Dt} (h : ρ[i]? = some (some d)) : varP i ρ = .ok (d, fun x => ρ.set i (some x)) := by unfold varP; rw [h]
theorem v_varP0 : varP 0 (some d :: ρ) = .ok (d, fun x => some x :: ρ) := rfl
theorem v_varPS {y : Option Dt} : varP (i + 1) (y :: ρ) = (varP i ρ >>= fun p => .ok (p.1, fun x => y :: p.2 x)) := by
  unfold varP
  rw [List.getElem?_cons_succ]
  cases ρ[i]? with
  | none => rfl
  | some o => cases o <;> rfl
def setR (rest : Ev → Ot) (y : Dt) (x : Dt × (Dt → Ev)) (k : Dt) : Ot := match x.1, k with
  | .lst ds, .int i => (match ixN ds.length i with
    | some j => rest (x.2 (.lst (ds.set j y)))
    | none => .no)
  | _, _ => .no
theorem v_set {Fp : Ev → Rs (Dt × (Dt → Ev))} : seqS (setS Fe Fp Fa) rest ρ = bindS (Fe ρ) ρ fun y => bindS (Fp ρ) ρ fun x => bindS (Fa ρ) ρ fun k => setR rest y x k := by
  refine bindS_seq.trans ?_
  congr 1
  funext y
  rw [bindS_seq]
  congr 1
  funext x
  rw [bindS_seq]
  congr 1
  funext k
  obtain ⟨a, p⟩ := x
  cases a with
  | lst ds =>
    cases k with
    | int n =>
      show _ = (match ixN ds.length n with
        | some j => rest (p (.lst (ds.set j y)))
        | none => .no)
      show (match (match ixN ds.length n with
        | some j => Ot.nx (p (.lst (ds.set j y)))
        | none => .no) with
        | .nx ρ1 => rest ρ1
        | o => o) = _
      cases ixN ds.length n <;> rfl
    | _ => rfl
  | _ => cases k <;> rfl
theorem v_setR {ds : List Dt} {p : Dt → Ev} {y : Dt} {k : Nat} (h : k < ds.length) : setR rest y (.lst ds, p) (.int (k : Int)) = rest (p (.lst (ds.set k y))) := by
  have e : ixN ds.length (k : Int) = some k := by
    unfold ixN
    first | simp; omega | simp [h]
  show (match ixN ds.length (k : Int) with
    | some j => rest (p (.lst (ds.set j y)))
    | none => .no) = _
  rw [e]
/-! loops -/
def forR (FG : Dt → Ev → Option Ev) (Fb rest : Ev → Ot) (ds : List Dt) (ρ : Ev) : Ot := match forL FG Fb ds ρ with
  | .nx ρ1 => rest ρ1
  | o => o
theorem v_for : seqS (forS Fi FG F1) rest ρ = bindS (Fi ρ) ρ fun ds => forR FG F1 rest ds ρ := bindS_seq
def LoopP (Post : Ot → Prop) (rest : Ev → Ot) (I : Ev → Prop) (o : Ot) : Prop := match o with
  | .nx ρ2 => I ρ2
  | .ct ρ2 => I ρ2
  | .bk ρ2 => Post (rest ρ2)
  | .no => False
  | o => Post o
theorem forR_cons {ds : List Dt} {ρ1 : Ev} (h1 : FG d ρ = some ρ1) : forR FG F1 rest (d :: ds) ρ = (match F1 ρ1 with
  | .nx r => forR FG F1 rest ds r
  | .ct r => forR FG F1 rest ds r
  | .bk r => rest r
  | o => o) := by
  unfold forR
  simp only [forL, h1]
  cases F1 ρ1 <;> rfl
theorem wp_for {ds : List Dt} (I : Nat → Ev → Prop) (h0 : I 0 ρ) (hs : ∀ n d ρ, ds[n]? = some d → I n ρ → ∃ ρ1, FG d ρ = some ρ1 ∧ LoopP Post rest (I (n + 1)) (F1 ρ1)) (hk : ∀ ρ', I ds.length ρ' → Post (rest ρ')) : Post (forR FG F1 rest ds ρ) := by
  have main : ∀ (es : List Dt) (n : Nat) (ρ : Ev), ds.drop n = es → n ≤ ds.length → I n ρ → Post (forR FG F1 rest es ρ) := by
    intro es
    induction es with
    | nil =>
      intro n ρ hd hn hI
      have : n = ds.length := by
        have := congrArg List.length hd
        rw [List.length_drop] at this
        simp at this
        omega
      subst this
      exact hk ρ hI
    | cons e es ih =>
      intro n ρ hd hn hI
      have hlt : n < ds.length := by
        have := congrArg List.length hd
        rw [List.length_drop] at this
        simp at this
        omega
      have hd2 := List.drop_eq_getElem_cons hlt
      rw [hd] at hd2
      have he : ds[n]? = some e := by
        rw [List.getElem?_eq_getElem hlt]
        exact congrArg some (List.cons.inj hd2).1.symm
      obtain ⟨ρ1, h1, h2⟩ := hs n e ρ he hI
      have nxt := fun ρ2 (q : I (n + 1) ρ2) => ih (n + 1) ρ2 (List.cons.inj hd2).2.symm hlt q
      rw [forR_cons h1]
      cases q : F1 ρ1 with
      | nx r => rw [q] at h2; exact nxt r h2
      | ct r => rw [q] at h2; exact nxt r h2
      | bk r => rw [q] at h2; exact h2
      | rt r => rw [q] at h2; exact h2
      | ex c r => rw [q] at h2; exact h2
      | no => rw [q] at h2; exact h2.elim
  exact main ds 0 ρ rfl (Nat.zero_le _) h0
theorem wp_comp1 {α β : Type} {ds : List Dt} {ρ' : Ev} {k : Dt → Ot} (xs : List α) (g : α → Dt) (f : β → Dt) (Q : α → β → Prop) (hd : ds = xs.map g) (hl : lenSz xs.length = true) (h : ∀ x, x ∈ xs → ∃ ρ1 b, FG (g x) ρ = some ρ1 ∧ Fe ρ1 = .ok (f b) ∧ Q x b)
    (hk : ∀ bs : List β, bs.length = xs.length → (∀ (i : Nat) (x : α) (b : β), xs[i]? = some x → bs[i]? = some b → Q x b) → Post (k (.lst (bs.map f)))) : Post (bindS (compR FG yesT Fe ρ ds) ρ' k) := by
  obtain ⟨bs, h1, h2, h3⟩ := comp_ex hl h
  rw [hd, h3]
  exact hk bs h1 h2
theorem wp_comp2 {α β : Type} {ds : List Dt} {ρ' : Ev} {γ : Type} {f2 : Dt → Rs γ} {k : γ → Ot} (xs : List α) (g : α → Dt) (f : β → Dt) (Q : α → β → Prop) (hd : ds = xs.map g) (hl : lenSz xs.length = true) (h : ∀ x, x ∈ xs → ∃ ρ1 b, FG (g x) ρ = some ρ1 ∧ Fe ρ1 = .ok (f b) ∧ Q x b)
    (hk : ∀ bs : List β, bs.length = xs.length → (∀ (i : Nat) (x : α) (b : β), xs[i]? = some x → bs[i]? = some b → Q x b) → Post (bindS (f2 (.lst (bs.map f))) ρ' k)) : Post (bindS (compR FG yesT Fe ρ ds >>= f2) ρ' k) := by
  obtain ⟨bs, h1, h2, h3⟩ := comp_ex hl h
  rw [hd, h3]
  exact hk bs h1 h2
theorem all_of {α β : Type} {xs : List α} {bs : List β} {Q : α → β → Prop} {R : β → Prop} (hl : bs.length = xs.length) (h : ∀ (i : Nat) (x : α) (b : β), xs[i]? = some x → bs[i]? = some b → Q x b) (hr : ∀ x b, Q x b → R b) : ∀ b ∈ bs, R b := fun b hb => by
  obtain ⟨i, hi, rfl⟩ := List.mem_iff_getElem.mp hb
  exact hr _ _ (h i _ _ (List.getElem?_eq_getElem (by rw [← hl]; exact hi)) (List.getElem?_eq_getElem hi))
theorem rangeL_map {lo : Int} {n : Nat} : rangeL lo n = (List.range n).map fun i => Dt.int (lo + (i : Nat)) := rfl
theorem bindS_ex {α : Type} {c : Xn} {k : α → Ot} : bindS (.ex c) ρ k = .ex c ρ := rfl
theorem v_outR {m : Mode} : outF m (.rt d) = .ok d := rfl
theorem v_outX {m : Mode} {c : Xn} : outF m (.ex c ρ) = .ex c := rfl
theorem v_outN : outF .F (.nx ρ) = .ok .non := rfl
end
theorem sIx_nat {len : Nat} {dflt : Nat} (k : Nat) : HT.sIx len dflt (some (k : Int)) = min k len := by
  unfold HT.sIx
  simp
  omega
theorem cut_take {α : Type} {xs : List α} (k : Nat) : cutL xs none (some (k : Int)) = xs.take k := by
  unfold cutL
  rw [sIx_nat]
  show (xs.drop 0).take (min k xs.length - 0) = _
  rw [List.drop_zero, Nat.sub_zero, ← List.take_take, List.take_length]
theorem cut_drop {α : Type} {xs : List α} (k : Nat) : cutL xs (some (k : Int)) none = xs.drop k := by
  unfold cutL
  rw [sIx_nat]
  show (xs.drop (min k xs.length)).take (xs.length - min k xs.length) = _
  rw [List.take_of_length_le (by rw [List.length_drop]; exact Nat.le_refl _)]
  by_cases h : k ≤ xs.length
  · rw [Nat.min_eq_left h]
  · rw [Nat.min_eq_right (by omega), List.drop_length, List.drop_of_length_le (by omega)]
theorem zipL_map {α β : Type} {f : α → Dt} {g : β → Dt} : ∀ {as : List α} {bs : List β}, zipL (as.map f) (bs.map g) = (as.zip bs).map fun q => .tup [f q.1, g q.2]
  | [], _ => rfl
  | a :: as, [] => rfl
  | a :: as, b :: bs => by
    rw [List.map_cons, List.map_cons, zipL, zipL_map, List.zip_cons_cons, List.map_cons]
theorem v_allL {bs : List Bool} : allD (.lst (bs.map Dt.bl)) = .ok (.bl (bs.all id)) := by
  show (match blsOf (bs.map Dt.bl) with | some bs => Rs.ok (Dt.bl (bs.all id)) | none => .no) = _
  rw [blsOf_map]
theorem v_anyL {bs : List Bool} : anyD (.lst (bs.map Dt.bl)) = .ok (.bl (bs.any id)) := by
  show (match blsOf (bs.map Dt.bl) with | some bs => Rs.ok (Dt.bl (bs.any id)) | none => .no) = _
  rw [blsOf_map]
theorem v_sumL {bs : List Int} : sumD (.lst (bs.map Dt.int)) = .ok (.int bs.sum) := by
  show (match intsOf (bs.map Dt.int) with | some bs => Rs.ok (Dt.int bs.sum) | none => .no) = _
  rw [intsOf_map]
theorem ix_ints {vs : List Int} {k : Int} (h0 : 0 ≤ k) (h1 : k < vs.length) : ∃ v, v ∈ vs ∧ atI (vs.map Dt.int) k = some (.int v) := by
  obtain ⟨v, hv, hm⟩ := at_of_lt (xs := vs) (k := k.toNat) (by omega)
  exact ⟨v, hm, atI_int h0 (at_map hv)⟩
theorem v_eqS {a b : Str} (ha : eqOK (.str a) = true) (hb : eqOK (.str b) = true) : eqD (.str a) (.str b) = .ok (.bl (decide (a = b))) := by
  unfold eqD
  rw [ha, hb]
  rfl
theorem v_neS {a b : Str} (ha : eqOK (.str a) = true) (hb : eqOK (.str b) = true) : neD (.str a) (.str b) = .ok (.bl (!decide (a = b))) := by
  unfold neD
  rw [ha, hb]
  rfl
theorem v_isI {a : Int} : isiD .int (.int a) = .ok (.bl true) := rfl
theorem v_isIB {a : Int} : isiD .bool (.int a) = .ok (.bl false) := rfl
section
variable {ρ : Ev} {d : Dt} {Fa Fb : Ev → Rs Dt}
theorem v_divmod : divmodE Fa Fb ρ = (Fa ρ >>= fun a => Fb ρ >>= fun b => dvmD a b) := rfl
theorem v_dvm {i j : Int} (h : divOk j = true) : dvmD (.int i) (.int j) = .ok (.tup [.int (i / j), .int (i % j)]) := if_pos h
theorem v_tupRev : tupRevE Fa ρ = (Fa ρ >>= trevD) := rfl
theorem v_trev {ds : List Dt} : trevD (.lst ds) = .ok (.tup ds.reverse) := rfl
theorem v_lrev : lrevE Fa ρ = (Fa ρ >>= lrevD) := rfl
theorem v_lrevL {ds : List Dt} : lrevD (.lst ds) = .ok (.lst ds.reverse) := rfl
theorem v_dnew : dnewE ρ = .ok (.dic [] []) := rfl
theorem v_dnewT : dnewTE ρ = .ok (.dit [] []) := rfl
theorem v_din {neg : Bool} : dinE neg Fa Fb ρ = (Fa ρ >>= fun k => Fb ρ >>= fun d => dgetD d k >>= fun o => .ok (.bl (if neg = true then !o.isSome else o.isSome))) := rfl
theorem v_dget : dgetE Fa Fb ρ = (Fa ρ >>= fun d => Fb ρ >>= fun k => dgetD d k >>= fun o => match o with | some e => .ok e | none => .no) := rfl
theorem v_scalE : scalE Fa ρ = (Fa ρ >>= fun d => if scal d = true then .ok d else .no) := rfl
theorem v_dlen : dlenE Fa ρ = (Fa ρ >>= dlenD) := rfl
theorem v_dlenT : dlenTE Fa ρ = (Fa ρ >>= dlenTD) := rfl
theorem v_dlenD {ks : List Key} {ds : List Dt} : dlenD (.dic ks ds) = .ok (.int ks.length) := rfl
theorem v_dlenTD {ks : List (List Key)} {ds : List Dt} : dlenTD (.dit ks ds) = .ok (.int ks.length) := rfl
theorem v_dgetT {ks : List (List Key)} {ds : List Dt} {k : Dt} {x : List Key} (h : keyD k = some (.inr x)) : dgetD (.dit ks ds) k = .ok (lookK ks ds x) := by
  unfold dgetD
  rw [h]
theorem v_dgetI {ks : List Key} {ds : List Dt} {i : Int} : dgetD (.dic ks ds) (.int i) = .ok (lookK ks ds (.inl i)) := rfl
theorem v_dgetS {ks : List Key} {ds : List Dt} {x : Str} : dgetD (.dic ks ds) (.str x) = .ok (lookK ks ds (.inr x)) := rfl
def dputR (rest : Ev → Ot) (y : Dt) (x : Dt × (Dt → Ev)) (k : Dt) : Ot := match dputD x.1 k y with
  | some d => rest (x.2 d)
  | none => .no
theorem v_dput {Fp : Ev → Rs (Dt × (Dt → Ev))} {Fk : Ev → Rs Dt} {rest : Ev → Ot} : seqS (dputS Fa Fp Fk) rest ρ = bindS (Fa ρ) ρ fun y => bindS (Fp ρ) ρ fun x => bindS (Fk ρ) ρ fun k => dputR rest y x k := by
  refine bindS_seq.trans ?_
  congr 1
  funext y
  rw [bindS_seq]
  congr 1
  funext x
  rw [bindS_seq]
  congr 1
  funext k
  unfold dputR
  cases dputD x.1 k y <;> rfl
theorem v_dputT {rest : Ev → Ot} {ks : List (List Key)} {ds : List Dt} {p : Dt → Ev} {y k : Dt} {x : List Key} (hk : keyD k = some (.inr x)) (h : lenSz ks.length = true) : dputR rest y (.dit ks ds, p) k = rest (p (.dit (putKs ks x) (putDs ks ds x y))) := by
  unfold dputR dputD
  simp only [hk, h, if_true]
theorem v_dputI {rest : Ev → Ot} {ks : List Key} {ds : List Dt} {p : Dt → Ev} {y : Dt} {i : Int} (h : lenSz ks.length = true) : dputR rest y (.dic ks ds, p) (.int i) = rest (p (.dic (putKs ks (.inl i)) (putDs ks ds (.inl i) y))) := by
  unfold dputR dputD
  simp only [keyD, h, if_true]
theorem lookK_none {κ α : Type} [DecidableEq κ] {k : κ} : ∀ {ks : List κ} {ds : List α}, hasK ks k = false → lookK ks ds k = none
  | [], _, _ => rfl
  | _ :: _, [], _ => rfl
  | a :: ks, d :: ds, h => by
    have h : (decide (a = k) || hasK ks k) = false := h
    rw [Bool.or_eq_false_iff] at h
    have ih := lookK_none (ks := ks) (ds := ds) h.2
    unfold lookK at ih ⊢
    rw [List.zip_cons_cons, List.find?_cons_of_neg (by simpa using of_decide_eq_false h.1)]
    exact ih
theorem keyD_ints (ws : List Int) : keyD (.tup (ws.map Dt.int)) = some (.inr (ws.map Sum.inl)) := by
  have : flatKs (ws.map Dt.int) = some (ws.map Sum.inl) := by
    induction ws with
    | nil => rfl
    | cons w ws ih => rw [List.map_cons, flatKs, ih]; rfl
  show (flatKs (ws.map Dt.int)).map (Sum.inr : List Key → Key ⊕ List Key) = _
  rw [this]
  rfl
end
end Pm
namespace Pm
open PySem PySem.Spec PyProof.Rows L2
/-! ### the text by places -/
def top (i : Nat) : Stmt := PySem.Challenge.pw_pocketmill_k04_whole_words_and_codes.main.body.getD i (.Pass ⟨0, 0, 0, 0⟩)
abbrev s_pockets_kept : Stmt := top 12
abbrev s_Mill___init__ : Stmt := inClass (top 13) 0
abbrev s_Mill_codes : Stmt := inClass (top 13) 1
abbrev s_Mill_many : Stmt := inClass (top 13) 2
abbrev s_codes_ahead : Stmt := top 14
abbrev s_look_at_late : Stmt := top 15
abbrev s_look_at_word : Stmt := top 16
abbrev s_word_code : Stmt := top 17
abbrev s_code_word : Stmt := top 18
abbrev s__law_cell_at : Stmt := top 20
abbrev s__law_part : Stmt := top 21
abbrev s__law_folded : Stmt := top 22
abbrev s__law_pocket : Stmt := top 23
abbrev s__law_passes : Stmt := top 24
abbrev s__law_word_good : Stmt := top 25
abbrev s__law_words : Stmt := top 26
abbrev s_law : Stmt := top 27
/-! ### what the top has written -/
structure Txt (K : PySem.W.Frag) (mg : Str → Option Value) : Prop where
  d_pockets_kept : ∃ fd, FunD K "pockets_kept" "pockets_kept" (defArgs s_pockets_kept) (defBody s_pockets_kept) (defScope s_pockets_kept) [] [] (He.ga K "pockets_kept") fd
  g_pockets_kept : mg "pockets_kept" = some (.ref (He.ga K "pockets_kept"))
  d_Mill___init__ : ∃ fd, FunD K "__init__" "Mill.__init__" (defArgs s_Mill___init__) (defBody s_Mill___init__) (defScope s_Mill___init__) [] [] (He.ma K (He.ga K "Mill") "__init__") fd
  d_Mill_codes : ∃ fd, FunD K "codes" "Mill.codes" (defArgs s_Mill_codes) (defBody s_Mill_codes) (defScope s_Mill_codes) [] [] (He.ma K (He.ga K "Mill") "codes") fd
  m_Mill_codes : Meth K (He.ga K "Mill") "codes" (He.ma K (He.ga K "Mill") "codes")
  d_Mill_many : ∃ fd, FunD K "many" "Mill.many" (defArgs s_Mill_many) (defBody s_Mill_many) (defScope s_Mill_many) [] [] (He.ma K (He.ga K "Mill") "many") fd
  m_Mill_many : Meth K (He.ga K "Mill") "many" (He.ma K (He.ga K "Mill") "many")
  d_codes_ahead : ∃ fd, FunD K "codes_ahead" "codes_ahead" (defArgs s_codes_ahead) (defBody s_codes_ahead) (defScope s_codes_ahead) [] [] (He.ga K "codes_ahead") fd
  g_codes_ahead : mg "codes_ahead" = some (.ref (He.ga K "codes_ahead"))
  d_look_at_late : ∃ fd, FunD K "look_at_late" "look_at_late" (defArgs s_look_at_late) (defBody s_look_at_late) (defScope s_look_at_late) [] [] (He.ga K "look_at_late") fd
  g_look_at_late : mg "look_at_late" = some (.ref (He.ga K "look_at_late"))
  d_look_at_word : ∃ fd, FunD K "look_at_word" "look_at_word" (defArgs s_look_at_word) (defBody s_look_at_word) (defScope s_look_at_word) [] [] (He.ga K "look_at_word") fd
  g_look_at_word : mg "look_at_word" = some (.ref (He.ga K "look_at_word"))
  d_word_code : ∃ fd, FunD K "word_code" "word_code" (defArgs s_word_code) (defBody s_word_code) (defScope s_word_code) [] [] (He.ga K "word_code") fd
  g_word_code : mg "word_code" = some (.ref (He.ga K "word_code"))
  d_code_word : ∃ fd, FunD K "code_word" "code_word" (defArgs s_code_word) (defBody s_code_word) (defScope s_code_word) [] [] (He.ga K "code_word") fd
  g_code_word : mg "code_word" = some (.ref (He.ga K "code_word"))
  d__law_cell_at : ∃ fd, FunD K "_law_cell_at" "_law_cell_at" (defArgs s__law_cell_at) (defBody s__law_cell_at) (defScope s__law_cell_at) [] [] (He.ga K "_law_cell_at") fd
  g__law_cell_at : mg "_law_cell_at" = some (.ref (He.ga K "_law_cell_at"))
  d__law_part : ∃ fd, FunD K "_law_part" "_law_part" (defArgs s__law_part) (defBody s__law_part) (defScope s__law_part) [] [] (He.ga K "_law_part") fd
  g__law_part : mg "_law_part" = some (.ref (He.ga K "_law_part"))
  d__law_folded : ∃ fd, FunD K "_law_folded" "_law_folded" (defArgs s__law_folded) (defBody s__law_folded) (defScope s__law_folded) [] [] (He.ga K "_law_folded") fd
  g__law_folded : mg "_law_folded" = some (.ref (He.ga K "_law_folded"))
  d__law_pocket : ∃ fd, FunD K "_law_pocket" "_law_pocket" (defArgs s__law_pocket) (defBody s__law_pocket) (defScope s__law_pocket) [] [] (He.ga K "_law_pocket") fd
  g__law_pocket : mg "_law_pocket" = some (.ref (He.ga K "_law_pocket"))
  d__law_passes : ∃ fd, FunD K "_law_passes" "_law_passes" (defArgs s__law_passes) (defBody s__law_passes) (defScope s__law_passes) [] [] (He.ga K "_law_passes") fd
  g__law_passes : mg "_law_passes" = some (.ref (He.ga K "_law_passes"))
  d__law_word_good : ∃ fd, FunD K "_law_word_good" "_law_word_good" (defArgs s__law_word_good) (defBody s__law_word_good) (defScope s__law_word_good) [] [] (He.ga K "_law_word_good") fd
  g__law_word_good : mg "_law_word_good" = some (.ref (He.ga K "_law_word_good"))
  d__law_words : ∃ fd, FunD K "_law_words" "_law_words" (defArgs s__law_words) (defBody s__law_words) (defScope s__law_words) [] [] (He.ga K "_law_words") fd
  g__law_words : mg "_law_words" = some (.ref (He.ga K "_law_words"))
  d_law : ∃ fd, FunD K "law" "law" (defArgs s_law) (defBody s_law) (defScope s_law) [] [] (He.ga K "law") fd
  g_law : mg "law" = some (.ref (He.ga K "law"))
  g_Mill : mg "Mill" = some (.ref (He.ga K "Mill"))
  c_Mill : Cls K (He.ga K "Mill")
  k_Mill : Mk K (He.ga K "Mill") (He.ma K (He.ga K "Mill") "__init__")
  n_Mill_passes : NoAttr K (He.ga K "Mill") "passes"
  g_MillError : mg "MillError" = some (.ref (He.ga K "MillError"))
  x_MillError : PySem.W.excIn K (He.ga K "MillError") He.veBase "ValueError.__new__" = true ∧ PySem.W.keepIn K (.ref (He.ga K "MillError")) = true ∧ PySem.W.subIn K (.ref (He.ga K "MillError")) (.type "BaseException") = some true ∧ PySem.W.typeIn K (.ref (He.ga K "MillError")) = some (.type "type")
  g_BadMill : mg "BadMill" = some (.ref (He.ga K "BadMill"))
  x_BadMill : PySem.W.excIn K (He.ga K "BadMill") He.veBase "ValueError.__new__" = true ∧ PySem.W.keepIn K (.ref (He.ga K "BadMill")) = true ∧ PySem.W.subIn K (.ref (He.ga K "BadMill")) (.type "BaseException") = some true ∧ PySem.W.typeIn K (.ref (He.ga K "BadMill")) = some (.type "type")
  g_BadLate : mg "BadLate" = some (.ref (He.ga K "BadLate"))
  x_BadLate : PySem.W.excIn K (He.ga K "BadLate") He.veBase "ValueError.__new__" = true ∧ PySem.W.keepIn K (.ref (He.ga K "BadLate")) = true ∧ PySem.W.subIn K (.ref (He.ga K "BadLate")) (.type "BaseException") = some true ∧ PySem.W.typeIn K (.ref (He.ga K "BadLate")) = some (.type "type")
  g_BadWord : mg "BadWord" = some (.ref (He.ga K "BadWord"))
  x_BadWord : PySem.W.excIn K (He.ga K "BadWord") He.veBase "ValueError.__new__" = true ∧ PySem.W.keepIn K (.ref (He.ga K "BadWord")) = true ∧ PySem.W.subIn K (.ref (He.ga K "BadWord")) (.type "BaseException") = some true ∧ PySem.W.typeIn K (.ref (He.ga K "BadWord")) = some (.type "type")
  g_BadCode : mg "BadCode" = some (.ref (He.ga K "BadCode"))
  x_BadCode : PySem.W.excIn K (He.ga K "BadCode") He.veBase "ValueError.__new__" = true ∧ PySem.W.keepIn K (.ref (He.ga K "BadCode")) = true ∧ PySem.W.subIn K (.ref (He.ga K "BadCode")) (.type "BaseException") = some true ∧ PySem.W.typeIn K (.ref (He.ga K "BadCode")) = some (.type "type")
  i_MOST_PASSES : ∃ t, mg "MOST_PASSES" = some (.int 6 t)
  i_MOST_POCKETS : ∃ t, mg "MOST_POCKETS" = some (.int 6 t)
  i_MOST_CODES : ∃ t, mg "MOST_CODES" = some (.int 1000 t)
  i_WIDEST : ∃ t, mg "WIDEST" = some (.int 9 t)
  g_KINDS : mg "KINDS" = some (.ref (He.ga K "KINDS"))
  t_KINDS : ∀ H : Hp, SqT K H (He.ga K "KINDS") [.str "queue", .str "pile"]
  b_ValueError : mg "ValueError" = none
  b_bool : mg "bool" = none
  b_divmod : mg "divmod" = none
  b_int : mg "int" = none
  b_isinstance : mg "isinstance" = none
  b_len : mg "len" = none
  b_range : mg "range" = none
  b_reversed : mg "reversed" = none
  b_tuple : mg "tuple" = none
  b_zip : mg "zip" = none
/-! ### each def as a function, and that it keeps to it -/
def Fb_pockets_kept : Ev → Ot := (seqS (ifS (orT (boolT (ltE (lenE (varE 0)) (conE (.int 1)))) (boolT (gtE (lenE (varE 0)) (conE (.int 6))))) (seqS (raiS "BadMill")
 nextS) nextS)
 (seqS (asgS 1 (lstE []))
 (seqS (forS (seqI (varE 0)) (tupG 2 (consG (nameG 2) (consG (nameG 3) nilG))) (seqS (ifS (orT (boolT (ninE (varE 2) (conE (.ktp [.str "queue", .str "pile"])))) (orT (boolT (ltE (varE 3) (conE (.int 0)))) (boolT (gtE (varE 3) (conE (.int 9)))))) (seqS (raiS "BadMill")
 nextS) nextS)
 (seqS (appS (varP 1) (tupE [(varE 2), (varE 3)]))
 nextS)))
 (seqS (retS (tupleE (varE 1)))
 nextS))))
def F_pockets_kept : List Dt → Rs Dt := defF 1 4 .F Fb_pockets_kept
def Fb_Mill_many : Ev → Ot := (seqS (retS (lenE (fldE "Mill" "passes" (varE 0))))
 nextS)
def F_Mill_many : List Dt → Rs Dt := defF 1 1 .F Fb_Mill_many
def Fb_codes_ahead : Ev → Ot := (seqS (asgS 2 (conE (.int 1)))
 (seqS (forS (seqI (slcE (fldE "Mill" "passes" (varE 0)) noPart (partO (varE 1)))) (nameG 3) (seqS (asgS 2 (mulE (varE 2) (lenE (varE 3))))
 nextS))
 (seqS (retS (varE 2))
 nextS)))
def F_codes_ahead : List Dt → Rs Dt := defF 2 4 .F Fb_codes_ahead
def Fb_Mill_codes : Ev → Ot := (seqS (retS (callE F_codes_ahead [(varE 0), (methE "Mill" "many" F_Mill_many (varE 0) [])]))
 nextS)
def F_Mill_codes : List Dt → Rs Dt := defF 1 1 .F Fb_Mill_codes
def Fb_Mill___init__ : Ev → Ot := (seqS (ifS (boolT (gtE (lenE (varE 1)) (conE (.int 6)))) (seqS (raiS "BadMill")
 nextS) nextS)
 (seqS (newF "Mill" "passes" 0 (tupleE (compE (seqI (varE 1)) [2] (nameG 2) yesT (callE F_pockets_kept [(varE 2)]))))
 (seqS (ifS (boolT (gtE (methBE "Mill" "codes" F_Mill_codes (varE 0) []) (conE (.int 1000)))) (seqS (raiS "BadMill")
 nextS) nextS)
 nextS)))
def F_Mill___init__ : List Dt → Rs Dt := initF "Mill" 2 3 Fb_Mill___init__
def Fb_look_at_late : Ev → Ot := (seqS (ifS (orT (boolT (ltE (varE 1) (conE (.int 0)))) (boolT (gtE (varE 1) (methE "Mill" "many" F_Mill_many (varE 0) [])))) (seqS (raiS "BadLate")
 nextS) nextS)
 nextS)
def F_look_at_late : List Dt → Rs Dt := defF 2 2 .F Fb_look_at_late
def Fb_look_at_word : Ev → Ot := (seqS (dropS (callE F_look_at_late [(varE 0), (varE 1)]))
 (seqS (ifS (boolT (neE (lenE (varE 2)) (subE (methE "Mill" "many" F_Mill_many (varE 0) []) (varE 1)))) (seqS (raiS "BadWord")
 nextS) nextS)
 (seqS (forS (zipI [(varE 2), (slcE (fldE "Mill" "passes" (varE 0)) (partO (varE 1)) noPart)]) (tupG 2 (consG (nameG 3) (consG (nameG 4) nilG))) (seqS (ifS (orT (boolT (ltE (varE 3) (conE (.int 0)))) (boolT (geE (varE 3) (lenE (varE 4))))) (seqS (raiS "BadWord")
 nextS) nextS)
 nextS))
 nextS)))
def F_look_at_word : List Dt → Rs Dt := defF 3 5 .F Fb_look_at_word
def Fb_word_code : Ev → Ot := (seqS (dropS (callE F_look_at_word [(varE 0), (varE 1), (varE 2)]))
 (seqS (asgS 3 (callE F_codes_ahead [(varE 0), (varE 1)]))
 (seqS (asgS 4 (subE (varE 3) (conE (.int 1))))
 (seqS (forS (zipI [(varE 2), (slcE (fldE "Mill" "passes" (varE 0)) (partO (varE 1)) noPart)]) (tupG 2 (consG (nameG 5) (consG (nameG 6) nilG))) (seqS (ifS (boolT (eqE (ixE (ixE (varE 6) (varE 5)) (conE (.int 0))) (conE (.str "pile")))) (seqS (asgS 4 (subE (subE (varE 3) (conE (.int 1))) (varE 4)))
 nextS) nextS)
 (seqS (asgS 4 (addE (varE 4) (mulE (varE 5) (varE 3))))
 (seqS (asgS 3 (mulE (varE 3) (lenE (varE 6))))
 nextS))))
 (seqS (retS (varE 4))
 nextS)))))
def F_word_code : List Dt → Rs Dt := defF 3 7 .F Fb_word_code
def Fb_code_word : Ev → Ot := (seqS (dropS (callE F_look_at_late [(varE 0), (varE 1)]))
 (seqS (asgS 3 (methE "Mill" "codes" F_Mill_codes (varE 0) []))
 (seqS (ifS (orT (boolT (ltE (varE 2) (conE (.int 0)))) (boolT (geE (varE 2) (varE 3)))) (seqS (raiS "BadCode")
 nextS) nextS)
 (seqS (asgS 4 (lstE []))
 (seqS (forS (revI (slcE (fldE "Mill" "passes" (varE 0)) (partO (varE 1)) noPart)) (nameG 5) (seqS (asgS 3 (divE (varE 3) (lenE (varE 5))))
 (seqS (asgG (tupG 2 (consG (nameG 6) (consG (nameG 2) nilG))) (divmodE (varE 2) (varE 3)))
 (seqS (ifS (boolT (eqE (ixE (ixE (varE 5) (varE 6)) (conE (.int 0))) (conE (.str "pile")))) (seqS (asgS 2 (subE (subE (varE 3) (conE (.int 1))) (varE 2)))
 nextS) nextS)
 (seqS (appS (varP 4) (varE 6))
 nextS)))))
 (seqS (ifS (boolT (neE (varE 2) (subE (varE 3) (conE (.int 1))))) (seqS (retS (conE .non))
 nextS) nextS)
 (seqS (retS (tupRevE (varE 4)))
 nextS)))))))
def F_code_word : List Dt → Rs Dt := defF 3 7 .F Fb_code_word
def Fb__law_cell_at : Ev → Ot := (seqS (ifS (boolT (ltE (varE 1) (lenE (varE 0)))) (seqS (retS (ixE (varE 0) (varE 1)))
 nextS) nextS)
 (seqS (retS (conE (.int 0)))
 nextS))
def F__law_cell_at : List Dt → Rs Dt := defF 2 2 .F Fb__law_cell_at
def Fb__law_part : Ev → Ot := (seqS (forS (rng1I [(varE 1)]) (nameG 2) (seqS (asgS 0 (divE (varE 0) (conE (.int 1000000))))
 nextS))
 (seqS (retS (modE (varE 0) (conE (.int 1000000))))
 nextS))
def F__law_part : List Dt → Rs Dt := defF 2 3 .F Fb__law_part
def Fb__law_folded : Ev → Ot := (seqS (ifS (boolT (eqE (modE (callE F__law_cell_at [(varE 0), (conE (.int 0))]) (conE (.int 2))) (conE (.int 1)))) (seqS (retS (compE (rng1I [(varE 1)]) [5] (nameG 5) yesT (callE F__law_part [(callE F__law_cell_at [(varE 0), (addE (conE (.int 1)) (modE (varE 5) (conE (.int 16))))]), (divE (varE 5) (conE (.int 16)))])))
 nextS) nextS)
 (seqS (asgS 2 (conE (.int 7)))
 (seqS (forS (seqI (varE 0)) (nameG 3) (seqS (asgS 2 (modE (addE (addE (mulE (varE 2) (varE 2)) (mulE (varE 3) (conE (.int 131)))) (conE (.int 17))) (conE (.int 1000000000039))))
 nextS))
 (seqS (asgS 4 (lstE []))
 (seqS (forS (rng1I [(varE 1)]) (nameG 5) (seqS (asgS 2 (modE (addE (addE (mulE (varE 2) (varE 2)) (mulE (conE (.int 48271)) (varE 5))) (conE (.int 11))) (conE (.int 1000000000039))))
 (seqS (appS (varP 4) (varE 2))
 nextS)))
 (seqS (forS (rng1I [(lenE (varE 0))]) (nameG 5) (seqS (asgS 6 (modE (varE 5) (varE 1)))
 (seqS (setS (modE (addE (mulE (ixE (varE 4) (varE 6)) (conE (.int 131))) (ixE (varE 0) (varE 5))) (conE (.int 1000000000039))) (varP 4) (varE 6))
 nextS)))
 (seqS (retS (varE 4))
 nextS)))))))
def F__law_folded : List Dt → Rs Dt := defF 2 7 .F Fb__law_folded
def Fb__law_pocket : Ev → Ot := (seqS (asgS 1 (ixE (lstE [(conE (.int 9)), (conE (.int 9)), (conE (.int 9)), (conE (.int 2)), (modE (divE (varE 0) (conE (.int 16))) (conE (.int 10)))]) (modE (divE (varE 0) (conE (.int 2))) (conE (.int 5)))))
 (seqS (retS (tupE [(ixE (lstE [(conE (.str "queue")), (conE (.str "pile"))]) (modE (varE 0) (conE (.int 2)))), (varE 1)]))
 nextS))
def F__law_pocket : List Dt → Rs Dt := defF 1 2 .F Fb__law_pocket
def Fb__law_passes : Ev → Ot := (seqS (asgS 2 (lstE []))
 (seqS (asgS 3 (conE (.int 1)))
 (seqS (forS (rng1I [(ixE (lstE [(conE (.int 1)), (conE (.int 2)), (conE (.int 3)), (conE (.int 2)), (conE (.int 5)), (conE (.int 4)), (conE (.int 0)), (conE (.int 6))]) (modE (divE (ixE (varE 0) (conE (.int 0))) (conE (.int 3))) (conE (.int 8))))]) (nameG 4) (seqS (asgS 5 (ixE (lstE [(conE (.int 1)), (conE (.int 2)), (conE (.int 3)), (conE (.int 2)), (conE (.int 3)), (conE (.int 2)), (conE (.int 4)), (conE (.int 6))]) (modE (divE (ixE (varE 0) (addE (conE (.int 1)) (mulE (conE (.int 7)) (varE 4)))) (conE (.int 5))) (conE (.int 8)))))
 (seqS (ifS (boolT (gtE (mulE (varE 3) (varE 5)) (varE 1))) (seqS (asgS 5 (conE (.int 1)))
 nextS) nextS)
 (seqS (asgS 3 (mulE (varE 3) (varE 5)))
 (seqS (appS (varP 2) (compE (rng1I [(varE 5)]) [6] (nameG 6) yesT (callE F__law_pocket [(ixE (varE 0) (addE (addE (conE (.int 2)) (mulE (conE (.int 7)) (varE 4))) (varE 6)))])))
 nextS)))))
 (seqS (retS (varE 2))
 nextS))))
def F__law_passes : List Dt → Rs Dt := defF 2 7 .F Fb__law_passes
def Fb__law_word_good : Ev → Ot := (seqS (ifS (orT (notT (boolT (isiE .tuple (varE 0)))) (boolT (neE (lenE (varE 0)) (subE (lenE (varE 1)) (varE 2))))) (seqS (retS (conE (.bl false)))
 nextS) nextS)
 (seqS (forS (rng1I [(lenE (varE 0))]) (nameG 3) (seqS (ifS (orT (notT (boolT (isiE .int (ixE (varE 0) (varE 3))))) (boolT (isiE .bool (ixE (varE 0) (varE 3))))) (seqS (retS (conE (.bl false)))
 nextS) nextS)
 (seqS (ifS (orT (boolT (ltE (ixE (varE 0) (varE 3)) (conE (.int 0)))) (boolT (geE (ixE (varE 0) (varE 3)) (lenE (ixE (varE 1) (plusE (varE 2) (varE 3))))))) (seqS (retS (conE (.bl false)))
 nextS) nextS)
 nextS)))
 (seqS (retS (conE (.bl true)))
 nextS)))
def F__law_word_good : List Dt → Rs Dt := defF 3 4 .F Fb__law_word_good
def Fb__law_words : Ev → Ot := (seqS (asgS 3 dnewTE)
 (seqS (asgS 4 (conE (.int 1)))
 (seqS (forS (seqI (varE 1)) (nameG 5) (seqS (asgS 4 (mulE (varE 4) (lenE (varE 5))))
 nextS))
 (seqS (forS (rng1I [(varE 4)]) (nameG 6) (seqS (asgS 7 (callE F_code_word [(varE 0), (varE 2), (varE 6)]))
 (seqS (ifS (boolT (notNE (varE 7))) (seqS (ifS (orT (notT (boolT (callE F__law_word_good [(varE 7), (varE 1), (varE 2)]))) (orT (boolT (dinE false (varE 7) (varE 3))) (boolT (neE (callE F_word_code [(varE 0), (varE 2), (varE 7)]) (varE 6))))) (seqS (retS (conE .non))
 nextS) nextS)
 (seqS (dputS (varE 6) (varP 3) (varE 7))
 nextS)) nextS)
 nextS)))
 (seqS (retS (varE 3))
 nextS)))))
def F__law_words : List Dt → Rs Dt := defF 3 8 .F Fb__law_words
def Fb_law : Ev → Ot := (seqS (asgS 1 (callE F__law_folded [(varE 0), (conE (.int 44))]))
 (seqS (asgS 2 (callE F__law_passes [(varE 1), (conE (.int 200))]))
 (seqS (asgS 3 (callE F_Mill___init__ [(varE 2)]))
 (seqS (forS (seqI (lstE [(conE (.int 0)), (modE (ixE (varE 1) (conE (.int 43))) (addE (lenE (varE 2)) (conE (.int 1))))])) (nameG 4) (seqS (asgS 5 (callE F__law_words [(varE 3), (varE 2), (varE 4)]))
 (seqS (asgS 6 (conE (.int 1)))
 (seqS (forS (seqI (slcE (varE 2) (partO (varE 4)) noPart)) (nameG 7) (seqS (asgS 6 (mulE (varE 6) (lenE (varE 7))))
 nextS))
 (seqS (ifS (orT (boolT (isNE (varE 5))) (boolT (neE (dlenTE (varE 5)) (varE 6)))) (seqS (retS (conE (.bl false)))
 nextS) nextS)
 nextS)))))
 (seqS (retS (conE (.bl true)))
 nextS)))))
def F_law : List Dt → Rs Dt := defF 1 8 .F Fb_law
theorem R_pockets_kept {d0 : Dt} : F_pockets_kept [d0] = outF .F (Fb_pockets_kept [some d0, none, none, none]) := v_def rfl
theorem R_Mill_many {d0 : Dt} : F_Mill_many [d0] = outF .F (Fb_Mill_many [some d0]) := v_def rfl
theorem R_codes_ahead {d0 d1 : Dt} : F_codes_ahead [d0, d1] = outF .F (Fb_codes_ahead [some d0, some d1, none, none]) := v_def rfl
theorem R_Mill_codes {d0 : Dt} : F_Mill_codes [d0] = outF .F (Fb_Mill_codes [some d0]) := v_def rfl
theorem R_Mill___init__ {d0 : Dt} : F_Mill___init__ [d0] = outI (Fb_Mill___init__ [some (.ins "Mill" [] []), some d0, none]) := v_init rfl
theorem R_look_at_late {d0 d1 : Dt} : F_look_at_late [d0, d1] = outF .F (Fb_look_at_late [some d0, some d1]) := v_def rfl
theorem R_look_at_word {d0 d1 d2 : Dt} : F_look_at_word [d0, d1, d2] = outF .F (Fb_look_at_word [some d0, some d1, some d2, none, none]) := v_def rfl
theorem R_word_code {d0 d1 d2 : Dt} : F_word_code [d0, d1, d2] = outF .F (Fb_word_code [some d0, some d1, some d2, none, none, none, none]) := v_def rfl
theorem R_code_word {d0 d1 d2 : Dt} : F_code_word [d0, d1, d2] = outF .F (Fb_code_word [some d0, some d1, some d2, none, none, none, none]) := v_def rfl
theorem R__law_cell_at {d0 d1 : Dt} : F__law_cell_at [d0, d1] = outF .F (Fb__law_cell_at [some d0, some d1]) := v_def rfl
theorem R__law_part {d0 d1 : Dt} : F__law_part [d0, d1] = outF .F (Fb__law_part [some d0, some d1, none]) := v_def rfl
theorem R__law_folded {d0 d1 : Dt} : F__law_folded [d0, d1] = outF .F (Fb__law_folded [some d0, some d1, none, none, none, none, none]) := v_def rfl
theorem R__law_pocket {d0 : Dt} : F__law_pocket [d0] = outF .F (Fb__law_pocket [some d0, none]) := v_def rfl
theorem R__law_passes {d0 d1 : Dt} : F__law_passes [d0, d1] = outF .F (Fb__law_passes [some d0, some d1, none, none, none, none, none]) := v_def rfl
theorem R__law_word_good {d0 d1 d2 : Dt} : F__law_word_good [d0, d1, d2] = outF .F (Fb__law_word_good [some d0, some d1, some d2, none]) := v_def rfl
theorem R__law_words {d0 d1 d2 : Dt} : F__law_words [d0, d1, d2] = outF .F (Fb__law_words [some d0, some d1, some d2, none, none, none, none, none]) := v_def rfl
theorem R_law {d0 : Dt} : F_law [d0] = outF .F (Fb_law [some d0, none, none, none, none, none, none, none]) := v_def rfl
section
variable {P : Program} {w : World} {K : PySem.W.Frag} {mg : Str → Option Value}
theorem sc_pockets_kept : FnScope ["pockets", "kept", "kind", "width"] ["pockets"] (defScope s_pockets_kept) := ⟨rfl, rfl, rfl, by decide +kernel, rfl, by decide +kernel, by decide +kernel⟩
theorem ok_pockets_kept (T : Txt K mg) : ∃ fd, (∀ base : Heap, FnOk P w K mg base (L2.CX P w) 1 (He.ga K "pockets_kept") fd ["pockets"] (spM K (He.ga K) 1 .F F_pockets_kept)) ∧ Binds K fd ["pockets"] [] ∧ PySem.W.keepIn K (.ref (He.ga K "pockets_kept")) = true := by
  obtain ⟨fd, F⟩ := T.d_pockets_kept
  have nd := sc_pockets_kept.nd
  refine ⟨fd, fun base => ?_, F.bindsN (fun _ _ _ _ _ _ us hl => match us, hl with | [_], _ => rfl), F.kp⟩
  refine fn_def (Γ0 := [.F, .F, .F, .F]) (Γ1 := [.F, .F, .F, .F]) F sc_pockets_kept rfl (hpF (n := 1) rfl (by decide)) (fun cdv A outer s H E hr => ?_)
  refine ⟨_, ?_, (ss_seq (ss_if (st_or (st_val (se_B (se_lt (se_B (se_len (se_B (se_var (i := 0) rfl)))) (se_B se_int)))) (st_val (se_B (se_gt (se_B (se_len (se_B (se_var (i := 0) rfl)))) (se_B se_int))))) (ss_seq (ss_rai (c := "BadMill") (.inl rfl))
 ss_next) ss_next (.inl rfl))
 (ss_seq (ss_asg (i := 1) (m := (.L .F)) (se_lst (m := .F) sz_nil) (.inl rfl))
 (ss_seq (ss_for (vs := [2, 3]) (si_seq (se_var (i := 0) rfl)) (sg_tup (n := 2) (sgs_cons (sg_name (i := 2)) (sgs_cons (sg_name (i := 3)) sgs_nil))) (ss_seq (ss_if (st_or (st_val (se_B (se_nin (se_B (se_var (i := 2) rfl)) (se_B (se_con (d := .ktp [.str "queue", .str "pile"]) fun G => .ktp (T.t_KINDS G) (.cons (.str _) (.cons (.str _) .nil))))))) (st_or (st_val (se_B (se_lt (se_B (se_var (i := 3) rfl)) (se_B se_int)))) (st_val (se_B (se_gt (se_B (se_var (i := 3) rfl)) (se_B se_int)))))) (ss_frz (i := 1) (ss_seq (ss_rai (c := "BadMill") (.inl rfl))
 ss_next)) ss_next (.inl rfl))
 (ss_seq (ss_app (sp_var (i := 1) rfl) (se_tupF (sz_cons (se_var (i := 2) rfl) (sz_cons (se_var (i := 3) rfl) sz_nil))) (.inl rfl))
 ss_next)) (.inl rfl))
 (ss_frz (i := 1) (ss_seq (ss_ret (se_tuple (se_var (i := 1) rfl)) (.inl rfl))
 ss_next)))))⟩
  exact (pss_cons (ps_if (PW.pt (pw_or (pt_cmpR op_lt (pe_callB call_len (by rfl) T.b_len (by decide +kernel) (pa_cons (pv 0) pa_nil)) pe_int (nomark _)) (pw_or1 (pt_cmpR op_gt (pe_callB call_len (by rfl) T.b_len (by decide +kernel) (pa_cons (pv 0) pa_nil)) (pe_globI T.i_MOST_POCKETS) (nomark _))))) (pss_cons (ps_raise rfl (takes_of rfl rfl rfl rfl) (pmk_own PySem.F.excBase_ValueError T.x_BadMill.1 T.g_BadMill T.x_BadMill.2.1 (raises_own T.x_BadMill.2.2.1 T.x_BadMill.2.2.2) (by rfl)))
 pss_nil) pss_nil)
 (pss_cons (ps_set (i := 1) nd rfl (by first | exact Or.inl rfl | exact Or.inr rfl) (pe_lst pa_nil))
 (pss_cons (ps_for (passes_of rfl) rfl (pi_seqA (pv 0)) (pg_tup rfl (pgs_cons (pg_name (i := 2) nd rfl (by first | exact Or.inl rfl | exact Or.inr rfl)) (pgs_cons (pg_name (i := 3) nd rfl (by first | exact Or.inl rfl | exact Or.inr rfl)) pgs_nil))) (pss_cons (ps_if (PW.pt (pw_or (pt_cmpR op_notIn_seq (pv 2) (pe_glob (v := .ref (He.ga _ "KINDS")) rfl T.g_KINDS rfl) (by rfl)) (pw_or (pt_cmpR op_lt (pv 3) pe_int (nomark _)) (pw_or1 (pt_cmpR op_gt (pv 3) (pe_globI T.i_WIDEST) (nomark _)))))) (pss_cons (ps_raise rfl (takes_of rfl rfl rfl rfl) (pmk_own PySem.F.excBase_ValueError T.x_BadMill.1 T.g_BadMill T.x_BadMill.2.1 (raises_own T.x_BadMill.2.2.1 T.x_BadMill.2.2.2) (by rfl)))
 pss_nil) pss_nil)
 (pss_cons (ps_expr (pe_bm PySem.F.plainAttrs_list PySem.F.slot_list_append PySem.F.type_list_append mt_append (pv 1) (pa_cons (pe_tup (pa_cons (pv 2) (pa_cons (pv 3) pa_nil))) pa_nil)))
 pss_nil)))
 (pss_cons (ps_ret (pe_callTy call_tuple_of (by rfl) T.b_tuple (by decide +kernel) (pa_cons (pv 1) pa_nil)))
 pss_nil))))
theorem sc_Mill_many : FnScope ["self"] ["self"] (defScope s_Mill_many) := ⟨rfl, rfl, rfl, by decide +kernel, rfl, by decide +kernel, by decide +kernel⟩
theorem ok_Mill_many (T : Txt K mg) : ∃ fd, (∀ base : Heap, FnOk P w K mg base (L2.CX P w) 1 (He.ma K (He.ga K "Mill") "many") fd ["self"] (spM K (He.ga K) 1 .F F_Mill_many)) ∧ Binds K fd ["self"] [] ∧ PySem.W.keepIn K (.ref (He.ma K (He.ga K "Mill") "many")) = true := by
  obtain ⟨fd, F⟩ := T.d_Mill_many
  have nd := sc_Mill_many.nd
  refine ⟨fd, fun base => ?_, F.bindsN (fun _ _ _ _ _ _ us hl => match us, hl with | [_], _ => rfl), F.kp⟩
  refine fn_def (Γ0 := [.F]) (Γ1 := [.F]) F sc_Mill_many rfl (hpF (n := 1) rfl (by decide)) (fun cdv A outer s H E hr => ?_)
  refine ⟨_, ?_, (ss_seq (ss_ret (se_len (se_B (se_fld T.c_Mill T.n_Mill_passes (se_var (i := 0) rfl)))) (.inl rfl))
 ss_next)⟩
  exact (pss_cons (ps_ret (pe_callB call_len (by rfl) T.b_len (by decide +kernel) (pa_cons (pe_fld (pv 0) rfl) pa_nil)))
 pss_nil)
theorem sc_codes_ahead : FnScope ["mill", "late", "product", "pockets"] ["mill", "late"] (defScope s_codes_ahead) := ⟨rfl, rfl, rfl, by decide +kernel, rfl, by decide +kernel, by decide +kernel⟩
theorem ok_codes_ahead (T : Txt K mg) : ∃ fd, (∀ base : Heap, FnOk P w K mg base (L2.CX P w) 1 (He.ga K "codes_ahead") fd ["mill", "late"] (spM K (He.ga K) 2 .F F_codes_ahead)) ∧ Binds K fd ["mill", "late"] [] ∧ PySem.W.keepIn K (.ref (He.ga K "codes_ahead")) = true := by
  obtain ⟨fd, F⟩ := T.d_codes_ahead
  have nd := sc_codes_ahead.nd
  refine ⟨fd, fun base => ?_, F.bindsN (fun _ _ _ _ _ _ us hl => match us, hl with | [_, _], _ => rfl), F.kp⟩
  refine fn_def (Γ0 := [.F, .F, .F, .F]) (Γ1 := [.F, .F, .F, .F]) F sc_codes_ahead rfl (hpF (n := 2) rfl (by decide)) (fun cdv A outer s H E hr => ?_)
  refine ⟨_, ?_, (ss_seq (ss_asgF (i := 2) se_int (.inl rfl))
 (ss_seq (ss_for (vs := [3]) (si_seq (se_slc (se_fld T.c_Mill T.n_Mill_passes (se_var (i := 0) rfl)) so_none (so_some (se_B (se_var (i := 1) rfl))))) (sg_name (i := 3)) (ss_seq (ss_asgF (i := 2) (se_mul (se_B (se_var (i := 2) rfl)) (se_B (se_len (se_B (se_var (i := 3) rfl))))) (.inl rfl))
 ss_next) (.inl rfl))
 (ss_seq (ss_ret (se_var (i := 2) rfl) (.inl rfl))
 ss_next)))⟩
  exact (pss_cons (ps_set (i := 2) nd rfl (by first | exact Or.inl rfl | exact Or.inr rfl) pe_int)
 (pss_cons (ps_for (passes_of rfl) rfl (pi_seqA (pe_slice sl_any (pe_fld (pv 0) rfl) po_none (po_some (pv 1)))) (pg_name (i := 3) nd rfl (by first | exact Or.inl rfl | exact Or.inr rfl)) (pss_cons (ps_set (i := 2) nd rfl (by first | exact Or.inl rfl | exact Or.inr rfl) (pe_op op_mul (pv 2) (pe_callB call_len (by rfl) T.b_len (by decide +kernel) (pa_cons (pv 3) pa_nil))))
 pss_nil))
 (pss_cons (ps_ret (pv 2))
 pss_nil)))
theorem sc_Mill_codes : FnScope ["self"] ["self"] (defScope s_Mill_codes) := ⟨rfl, rfl, rfl, by decide +kernel, rfl, by decide +kernel, by decide +kernel⟩
theorem ok_Mill_codes (T : Txt K mg) : ∃ fd, (∀ base : Heap, FnOk P w K mg base (L2.CX P w) 2 (He.ma K (He.ga K "Mill") "codes") fd ["self"] (spM K (He.ga K) 1 .F F_Mill_codes)) ∧ Binds K fd ["self"] [] ∧ PySem.W.keepIn K (.ref (He.ma K (He.ga K "Mill") "codes")) = true := by
  obtain ⟨fd, F⟩ := T.d_Mill_codes
  obtain ⟨fd_Mill_many, G_Mill_many, b_Mill_many, k_Mill_many⟩ := ok_Mill_many (P := P) (w := w) T
  obtain ⟨fd_codes_ahead, G_codes_ahead, b_codes_ahead, k_codes_ahead⟩ := ok_codes_ahead (P := P) (w := w) T
  have nd := sc_Mill_codes.nd
  refine ⟨fd, fun base => ?_, F.bindsN (fun _ _ _ _ _ _ us hl => match us, hl with | [_], _ => rfl), F.kp⟩
  have G_Mill_many := G_Mill_many base
  have G_codes_ahead := G_codes_ahead base
  refine fn_def (Γ0 := [.F]) (Γ1 := [.F]) F sc_Mill_codes rfl (hpF (n := 1) rfl (by decide)) (fun cdv A outer s H E hr => ?_)
  refine ⟨_, ?_, (ss_seq (ss_ret (se_call (m := .F) (sz_cons (se_var (i := 0) rfl) (sz_cons (se_meth (C := "Mill") (mm := "many") (m := .F) (se_var (i := 0) rfl) sz_nil) sz_nil))) (.inl rfl))
 ss_next)⟩
  exact (pss_cons (ps_ret (pe_callS G_codes_ahead (hr.mono (by decide)) rfl T.g_codes_ahead k_codes_ahead b_codes_ahead (fun σ => passAt (takes_of rfl rfl rfl rfl) σ) (pa_cons (pv 0) (pa_cons (pe_methS0 (pv 0) T.c_Mill T.m_Mill_many G_Mill_many (hr.mono (by decide)) b_Mill_many (fun σ => passAt (takes_of rfl rfl rfl rfl) σ)) pa_nil))))
 pss_nil)
theorem sc_Mill___init__ : FnScope ["self", "passes", "pockets"] ["self", "passes"] (defScope s_Mill___init__) := ⟨rfl, rfl, rfl, by decide +kernel, rfl, by decide +kernel, by decide +kernel⟩
theorem ok_Mill___init__ (T : Txt K mg) : ∃ fd, (∀ base : Heap, FnOk P w K mg base (L2.CX P w) 3 (He.ma K (He.ga K "Mill") "__init__") fd ["self", "passes"] (spI K (He.ga K) "Mill" 2 [.F] F_Mill___init__)) ∧ Binds K fd ["self", "passes"] [] ∧ PySem.W.keepIn K (.ref (He.ma K (He.ga K "Mill") "__init__")) = true := by
  obtain ⟨fd, F⟩ := T.d_Mill___init__
  obtain ⟨fd_Mill_codes, G_Mill_codes, b_Mill_codes, k_Mill_codes⟩ := ok_Mill_codes (P := P) (w := w) T
  obtain ⟨fd_pockets_kept, G_pockets_kept, b_pockets_kept, k_pockets_kept⟩ := ok_pockets_kept (P := P) (w := w) T
  have nd := sc_Mill___init__.nd
  refine ⟨fd, fun base => ?_, F.bindsN (fun _ _ _ _ _ _ us hl => match us, hl with | [_, _], _ => rfl), F.kp⟩
  have G_Mill_codes := G_Mill_codes base
  have G_pockets_kept := G_pockets_kept base
  refine fn_init (Γ0 := [.F, .F]) (Γ1 := [(.I [.F]), .F, .F]) F sc_Mill___init__ rfl (fun i hi => hpF (n := 1) rfl (by decide) i (by have hi : i + 1 < 2 := hi; omega)) rfl (fun cdv A outer s H E xv hr => ?_)
  refine ⟨_, ?_, (ss_seq (ss_if (st_val (se_B (se_gt (se_B (se_len (se_B (se_var (i := 1) rfl)))) (se_B se_int)))) (ss_seq (ss_rai (c := "BadMill") (.inl rfl))
 ss_next) ss_next (.inl rfl))
 (ss_seq (ss_newF (C := "Mill") (f := "passes") (i := 0) T.c_Mill T.n_Mill_passes rfl (se_tuple (se_frz (se_comp (vs := [2]) (m := .F) (si_seq (se_var (i := 1) rfl)) (sg_name (i := 2)) st_yes (se_call (m := .F) (sz_cons (se_var (i := 2) rfl) sz_nil))))) (.inl rfl))
 (ss_seq (ss_if (st_val (se_B (se_gt (se_B (se_methB (C := "Mill") (mm := "codes") (se_varB (i := 0)) sb_nil)) (se_B se_int)))) (ss_seq (ss_rai (c := "BadMill") (.inl rfl))
 ss_next) ss_next (.inl rfl))
 ss_next)))⟩
  exact (pss_cons (ps_if (pt_cmpR op_gt (pe_callB call_len (by rfl) T.b_len (by decide +kernel) (pa_cons (pv 1) pa_nil)) (pe_globI T.i_MOST_PASSES) (nomark _)) (pss_cons (ps_raise rfl (takes_of rfl rfl rfl rfl) (pmk_own PySem.F.excBase_ValueError T.x_BadMill.1 T.g_BadMill T.x_BadMill.2.1 (raises_own T.x_BadMill.2.2.1 T.x_BadMill.2.2.2) (by rfl)))
 pss_nil) pss_nil)
 (pss_cons (ps_fld (pv 0) (pe_callTy call_tuple_of (by rfl) T.b_tuple (by decide +kernel) (pa_cons (pe_lc (own := [("pockets", 2)]) rfl nd (pi_seqA (pv 1)) (blkOk_by (N := ["self", "passes", "pockets"]) (sc := defScope s_Mill___init__) (own := [("pockets", 2)]) (by decide +kernel)) (fun _ _ _ _ _ => (pg_name (i := 2) nd rfl (by first | exact Or.inl rfl | exact Or.inr rfl))) (fun _ _ _ _ _ => pts_nil) (fun _ _ _ _ _ => (pe_callS G_pockets_kept (hr.mono (by decide)) rfl T.g_pockets_kept k_pockets_kept b_pockets_kept (fun σ => passAt takes0 σ) (pa_cons (pv 2) pa_nil)))) pa_nil)) rfl)
 (pss_cons (ps_if (pt_cmpR op_gt (pe_methS0 (pv 0) T.c_Mill T.m_Mill_codes G_Mill_codes (hr.mono (by decide)) b_Mill_codes (fun σ => passAt (takes_of rfl rfl rfl rfl) σ)) (pe_globI T.i_MOST_CODES) (nomark _)) (pss_cons (ps_raise rfl (takes_of rfl rfl rfl rfl) (pmk_own PySem.F.excBase_ValueError T.x_BadMill.1 T.g_BadMill T.x_BadMill.2.1 (raises_own T.x_BadMill.2.2.1 T.x_BadMill.2.2.2) (by rfl)))
 pss_nil) pss_nil)
 pss_nil)))
theorem sc_look_at_late : FnScope ["mill", "late"] ["mill", "late"] (defScope s_look_at_late) := ⟨rfl, rfl, rfl, by decide +kernel, rfl, by decide +kernel, by decide +kernel⟩
theorem ok_look_at_late (T : Txt K mg) : ∃ fd, (∀ base : Heap, FnOk P w K mg base (L2.CX P w) 2 (He.ga K "look_at_late") fd ["mill", "late"] (spM K (He.ga K) 2 .F F_look_at_late)) ∧ Binds K fd ["mill", "late"] [] ∧ PySem.W.keepIn K (.ref (He.ga K "look_at_late")) = true := by
  obtain ⟨fd, F⟩ := T.d_look_at_late
  obtain ⟨fd_Mill_many, G_Mill_many, b_Mill_many, k_Mill_many⟩ := ok_Mill_many (P := P) (w := w) T
  have nd := sc_look_at_late.nd
  refine ⟨fd, fun base => ?_, F.bindsN (fun _ _ _ _ _ _ us hl => match us, hl with | [_, _], _ => rfl), F.kp⟩
  have G_Mill_many := G_Mill_many base
  refine fn_def (Γ0 := [.F, .F]) (Γ1 := [.F, .F]) F sc_look_at_late rfl (hpF (n := 2) rfl (by decide)) (fun cdv A outer s H E hr => ?_)
  refine ⟨_, ?_, (ss_seq (ss_if (st_or (st_val (se_B (se_lt (se_B (se_var (i := 1) rfl)) (se_B se_int)))) (st_val (se_B (se_gt (se_B (se_var (i := 1) rfl)) (se_B (se_meth (C := "Mill") (mm := "many") (m := .F) (se_var (i := 0) rfl) sz_nil)))))) (ss_seq (ss_rai (c := "BadLate") (.inl rfl))
 ss_next) ss_next (.inl rfl))
 ss_next)⟩
  exact (pss_cons (ps_if (PW.pt (pw_or (pt_cmpR op_lt (pv 1) pe_int (nomark _)) (pw_or1 (pt_cmpR op_gt (pv 1) (pe_methS0 (pv 0) T.c_Mill T.m_Mill_many G_Mill_many (hr.mono (by decide)) b_Mill_many (fun σ => passAt (takes_of rfl rfl rfl rfl) σ)) (nomark _))))) (pss_cons (ps_raise rfl (takes_of rfl rfl rfl rfl) (pmk_own PySem.F.excBase_ValueError T.x_BadLate.1 T.g_BadLate T.x_BadLate.2.1 (raises_own T.x_BadLate.2.2.1 T.x_BadLate.2.2.2) (by rfl)))
 pss_nil) pss_nil)
 pss_nil)
theorem sc_look_at_word : FnScope ["mill", "late", "word", "pocket", "pockets"] ["mill", "late", "word"] (defScope s_look_at_word) := ⟨rfl, rfl, rfl, by decide +kernel, rfl, by decide +kernel, by decide +kernel⟩
theorem ok_look_at_word (T : Txt K mg) : ∃ fd, (∀ base : Heap, FnOk P w K mg base (L2.CX P w) 3 (He.ga K "look_at_word") fd ["mill", "late", "word"] (spM K (He.ga K) 3 .F F_look_at_word)) ∧ Binds K fd ["mill", "late", "word"] [] ∧ PySem.W.keepIn K (.ref (He.ga K "look_at_word")) = true := by
  obtain ⟨fd, F⟩ := T.d_look_at_word
  obtain ⟨fd_Mill_many, G_Mill_many, b_Mill_many, k_Mill_many⟩ := ok_Mill_many (P := P) (w := w) T
  obtain ⟨fd_look_at_late, G_look_at_late, b_look_at_late, k_look_at_late⟩ := ok_look_at_late (P := P) (w := w) T
  have nd := sc_look_at_word.nd
  refine ⟨fd, fun base => ?_, F.bindsN (fun _ _ _ _ _ _ us hl => match us, hl with | [_, _, _], _ => rfl), F.kp⟩
  have G_Mill_many := G_Mill_many base
  have G_look_at_late := G_look_at_late base
  refine fn_def (Γ0 := [.F, .F, .F, .F, .F]) (Γ1 := [.F, .F, .F, .F, .F]) F sc_look_at_word rfl (hpF (n := 3) rfl (by decide)) (fun cdv A outer s H E hr => ?_)
  refine ⟨_, ?_, (ss_seq (ss_drop (se_call (m := .F) (sz_cons (se_var (i := 0) rfl) (sz_cons (se_var (i := 1) rfl) sz_nil))) (.inl rfl))
 (ss_seq (ss_if (st_val (se_B (se_ne (se_B (se_len (se_B (se_var (i := 2) rfl)))) (se_B (se_sub (se_B (se_meth (C := "Mill") (mm := "many") (m := .F) (se_var (i := 0) rfl) sz_nil)) (se_B (se_var (i := 1) rfl))))))) (ss_seq (ss_rai (c := "BadWord") (.inl rfl))
 ss_next) ss_next (.inl rfl))
 (ss_seq (ss_for (vs := [3, 4]) (si_zip (sz_cons (se_var (i := 2) rfl) (sz_cons (se_slc (se_fld T.c_Mill T.n_Mill_passes (se_var (i := 0) rfl)) (so_some (se_B (se_var (i := 1) rfl))) so_none) sz_nil))) (sg_tup (n := 2) (sgs_cons (sg_name (i := 3)) (sgs_cons (sg_name (i := 4)) sgs_nil))) (ss_seq (ss_if (st_or (st_val (se_B (se_lt (se_B (se_var (i := 3) rfl)) (se_B se_int)))) (st_val (se_B (se_ge (se_B (se_var (i := 3) rfl)) (se_B (se_len (se_B (se_var (i := 4) rfl)))))))) (ss_seq (ss_rai (c := "BadWord") (.inl rfl))
 ss_next) ss_next (.inl rfl))
 ss_next) (.inl rfl))
 ss_next)))⟩
  exact (pss_cons (ps_expr (pe_callS G_look_at_late (hr.mono (by decide)) rfl T.g_look_at_late k_look_at_late b_look_at_late (fun σ => passAt (takes_of rfl rfl rfl rfl) σ) (pa_cons (pv 0) (pa_cons (pv 1) pa_nil))))
 (pss_cons (ps_if (pt_cmpR (op_neD hr.units) (pe_callB call_len (by rfl) T.b_len (by decide +kernel) (pa_cons (pv 2) pa_nil)) (pe_op op_sub (pe_methS0 (pv 0) T.c_Mill T.m_Mill_many G_Mill_many (hr.mono (by decide)) b_Mill_many (fun σ => passAt (takes_of rfl rfl rfl rfl) σ)) (pv 1)) (nomark _)) (pss_cons (ps_raise rfl (takes_of rfl rfl rfl rfl) (pmk_own PySem.F.excBase_ValueError T.x_BadWord.1 T.g_BadWord T.x_BadWord.2.1 (raises_own T.x_BadWord.2.2.1 T.x_BadWord.2.2.2) (by rfl)))
 pss_nil) pss_nil)
 (pss_cons (ps_for (passes_of rfl) rfl (RZ.pi_zipA rfl T.b_zip (pa_cons (pv 2) (pa_cons (pe_slice sl_any (pe_fld (pv 0) rfl) (po_some (pv 1)) po_none) pa_nil))) (pg_tup rfl (pgs_cons (pg_name (i := 3) nd rfl (by first | exact Or.inl rfl | exact Or.inr rfl)) (pgs_cons (pg_name (i := 4) nd rfl (by first | exact Or.inl rfl | exact Or.inr rfl)) pgs_nil))) (pss_cons (ps_if (PW.pt (pw_or (pt_cmpR op_lt (pv 3) pe_int (nomark _)) (pw_or1 (pt_cmpR op_ge (pv 3) (pe_callB call_len (by rfl) T.b_len (by decide +kernel) (pa_cons (pv 4) pa_nil)) (nomark _))))) (pss_cons (ps_raise rfl (takes_of rfl rfl rfl rfl) (pmk_own PySem.F.excBase_ValueError T.x_BadWord.1 T.g_BadWord T.x_BadWord.2.1 (raises_own T.x_BadWord.2.2.1 T.x_BadWord.2.2.2) (by rfl)))
 pss_nil) pss_nil)
 pss_nil))
 pss_nil)))
theorem sc_word_code : FnScope ["mill", "late", "word", "many", "code", "pocket", "pockets"] ["mill", "late", "word"] (defScope s_word_code) := ⟨rfl, rfl, rfl, by decide +kernel, rfl, by decide +kernel, by decide +kernel⟩
theorem ok_word_code (T : Txt K mg) : ∃ fd, (∀ base : Heap, FnOk P w K mg base (L2.CX P w) 4 (He.ga K "word_code") fd ["mill", "late", "word"] (spM K (He.ga K) 3 .F F_word_code)) ∧ Binds K fd ["mill", "late", "word"] [] ∧ PySem.W.keepIn K (.ref (He.ga K "word_code")) = true := by
  obtain ⟨fd, F⟩ := T.d_word_code
  obtain ⟨fd_codes_ahead, G_codes_ahead, b_codes_ahead, k_codes_ahead⟩ := ok_codes_ahead (P := P) (w := w) T
  obtain ⟨fd_look_at_word, G_look_at_word, b_look_at_word, k_look_at_word⟩ := ok_look_at_word (P := P) (w := w) T
  have nd := sc_word_code.nd
  refine ⟨fd, fun base => ?_, F.bindsN (fun _ _ _ _ _ _ us hl => match us, hl with | [_, _, _], _ => rfl), F.kp⟩
  have G_codes_ahead := G_codes_ahead base
  have G_look_at_word := G_look_at_word base
  refine fn_def (Γ0 := [.F, .F, .F, .F, .F, .F, .F]) (Γ1 := [.F, .F, .F, .F, .F, .F, .F]) F sc_word_code rfl (hpF (n := 3) rfl (by decide)) (fun cdv A outer s H E hr => ?_)
  refine ⟨_, ?_, (ss_seq (ss_drop (se_call (m := .F) (sz_cons (se_var (i := 0) rfl) (sz_cons (se_var (i := 1) rfl) (sz_cons (se_var (i := 2) rfl) sz_nil)))) (.inl rfl))
 (ss_seq (ss_asgF (i := 3) (se_call (m := .F) (sz_cons (se_var (i := 0) rfl) (sz_cons (se_var (i := 1) rfl) sz_nil))) (.inl rfl))
 (ss_seq (ss_asgF (i := 4) (se_sub (se_B (se_var (i := 3) rfl)) (se_B se_int)) (.inl rfl))
 (ss_seq (ss_for (vs := [5, 6]) (si_zip (sz_cons (se_var (i := 2) rfl) (sz_cons (se_slc (se_fld T.c_Mill T.n_Mill_passes (se_var (i := 0) rfl)) (so_some (se_B (se_var (i := 1) rfl))) so_none) sz_nil))) (sg_tup (n := 2) (sgs_cons (sg_name (i := 5)) (sgs_cons (sg_name (i := 6)) sgs_nil))) (ss_seq (ss_if (st_val (se_B (se_eq (se_B (se_ix (se_S (se_ix (se_S (se_var (i := 6) rfl)) (se_B (se_var (i := 5) rfl)))) (se_B se_int))) (se_B se_str)))) (ss_seq (ss_asgF (i := 4) (se_sub (se_B (se_sub (se_B (se_var (i := 3) rfl)) (se_B se_int))) (se_B (se_var (i := 4) rfl))) (.inl rfl))
 ss_next) ss_next (.inl rfl))
 (ss_seq (ss_asgF (i := 4) (se_add (se_B (se_var (i := 4) rfl)) (se_B (se_mul (se_B (se_var (i := 5) rfl)) (se_B (se_var (i := 3) rfl))))) (.inl rfl))
 (ss_seq (ss_asgF (i := 3) (se_mul (se_B (se_var (i := 3) rfl)) (se_B (se_len (se_B (se_var (i := 6) rfl))))) (.inl rfl))
 ss_next))) (.inl rfl))
 (ss_seq (ss_ret (se_var (i := 4) rfl) (.inl rfl))
 ss_next)))))⟩
  exact (pss_cons (ps_expr (pe_callS G_look_at_word (hr.mono (by decide)) rfl T.g_look_at_word k_look_at_word b_look_at_word (fun σ => passAt (takes_of rfl rfl rfl rfl) σ) (pa_cons (pv 0) (pa_cons (pv 1) (pa_cons (pv 2) pa_nil)))))
 (pss_cons (ps_set (i := 3) nd rfl (by first | exact Or.inl rfl | exact Or.inr rfl) (pe_callS G_codes_ahead (hr.mono (by decide)) rfl T.g_codes_ahead k_codes_ahead b_codes_ahead (fun σ => passAt (takes_of rfl rfl rfl rfl) σ) (pa_cons (pv 0) (pa_cons (pv 1) pa_nil))))
 (pss_cons (ps_set (i := 4) nd rfl (by first | exact Or.inl rfl | exact Or.inr rfl) (pe_op op_sub (pv 3) pe_int))
 (pss_cons (ps_for (passes_of rfl) rfl (RZ.pi_zipA rfl T.b_zip (pa_cons (pv 2) (pa_cons (pe_slice sl_any (pe_fld (pv 0) rfl) (po_some (pv 1)) po_none) pa_nil))) (pg_tup rfl (pgs_cons (pg_name (i := 5) nd rfl (by first | exact Or.inl rfl | exact Or.inr rfl)) (pgs_cons (pg_name (i := 6) nd rfl (by first | exact Or.inl rfl | exact Or.inr rfl)) pgs_nil))) (pss_cons (ps_if (pt_cmpR (op_eqD hr.units) (pe_ix ix_seq (pe_ix ix_seq (pv 6) (pv 5) (fun _ _ => rfl)) pe_int (fun _ _ => rfl)) pe_str (nomark _)) (pss_cons (ps_set (i := 4) nd rfl (by first | exact Or.inl rfl | exact Or.inr rfl) (pe_op op_sub (pe_op op_sub (pv 3) pe_int) (pv 4)))
 pss_nil) pss_nil)
 (pss_cons (ps_set (i := 4) nd rfl (by first | exact Or.inl rfl | exact Or.inr rfl) (pe_op op_add (pv 4) (pe_op op_mul (pv 5) (pv 3))))
 (pss_cons (ps_set (i := 3) nd rfl (by first | exact Or.inl rfl | exact Or.inr rfl) (pe_op op_mul (pv 3) (pe_callB call_len (by rfl) T.b_len (by decide +kernel) (pa_cons (pv 6) pa_nil))))
 pss_nil))))
 (pss_cons (ps_ret (pv 4))
 pss_nil)))))
theorem sc_code_word : FnScope ["mill", "late", "code", "many", "word", "pockets", "pocket"] ["mill", "late", "code"] (defScope s_code_word) := ⟨rfl, rfl, rfl, by decide +kernel, rfl, by decide +kernel, by decide +kernel⟩
theorem ok_code_word (T : Txt K mg) : ∃ fd, (∀ base : Heap, FnOk P w K mg base (L2.CX P w) 3 (He.ga K "code_word") fd ["mill", "late", "code"] (spM K (He.ga K) 3 .F F_code_word)) ∧ Binds K fd ["mill", "late", "code"] [] ∧ PySem.W.keepIn K (.ref (He.ga K "code_word")) = true := by
  obtain ⟨fd, F⟩ := T.d_code_word
  obtain ⟨fd_Mill_codes, G_Mill_codes, b_Mill_codes, k_Mill_codes⟩ := ok_Mill_codes (P := P) (w := w) T
  obtain ⟨fd_look_at_late, G_look_at_late, b_look_at_late, k_look_at_late⟩ := ok_look_at_late (P := P) (w := w) T
  have nd := sc_code_word.nd
  refine ⟨fd, fun base => ?_, F.bindsN (fun _ _ _ _ _ _ us hl => match us, hl with | [_, _, _], _ => rfl), F.kp⟩
  have G_Mill_codes := G_Mill_codes base
  have G_look_at_late := G_look_at_late base
  refine fn_def (Γ0 := [.F, .F, .F, .F, .F, .F, .F]) (Γ1 := [.F, .F, .F, .F, .F, .F, .F]) F sc_code_word rfl (hpF (n := 3) rfl (by decide)) (fun cdv A outer s H E hr => ?_)
  refine ⟨_, ?_, (ss_seq (ss_drop (se_call (m := .F) (sz_cons (se_var (i := 0) rfl) (sz_cons (se_var (i := 1) rfl) sz_nil))) (.inl rfl))
 (ss_seq (ss_asgF (i := 3) (se_meth (C := "Mill") (mm := "codes") (m := .F) (se_var (i := 0) rfl) sz_nil) (.inl rfl))
 (ss_seq (ss_if (st_or (st_val (se_B (se_lt (se_B (se_var (i := 2) rfl)) (se_B se_int)))) (st_val (se_B (se_ge (se_B (se_var (i := 2) rfl)) (se_B (se_var (i := 3) rfl)))))) (ss_seq (ss_rai (c := "BadCode") (.inl rfl))
 ss_next) ss_next (.inl rfl))
 (ss_seq (ss_asg (i := 4) (m := (.L .F)) (se_lst (m := .F) sz_nil) (.inl rfl))
 (ss_seq (ss_for (vs := [5]) (si_rev (se_slc (se_fld T.c_Mill T.n_Mill_passes (se_var (i := 0) rfl)) (so_some (se_B (se_var (i := 1) rfl))) so_none)) (sg_name (i := 5)) (ss_seq (ss_asgF (i := 3) (se_div (se_B (se_var (i := 3) rfl)) (se_B (se_len (se_B (se_var (i := 5) rfl))))) (.inl rfl))
 (ss_seq (ss_asgG (vs := [6, 2]) (se_divmod (se_B (se_var (i := 2) rfl)) (se_B (se_var (i := 3) rfl))) (sg_tup (n := 2) (sgs_cons (sg_name (i := 6)) (sgs_cons (sg_name (i := 2)) sgs_nil))) (.inl rfl))
 (ss_seq (ss_if (st_val (se_B (se_eq (se_B (se_ix (se_S (se_ix (se_S (se_var (i := 5) rfl)) (se_B (se_var (i := 6) rfl)))) (se_B se_int))) (se_B se_str)))) (ss_seq (ss_asgF (i := 2) (se_sub (se_B (se_sub (se_B (se_var (i := 3) rfl)) (se_B se_int))) (se_B (se_var (i := 2) rfl))) (.inl rfl))
 ss_next) ss_next (.inl rfl))
 (ss_seq (ss_app (sp_var (i := 4) rfl) (se_var (i := 6) rfl) (.inl rfl))
 ss_next)))) (.inl rfl))
 (ss_frz (i := 4) (ss_seq (ss_if (st_val (se_B (se_ne (se_B (se_var (i := 2) rfl)) (se_B (se_sub (se_B (se_var (i := 3) rfl)) (se_B se_int)))))) (ss_seq (ss_ret se_non (.inl rfl))
 ss_next) ss_next (.inl rfl))
 (ss_seq (ss_ret (se_tupRev (se_S (se_var (i := 4) rfl))) (.inl rfl))
 ss_next))))))))⟩
  exact (pss_cons (ps_expr (pe_callS G_look_at_late (hr.mono (by decide)) rfl T.g_look_at_late k_look_at_late b_look_at_late (fun σ => passAt (takes_of rfl rfl rfl rfl) σ) (pa_cons (pv 0) (pa_cons (pv 1) pa_nil))))
 (pss_cons (ps_set (i := 3) nd rfl (by first | exact Or.inl rfl | exact Or.inr rfl) (pe_methS0 (pv 0) T.c_Mill T.m_Mill_codes G_Mill_codes (hr.mono (by decide)) b_Mill_codes (fun σ => passAt (takes_of rfl rfl rfl rfl) σ)))
 (pss_cons (ps_if (PW.pt (pw_or (pt_cmpR op_lt (pv 2) pe_int (nomark _)) (pw_or1 (pt_cmpR op_ge (pv 2) (pv 3) (nomark _))))) (pss_cons (ps_raise rfl (takes_of rfl rfl rfl rfl) (pmk_own PySem.F.excBase_ValueError T.x_BadCode.1 T.g_BadCode T.x_BadCode.2.1 (raises_own T.x_BadCode.2.2.1 T.x_BadCode.2.2.2) (by rfl)))
 pss_nil) pss_nil)
 (pss_cons (ps_set (i := 4) nd rfl (by first | exact Or.inl rfl | exact Or.inr rfl) (pe_lst pa_nil))
 (pss_cons (ps_for (passes_of rfl) rfl (RT.pi_revA rfl T.b_reversed (pe_slice sl_any (pe_fld (pv 0) rfl) (po_some (pv 1)) po_none)) (pg_name (i := 5) nd rfl (by first | exact Or.inl rfl | exact Or.inr rfl)) (pss_cons (ps_set (i := 3) nd rfl (by first | exact Or.inl rfl | exact Or.inr rfl) (pe_op op_fdiv (pv 3) (pe_callB call_len (by rfl) T.b_len (by decide +kernel) (pa_cons (pv 5) pa_nil))))
 (pss_cons (ps_asg (pe_callB call_divmod (by rfl) T.b_divmod (by decide +kernel) (pa_cons (pv 2) (pa_cons (pv 3) pa_nil))) (pg_tup rfl (pgs_cons (pg_name (i := 6) nd rfl (by first | exact Or.inl rfl | exact Or.inr rfl)) (pgs_cons (pg_name (i := 2) nd rfl (by first | exact Or.inl rfl | exact Or.inr rfl)) pgs_nil))))
 (pss_cons (ps_if (pt_cmpR (op_eqD hr.units) (pe_ix ix_seq (pe_ix ix_seq (pv 5) (pv 6) (fun _ _ => rfl)) pe_int (fun _ _ => rfl)) pe_str (nomark _)) (pss_cons (ps_set (i := 2) nd rfl (by first | exact Or.inl rfl | exact Or.inr rfl) (pe_op op_sub (pe_op op_sub (pv 3) pe_int) (pv 2)))
 pss_nil) pss_nil)
 (pss_cons (ps_expr (pe_bm PySem.F.plainAttrs_list PySem.F.slot_list_append PySem.F.type_list_append mt_append (pv 4) (pa_cons (pv 6) pa_nil)))
 pss_nil)))))
 (pss_cons (ps_if (pt_cmpR (op_neD hr.units) (pv 2) (pe_op op_sub (pv 3) pe_int) (nomark _)) (pss_cons (ps_ret pe_non)
 pss_nil) pss_nil)
 (pss_cons (ps_ret (RT.pe_tupRev rfl rfl T.b_tuple rfl T.b_reversed (pv 4)))
 pss_nil)))))))
theorem sc__law_cell_at : FnScope ["script", "k"] ["script", "k"] (defScope s__law_cell_at) := ⟨rfl, rfl, rfl, by decide +kernel, rfl, by decide +kernel, by decide +kernel⟩
theorem ok__law_cell_at (T : Txt K mg) : ∃ fd, (∀ base : Heap, FnOk P w K mg base (L2.CX P w) 1 (He.ga K "_law_cell_at") fd ["script", "k"] (spM K (He.ga K) 2 .F F__law_cell_at)) ∧ Binds K fd ["script", "k"] [] ∧ PySem.W.keepIn K (.ref (He.ga K "_law_cell_at")) = true := by
  obtain ⟨fd, F⟩ := T.d__law_cell_at
  have nd := sc__law_cell_at.nd
  refine ⟨fd, fun base => ?_, F.bindsN (fun _ _ _ _ _ _ us hl => match us, hl with | [_, _], _ => rfl), F.kp⟩
  refine fn_def (Γ0 := [.F, .F]) (Γ1 := [.F, .F]) F sc__law_cell_at rfl (hpF (n := 2) rfl (by decide)) (fun cdv A outer s H E hr => ?_)
  refine ⟨_, ?_, (ss_seq (ss_if (st_val (se_B (se_lt (se_B (se_var (i := 1) rfl)) (se_B (se_len (se_B (se_var (i := 0) rfl))))))) (ss_seq (ss_ret (se_ix (se_S (se_var (i := 0) rfl)) (se_B (se_var (i := 1) rfl))) (.inl rfl))
 ss_next) ss_next (.inl rfl))
 (ss_seq (ss_ret se_int (.inl rfl))
 ss_next))⟩
  exact (pss_cons (ps_if (pt_cmpR op_lt (pv 1) (pe_callB call_len (by rfl) T.b_len (by decide +kernel) (pa_cons (pv 0) pa_nil)) (nomark _)) (pss_cons (ps_ret (pe_ix ix_seq (pv 0) (pv 1) (fun _ _ => rfl)))
 pss_nil) pss_nil)
 (pss_cons (ps_ret pe_int)
 pss_nil))
theorem sc__law_part : FnScope ["cell", "at", "k"] ["cell", "at"] (defScope s__law_part) := ⟨rfl, rfl, rfl, by decide +kernel, rfl, by decide +kernel, by decide +kernel⟩
theorem ok__law_part (T : Txt K mg) : ∃ fd, (∀ base : Heap, FnOk P w K mg base (L2.CX P w) 1 (He.ga K "_law_part") fd ["cell", "at"] (spM K (He.ga K) 2 .F F__law_part)) ∧ Binds K fd ["cell", "at"] [] ∧ PySem.W.keepIn K (.ref (He.ga K "_law_part")) = true := by
  obtain ⟨fd, F⟩ := T.d__law_part
  have nd := sc__law_part.nd
  refine ⟨fd, fun base => ?_, F.bindsN (fun _ _ _ _ _ _ us hl => match us, hl with | [_, _], _ => rfl), F.kp⟩
  refine fn_def (Γ0 := [.F, .F, .F]) (Γ1 := [.F, .F, .F]) F sc__law_part rfl (hpF (n := 2) rfl (by decide)) (fun cdv A outer s H E hr => ?_)
  refine ⟨_, ?_, (ss_seq (ss_for (vs := [2]) (si_rng1 (sb_cons (se_B (se_var (i := 1) rfl)) sb_nil)) (sg_name (i := 2)) (ss_seq (ss_asgF (i := 0) (se_div (se_B (se_var (i := 0) rfl)) (se_B se_int)) (.inl rfl))
 ss_next) (.inl rfl))
 (ss_seq (ss_ret (se_mod (se_B (se_var (i := 0) rfl)) (se_B se_int)) (.inl rfl))
 ss_next))⟩
  exact (pss_cons (ps_for (passes_of rfl) rfl (pi_range1 rfl T.b_range (pa_cons (pv 1) pa_nil)) (pg_name (i := 2) nd rfl (by first | exact Or.inl rfl | exact Or.inr rfl)) (pss_cons (ps_set (i := 0) nd rfl (by first | exact Or.inl rfl | exact Or.inr rfl) (pe_op op_fdiv (pv 0) pe_int))
 pss_nil))
 (pss_cons (ps_ret (pe_op op_mod (pv 0) pe_int))
 pss_nil))
theorem sc__law_folded : FnScope ["script", "many", "stir", "cell", "found", "k", "at"] ["script", "many"] (defScope s__law_folded) := ⟨rfl, rfl, rfl, by decide +kernel, rfl, by decide +kernel, by decide +kernel⟩
theorem ok__law_folded (T : Txt K mg) : ∃ fd, (∀ base : Heap, FnOk P w K mg base (L2.CX P w) 2 (He.ga K "_law_folded") fd ["script", "many"] (spM K (He.ga K) 2 .F F__law_folded)) ∧ Binds K fd ["script", "many"] [] ∧ PySem.W.keepIn K (.ref (He.ga K "_law_folded")) = true := by
  obtain ⟨fd, F⟩ := T.d__law_folded
  obtain ⟨fd__law_cell_at, G__law_cell_at, b__law_cell_at, k__law_cell_at⟩ := ok__law_cell_at (P := P) (w := w) T
  obtain ⟨fd__law_part, G__law_part, b__law_part, k__law_part⟩ := ok__law_part (P := P) (w := w) T
  have nd := sc__law_folded.nd
  refine ⟨fd, fun base => ?_, F.bindsN (fun _ _ _ _ _ _ us hl => match us, hl with | [_, _], _ => rfl), F.kp⟩
  have G__law_cell_at := G__law_cell_at base
  have G__law_part := G__law_part base
  refine fn_def (Γ0 := [.F, .F, .F, .F, .F, .F, .F]) (Γ1 := [.F, .F, .F, .F, .F, .F, .F]) F sc__law_folded rfl (hpF (n := 2) rfl (by decide)) (fun cdv A outer s H E hr => ?_)
  refine ⟨_, ?_, (ss_seq (ss_if (st_val (se_B (se_eq (se_B (se_mod (se_B (se_call (m := .F) (sz_cons (se_var (i := 0) rfl) (sz_cons se_int sz_nil)))) (se_B se_int))) (se_B se_int)))) (ss_seq (ss_ret (se_frz (se_comp (vs := [5]) (m := .F) (si_rng1 (sb_cons (se_B (se_var (i := 1) rfl)) sb_nil)) (sg_name (i := 5)) st_yes (se_call (m := .F) (sz_cons (se_call (m := .F) (sz_cons (se_var (i := 0) rfl) (sz_cons (se_add (se_B se_int) (se_B (se_mod (se_B (se_var (i := 5) rfl)) (se_B se_int)))) sz_nil))) (sz_cons (se_div (se_B (se_var (i := 5) rfl)) (se_B se_int)) sz_nil))))) (.inl rfl))
 ss_next) ss_next (.inl rfl))
 (ss_seq (ss_asgF (i := 2) se_int (.inl rfl))
 (ss_seq (ss_for (vs := [3]) (si_seq (se_var (i := 0) rfl)) (sg_name (i := 3)) (ss_seq (ss_asgF (i := 2) (se_mod (se_B (se_add (se_B (se_add (se_B (se_mul (se_B (se_var (i := 2) rfl)) (se_B (se_var (i := 2) rfl)))) (se_B (se_mul (se_B (se_var (i := 3) rfl)) (se_B se_int))))) (se_B se_int))) (se_B se_int)) (.inl rfl))
 ss_next) (.inl rfl))
 (ss_seq (ss_asg (i := 4) (m := (.L .F)) (se_lst (m := .F) sz_nil) (.inl rfl))
 (ss_seq (ss_for (vs := [5]) (si_rng1 (sb_cons (se_B (se_var (i := 1) rfl)) sb_nil)) (sg_name (i := 5)) (ss_seq (ss_asgF (i := 2) (se_mod (se_B (se_add (se_B (se_add (se_B (se_mul (se_B (se_var (i := 2) rfl)) (se_B (se_var (i := 2) rfl)))) (se_B (se_mul (se_B se_int) (se_B (se_var (i := 5) rfl)))))) (se_B se_int))) (se_B se_int)) (.inl rfl))
 (ss_seq (ss_app (sp_var (i := 4) rfl) (se_var (i := 2) rfl) (.inl rfl))
 ss_next)) (.inl rfl))
 (ss_seq (ss_for (vs := [5]) (si_rng1 (sb_cons (se_B (se_len (se_B (se_var (i := 0) rfl)))) sb_nil)) (sg_name (i := 5)) (ss_seq (ss_asgF (i := 6) (se_mod (se_B (se_var (i := 5) rfl)) (se_B (se_var (i := 1) rfl))) (.inl rfl))
 (ss_seq (ss_set (se_mod (se_B (se_add (se_B (se_mul (se_B (se_ix (se_varS (i := 4) rfl) (se_B (se_var (i := 6) rfl)))) (se_B se_int))) (se_B (se_ix (se_S (se_var (i := 0) rfl)) (se_B (se_var (i := 5) rfl)))))) (se_B se_int)) (sp_var (i := 4) rfl) (se_B (se_var (i := 6) rfl)) (.inl rfl))
 ss_next)) (.inl rfl))
 (ss_frz (i := 4) (ss_seq (ss_ret (se_var (i := 4) rfl) (.inl rfl))
 ss_next))))))))⟩
  exact (pss_cons (ps_if (pt_cmpR (op_eqD hr.units) (pe_op op_mod (pe_callS G__law_cell_at (hr.mono (by decide)) rfl T.g__law_cell_at k__law_cell_at b__law_cell_at (fun σ => passAt (takes_of rfl rfl rfl rfl) σ) (pa_cons (pv 0) (pa_cons pe_int pa_nil))) pe_int) pe_int (nomark _)) (pss_cons (ps_ret (pe_lc (own := [("k", 5)]) rfl nd (pi_range1 rfl T.b_range (pa_cons (pv 1) pa_nil)) (blkOk_by (N := ["script", "many", "stir", "cell", "found", "k", "at"]) (sc := defScope s__law_folded) (own := [("k", 5)]) (by decide +kernel)) (fun _ _ _ _ _ => (pg_name (i := 5) nd rfl (by first | exact Or.inl rfl | exact Or.inr rfl))) (fun _ _ _ _ _ => pts_nil) (fun _ _ _ _ _ => (pe_callS G__law_part (hr.mono (by decide)) rfl T.g__law_part k__law_part b__law_part (fun σ => passAt takes0 σ) (pa_cons (pe_callS G__law_cell_at (hr.mono (by decide)) rfl T.g__law_cell_at k__law_cell_at b__law_cell_at (fun σ => passAt takes0 σ) (pa_cons (pv 0) (pa_cons (pe_op op_add pe_int (pe_op op_mod (pv 5) pe_int)) pa_nil))) (pa_cons (pe_op op_fdiv (pv 5) pe_int) pa_nil))))))
 pss_nil) pss_nil)
 (pss_cons (ps_set (i := 2) nd rfl (by first | exact Or.inl rfl | exact Or.inr rfl) pe_int)
 (pss_cons (ps_for (passes_of rfl) rfl (pi_seqA (pv 0)) (pg_name (i := 3) nd rfl (by first | exact Or.inl rfl | exact Or.inr rfl)) (pss_cons (ps_set (i := 2) nd rfl (by first | exact Or.inl rfl | exact Or.inr rfl) (pe_op op_mod (pe_op op_add (pe_op op_add (pe_op op_mul (pv 2) (pv 2)) (pe_op op_mul (pv 3) pe_int)) pe_int) pe_int))
 pss_nil))
 (pss_cons (ps_set (i := 4) nd rfl (by first | exact Or.inl rfl | exact Or.inr rfl) (pe_lst pa_nil))
 (pss_cons (ps_for (passes_of rfl) rfl (pi_range1 rfl T.b_range (pa_cons (pv 1) pa_nil)) (pg_name (i := 5) nd rfl (by first | exact Or.inl rfl | exact Or.inr rfl)) (pss_cons (ps_set (i := 2) nd rfl (by first | exact Or.inl rfl | exact Or.inr rfl) (pe_op op_mod (pe_op op_add (pe_op op_add (pe_op op_mul (pv 2) (pv 2)) (pe_op op_mul pe_int (pv 5))) pe_int) pe_int))
 (pss_cons (ps_expr (pe_bm PySem.F.plainAttrs_list PySem.F.slot_list_append PySem.F.type_list_append mt_append (pv 4) (pa_cons (pv 2) pa_nil)))
 pss_nil)))
 (pss_cons (ps_for (passes_of rfl) rfl (pi_range1 rfl T.b_range (pa_cons (pe_callB call_len (by rfl) T.b_len (by decide +kernel) (pa_cons (pv 0) pa_nil)) pa_nil)) (pg_name (i := 5) nd rfl (by first | exact Or.inl rfl | exact Or.inr rfl)) (pss_cons (ps_set (i := 6) nd rfl (by first | exact Or.inl rfl | exact Or.inr rfl) (pe_op op_mod (pv 5) (pv 1)))
 (pss_cons (ps_asg (pe_op op_mod (pe_op op_add (pe_op op_mul (pe_ix ix_seq (pv 4) (pv 6) (fun _ _ => rfl)) pe_int) (pe_ix ix_seq (pv 0) (pv 5) (fun _ _ => rfl))) pe_int) (pg_sub (pv 4) (pv 6) set_list))
 pss_nil)))
 (pss_cons (ps_ret (pv 4))
 pss_nil)))))))
theorem sc__law_pocket : FnScope ["cell", "width"] ["cell"] (defScope s__law_pocket) := ⟨rfl, rfl, rfl, by decide +kernel, rfl, by decide +kernel, by decide +kernel⟩
theorem ok__law_pocket (T : Txt K mg) : ∃ fd, (∀ base : Heap, FnOk P w K mg base (L2.CX P w) 1 (He.ga K "_law_pocket") fd ["cell"] (spM K (He.ga K) 1 .F F__law_pocket)) ∧ Binds K fd ["cell"] [] ∧ PySem.W.keepIn K (.ref (He.ga K "_law_pocket")) = true := by
  obtain ⟨fd, F⟩ := T.d__law_pocket
  have nd := sc__law_pocket.nd
  refine ⟨fd, fun base => ?_, F.bindsN (fun _ _ _ _ _ _ us hl => match us, hl with | [_], _ => rfl), F.kp⟩
  refine fn_def (Γ0 := [.F, .F]) (Γ1 := [.F, .F]) F sc__law_pocket rfl (hpF (n := 1) rfl (by decide)) (fun cdv A outer s H E hr => ?_)
  refine ⟨_, ?_, (ss_seq (ss_asgF (i := 1) (se_ix (se_LS (se_lst (m := .F) (sz_cons se_int (sz_cons se_int (sz_cons se_int (sz_cons se_int (sz_cons (se_mod (se_B (se_div (se_B (se_var (i := 0) rfl)) (se_B se_int))) (se_B se_int)) sz_nil))))))) (se_B (se_mod (se_B (se_div (se_B (se_var (i := 0) rfl)) (se_B se_int))) (se_B se_int)))) (.inl rfl))
 (ss_seq (ss_ret (se_tupF (sz_cons (se_ix (se_LS (se_lst (m := .F) (sz_cons se_str (sz_cons se_str sz_nil)))) (se_B (se_mod (se_B (se_var (i := 0) rfl)) (se_B se_int)))) (sz_cons (se_var (i := 1) rfl) sz_nil))) (.inl rfl))
 ss_next))⟩
  exact (pss_cons (ps_set (i := 1) nd rfl (by first | exact Or.inl rfl | exact Or.inr rfl) (pe_ix ix_seq (pe_lst (pa_cons pe_int (pa_cons pe_int (pa_cons pe_int (pa_cons pe_int (pa_cons (pe_op op_mod (pe_op op_fdiv (pv 0) pe_int) pe_int) pa_nil)))))) (pe_op op_mod (pe_op op_fdiv (pv 0) pe_int) pe_int) (fun _ _ => rfl)))
 (pss_cons (ps_ret (pe_tup (pa_cons (pe_ix ix_seq (pe_lst (pa_cons pe_str (pa_cons pe_str pa_nil))) (pe_op op_mod (pv 0) pe_int) (fun _ _ => rfl)) (pa_cons (pv 1) pa_nil))))
 pss_nil))
theorem sc__law_passes : FnScope ["cells", "most", "passes", "product", "t", "many", "j"] ["cells", "most"] (defScope s__law_passes) := ⟨rfl, rfl, rfl, by decide +kernel, rfl, by decide +kernel, by decide +kernel⟩
theorem ok__law_passes (T : Txt K mg) : ∃ fd, (∀ base : Heap, FnOk P w K mg base (L2.CX P w) 2 (He.ga K "_law_passes") fd ["cells", "most"] (spM K (He.ga K) 2 .F F__law_passes)) ∧ Binds K fd ["cells", "most"] [] ∧ PySem.W.keepIn K (.ref (He.ga K "_law_passes")) = true := by
  obtain ⟨fd, F⟩ := T.d__law_passes
  obtain ⟨fd__law_pocket, G__law_pocket, b__law_pocket, k__law_pocket⟩ := ok__law_pocket (P := P) (w := w) T
  have nd := sc__law_passes.nd
  refine ⟨fd, fun base => ?_, F.bindsN (fun _ _ _ _ _ _ us hl => match us, hl with | [_, _], _ => rfl), F.kp⟩
  have G__law_pocket := G__law_pocket base
  refine fn_def (Γ0 := [.F, .F, .F, .F, .F, .F, .F]) (Γ1 := [.F, .F, .F, .F, .F, .F, .F]) F sc__law_passes rfl (hpF (n := 2) rfl (by decide)) (fun cdv A outer s H E hr => ?_)
  refine ⟨_, ?_, (ss_seq (ss_asg (i := 2) (m := (.L .F)) (se_lst (m := .F) sz_nil) (.inl rfl))
 (ss_seq (ss_asgF (i := 3) se_int (.inl rfl))
 (ss_seq (ss_for (vs := [4]) (si_rng1 (sb_cons (se_B (se_ix (se_LS (se_lst (m := .F) (sz_cons se_int (sz_cons se_int (sz_cons se_int (sz_cons se_int (sz_cons se_int (sz_cons se_int (sz_cons se_int (sz_cons se_int sz_nil)))))))))) (se_B (se_mod (se_B (se_div (se_B (se_ix (se_S (se_var (i := 0) rfl)) (se_B se_int))) (se_B se_int))) (se_B se_int))))) sb_nil)) (sg_name (i := 4)) (ss_seq (ss_asgF (i := 5) (se_ix (se_LS (se_lst (m := .F) (sz_cons se_int (sz_cons se_int (sz_cons se_int (sz_cons se_int (sz_cons se_int (sz_cons se_int (sz_cons se_int (sz_cons se_int sz_nil)))))))))) (se_B (se_mod (se_B (se_div (se_B (se_ix (se_S (se_var (i := 0) rfl)) (se_B (se_add (se_B se_int) (se_B (se_mul (se_B se_int) (se_B (se_var (i := 4) rfl)))))))) (se_B se_int))) (se_B se_int)))) (.inl rfl))
 (ss_seq (ss_if (st_val (se_B (se_gt (se_B (se_mul (se_B (se_var (i := 3) rfl)) (se_B (se_var (i := 5) rfl)))) (se_B (se_var (i := 1) rfl))))) (ss_seq (ss_asgF (i := 5) se_int (.inl rfl))
 ss_next) ss_next (.inl rfl))
 (ss_seq (ss_asgF (i := 3) (se_mul (se_B (se_var (i := 3) rfl)) (se_B (se_var (i := 5) rfl))) (.inl rfl))
 (ss_seq (ss_app (sp_var (i := 2) rfl) (se_frz (se_comp (vs := [6]) (m := .F) (si_rng1 (sb_cons (se_B (se_var (i := 5) rfl)) sb_nil)) (sg_name (i := 6)) st_yes (se_call (m := .F) (sz_cons (se_ix (se_S (se_var (i := 0) rfl)) (se_B (se_add (se_B (se_add (se_B se_int) (se_B (se_mul (se_B se_int) (se_B (se_var (i := 4) rfl)))))) (se_B (se_var (i := 6) rfl))))) sz_nil)))) (.inl rfl))
 ss_next)))) (.inl rfl))
 (ss_frz (i := 2) (ss_seq (ss_ret (se_var (i := 2) rfl) (.inl rfl))
 ss_next)))))⟩
  exact (pss_cons (ps_set (i := 2) nd rfl (by first | exact Or.inl rfl | exact Or.inr rfl) (pe_lst pa_nil))
 (pss_cons (ps_set (i := 3) nd rfl (by first | exact Or.inl rfl | exact Or.inr rfl) pe_int)
 (pss_cons (ps_for (passes_of rfl) rfl (pi_range1 rfl T.b_range (pa_cons (pe_ix ix_seq (pe_lst (pa_cons pe_int (pa_cons pe_int (pa_cons pe_int (pa_cons pe_int (pa_cons pe_int (pa_cons pe_int (pa_cons pe_int (pa_cons pe_int pa_nil))))))))) (pe_op op_mod (pe_op op_fdiv (pe_ix ix_seq (pv 0) pe_int (fun _ _ => rfl)) pe_int) pe_int) (fun _ _ => rfl)) pa_nil)) (pg_name (i := 4) nd rfl (by first | exact Or.inl rfl | exact Or.inr rfl)) (pss_cons (ps_set (i := 5) nd rfl (by first | exact Or.inl rfl | exact Or.inr rfl) (pe_ix ix_seq (pe_lst (pa_cons pe_int (pa_cons pe_int (pa_cons pe_int (pa_cons pe_int (pa_cons pe_int (pa_cons pe_int (pa_cons pe_int (pa_cons pe_int pa_nil))))))))) (pe_op op_mod (pe_op op_fdiv (pe_ix ix_seq (pv 0) (pe_op op_add pe_int (pe_op op_mul pe_int (pv 4))) (fun _ _ => rfl)) pe_int) pe_int) (fun _ _ => rfl)))
 (pss_cons (ps_if (pt_cmpR op_gt (pe_op op_mul (pv 3) (pv 5)) (pv 1) (nomark _)) (pss_cons (ps_set (i := 5) nd rfl (by first | exact Or.inl rfl | exact Or.inr rfl) pe_int)
 pss_nil) pss_nil)
 (pss_cons (ps_set (i := 3) nd rfl (by first | exact Or.inl rfl | exact Or.inr rfl) (pe_op op_mul (pv 3) (pv 5)))
 (pss_cons (ps_expr (pe_bm PySem.F.plainAttrs_list PySem.F.slot_list_append PySem.F.type_list_append mt_append (pv 2) (pa_cons (pe_lc (own := [("j", 6)]) rfl nd (pi_range1 rfl T.b_range (pa_cons (pv 5) pa_nil)) (blkOk_by (N := ["cells", "most", "passes", "product", "t", "many", "j"]) (sc := defScope s__law_passes) (own := [("j", 6)]) (by decide +kernel)) (fun _ _ _ _ _ => (pg_name (i := 6) nd rfl (by first | exact Or.inl rfl | exact Or.inr rfl))) (fun _ _ _ _ _ => pts_nil) (fun _ _ _ _ _ => (pe_callS G__law_pocket (hr.mono (by decide)) rfl T.g__law_pocket k__law_pocket b__law_pocket (fun σ => passAt takes0 σ) (pa_cons (pe_ix ix_seq (pv 0) (pe_op op_add (pe_op op_add pe_int (pe_op op_mul pe_int (pv 4))) (pv 6)) (fun _ _ => rfl)) pa_nil)))) pa_nil)))
 pss_nil)))))
 (pss_cons (ps_ret (pv 2))
 pss_nil))))
theorem sc__law_word_good : FnScope ["found", "passes", "late", "k"] ["found", "passes", "late"] (defScope s__law_word_good) := ⟨rfl, rfl, rfl, by decide +kernel, rfl, by decide +kernel, by decide +kernel⟩
theorem ok__law_word_good (T : Txt K mg) : ∃ fd, (∀ base : Heap, FnOk P w K mg base (L2.CX P w) 1 (He.ga K "_law_word_good") fd ["found", "passes", "late"] (spM K (He.ga K) 3 .F F__law_word_good)) ∧ Binds K fd ["found", "passes", "late"] [] ∧ PySem.W.keepIn K (.ref (He.ga K "_law_word_good")) = true := by
  obtain ⟨fd, F⟩ := T.d__law_word_good
  have nd := sc__law_word_good.nd
  refine ⟨fd, fun base => ?_, F.bindsN (fun _ _ _ _ _ _ us hl => match us, hl with | [_, _, _], _ => rfl), F.kp⟩
  refine fn_def (Γ0 := [.F, .F, .F, .F]) (Γ1 := [.F, .F, .F, .F]) F sc__law_word_good rfl (hpF (n := 3) rfl (by decide)) (fun cdv A outer s H E hr => ?_)
  refine ⟨_, ?_, (ss_seq (ss_if (st_or (st_not (st_valB (se_B (se_isi (c := .tuple) (by decide) (se_B (se_var (i := 0) rfl)))))) (st_val (se_B (se_ne (se_B (se_len (se_B (se_var (i := 0) rfl)))) (se_B (se_sub (se_B (se_len (se_B (se_var (i := 1) rfl)))) (se_B (se_var (i := 2) rfl)))))))) (ss_seq (ss_ret se_bl (.inl rfl))
 ss_next) ss_next (.inl rfl))
 (ss_seq (ss_for (vs := [3]) (si_rng1 (sb_cons (se_B (se_len (se_B (se_var (i := 0) rfl)))) sb_nil)) (sg_name (i := 3)) (ss_seq (ss_if (st_or (st_not (st_valB (se_B (se_isi (c := .int) (by decide) (se_B (se_ix (se_S (se_var (i := 0) rfl)) (se_B (se_var (i := 3) rfl)))))))) (st_valB (se_B (se_isi (c := .bool) (by decide) (se_B (se_ix (se_S (se_var (i := 0) rfl)) (se_B (se_var (i := 3) rfl)))))))) (ss_seq (ss_ret se_bl (.inl rfl))
 ss_next) ss_next (.inl rfl))
 (ss_seq (ss_if (st_or (st_val (se_B (se_lt (se_B (se_ix (se_S (se_var (i := 0) rfl)) (se_B (se_var (i := 3) rfl)))) (se_B se_int)))) (st_val (se_B (se_ge (se_B (se_ix (se_S (se_var (i := 0) rfl)) (se_B (se_var (i := 3) rfl)))) (se_B (se_len (se_B (se_ix (se_S (se_var (i := 1) rfl)) (se_B (se_plus (se_var (i := 2) rfl) (se_var (i := 3) rfl))))))))))) (ss_seq (ss_ret se_bl (.inl rfl))
 ss_next) ss_next (.inl rfl))
 ss_next)) (.inl rfl))
 (ss_seq (ss_ret se_bl (.inl rfl))
 ss_next)))⟩
  exact (pss_cons (ps_if (PW.pt (pw_or (pt_not (pt_val (pe_callB call_isi (by rfl) T.b_isinstance (by decide +kernel) (pa_cons (pv 0) (pa_cons (pe_bltn (v := .ty "tuple") rfl T.b_tuple (by decide +kernel) rfl) pa_nil))))) (pw_or1 (pt_cmpR (op_neD hr.units) (pe_callB call_len (by rfl) T.b_len (by decide +kernel) (pa_cons (pv 0) pa_nil)) (pe_op op_sub (pe_callB call_len (by rfl) T.b_len (by decide +kernel) (pa_cons (pv 1) pa_nil)) (pv 2)) (nomark _))))) (pss_cons (ps_ret pe_bl)
 pss_nil) pss_nil)
 (pss_cons (ps_for (passes_of rfl) rfl (pi_range1 rfl T.b_range (pa_cons (pe_callB call_len (by rfl) T.b_len (by decide +kernel) (pa_cons (pv 0) pa_nil)) pa_nil)) (pg_name (i := 3) nd rfl (by first | exact Or.inl rfl | exact Or.inr rfl)) (pss_cons (ps_if (PW.pt (pw_or (pt_not (pt_val (pe_callB call_isi (by rfl) T.b_isinstance (by decide +kernel) (pa_cons (pe_ix ix_seq (pv 0) (pv 3) (fun _ _ => rfl)) (pa_cons (pe_bltn (v := .ty "int") rfl T.b_int (by decide +kernel) rfl) pa_nil))))) (pw_or1 (pt_val (pe_callB call_isi (by rfl) T.b_isinstance (by decide +kernel) (pa_cons (pe_ix ix_seq (pv 0) (pv 3) (fun _ _ => rfl)) (pa_cons (pe_bltn (v := .ty "bool") rfl T.b_bool (by decide +kernel) rfl) pa_nil))))))) (pss_cons (ps_ret pe_bl)
 pss_nil) pss_nil)
 (pss_cons (ps_if (PW.pt (pw_or (pt_cmpR op_lt (pe_ix ix_seq (pv 0) (pv 3) (fun _ _ => rfl)) pe_int (nomark _)) (pw_or1 (pt_cmpR op_ge (pe_ix ix_seq (pv 0) (pv 3) (fun _ _ => rfl)) (pe_callB call_len (by rfl) T.b_len (by decide +kernel) (pa_cons (pe_ix ix_seq (pv 1) (pe_op op_plus (pv 2) (pv 3)) (fun _ _ => rfl)) pa_nil)) (nomark _))))) (pss_cons (ps_ret pe_bl)
 pss_nil) pss_nil)
 pss_nil)))
 (pss_cons (ps_ret pe_bl)
 pss_nil)))
theorem sc__law_words : FnScope ["mill", "passes", "late", "told", "product", "pockets", "code", "found"] ["mill", "passes", "late"] (defScope s__law_words) := ⟨rfl, rfl, rfl, by decide +kernel, rfl, by decide +kernel, by decide +kernel⟩
theorem ok__law_words (T : Txt K mg) : ∃ fd, (∀ base : Heap, FnOk P w K mg base (L2.CX P w) 5 (He.ga K "_law_words") fd ["mill", "passes", "late"] (spM K (He.ga K) 3 .F F__law_words)) ∧ Binds K fd ["mill", "passes", "late"] [] ∧ PySem.W.keepIn K (.ref (He.ga K "_law_words")) = true := by
  obtain ⟨fd, F⟩ := T.d__law_words
  obtain ⟨fd__law_word_good, G__law_word_good, b__law_word_good, k__law_word_good⟩ := ok__law_word_good (P := P) (w := w) T
  obtain ⟨fd_code_word, G_code_word, b_code_word, k_code_word⟩ := ok_code_word (P := P) (w := w) T
  obtain ⟨fd_word_code, G_word_code, b_word_code, k_word_code⟩ := ok_word_code (P := P) (w := w) T
  have nd := sc__law_words.nd
  refine ⟨fd, fun base => ?_, F.bindsN (fun _ _ _ _ _ _ us hl => match us, hl with | [_, _, _], _ => rfl), F.kp⟩
  have G__law_word_good := G__law_word_good base
  have G_code_word := G_code_word base
  have G_word_code := G_word_code base
  refine fn_def (Γ0 := [.F, .F, .F, .F, .F, .F, .F, .F]) (Γ1 := [.F, .F, .F, .F, .F, .F, .F, .F]) F sc__law_words rfl (hpF (n := 3) rfl (by decide)) (fun cdv A outer s H E hr => ?_)
  refine ⟨_, ?_, (ss_seq (ss_asg (i := 3) (m := (.K .F)) se_dnewT (.inl rfl))
 (ss_seq (ss_asgF (i := 4) se_int (.inl rfl))
 (ss_seq (ss_for (vs := [5]) (si_seq (se_var (i := 1) rfl)) (sg_name (i := 5)) (ss_seq (ss_asgF (i := 4) (se_mul (se_B (se_var (i := 4) rfl)) (se_B (se_len (se_B (se_var (i := 5) rfl))))) (.inl rfl))
 ss_next) (.inl rfl))
 (ss_seq (ss_for (vs := [6]) (si_rng1 (sb_cons (se_B (se_var (i := 4) rfl)) sb_nil)) (sg_name (i := 6)) (ss_seq (ss_asgF (i := 7) (se_call (m := .F) (sz_cons (se_var (i := 0) rfl) (sz_cons (se_var (i := 2) rfl) (sz_cons (se_var (i := 6) rfl) sz_nil)))) (.inl rfl))
 (ss_seq (ss_if (st_val (se_B (se_notN (se_B (se_var (i := 7) rfl))))) (ss_seq (ss_if (st_or (st_not (st_valB (se_B (se_call (m := .F) (sz_cons (se_var (i := 7) rfl) (sz_cons (se_var (i := 1) rfl) (sz_cons (se_var (i := 2) rfl) sz_nil))))))) (st_or (st_val (se_B (se_din (se_B (se_var (i := 7) rfl)) (se_varB (i := 3))))) (st_val (se_B (se_ne (se_B (se_call (m := .F) (sz_cons (se_var (i := 0) rfl) (sz_cons (se_var (i := 2) rfl) (sz_cons (se_var (i := 7) rfl) sz_nil))))) (se_B (se_var (i := 6) rfl))))))) (ss_frz (i := 3) (ss_seq (ss_ret se_non (.inl rfl))
 ss_next)) ss_next (.inl rfl))
 (ss_seq (ss_dput (se_var (i := 6) rfl) (sp_var (i := 3) rfl) (se_B (se_var (i := 7) rfl)) (.inl rfl))
 ss_next)) ss_next (.inl rfl))
 ss_next)) (.inl rfl))
 (ss_frz (i := 3) (ss_seq (ss_ret (se_var (i := 3) rfl) (.inl rfl))
 ss_next))))))⟩
  exact (pss_cons (ps_set (i := 3) nd rfl (by first | exact Or.inl rfl | exact Or.inr rfl) pe_dnewT)
 (pss_cons (ps_set (i := 4) nd rfl (by first | exact Or.inl rfl | exact Or.inr rfl) pe_int)
 (pss_cons (ps_for (passes_of rfl) rfl (pi_seqA (pv 1)) (pg_name (i := 5) nd rfl (by first | exact Or.inl rfl | exact Or.inr rfl)) (pss_cons (ps_set (i := 4) nd rfl (by first | exact Or.inl rfl | exact Or.inr rfl) (pe_op op_mul (pv 4) (pe_callB call_len (by rfl) T.b_len (by decide +kernel) (pa_cons (pv 5) pa_nil))))
 pss_nil))
 (pss_cons (ps_for (passes_of rfl) rfl (pi_range1 rfl T.b_range (pa_cons (pv 4) pa_nil)) (pg_name (i := 6) nd rfl (by first | exact Or.inl rfl | exact Or.inr rfl)) (pss_cons (ps_set (i := 7) nd rfl (by first | exact Or.inl rfl | exact Or.inr rfl) (pe_callS G_code_word (hr.mono (by decide)) rfl T.g_code_word k_code_word b_code_word (fun σ => passAt (takes_of rfl rfl rfl rfl) σ) (pa_cons (pv 0) (pa_cons (pv 2) (pa_cons (pv 6) pa_nil)))))
 (pss_cons (ps_if (pt_cmpR op_notN (pv 7) pe_non (nomark _)) (pss_cons (ps_if (PW.pt (pw_or (pt_not (pt_val (pe_callS G__law_word_good (hr.mono (by decide)) rfl T.g__law_word_good k__law_word_good b__law_word_good (fun σ => passAt (takes_of rfl rfl rfl rfl) σ) (pa_cons (pv 7) (pa_cons (pv 1) (pa_cons (pv 2) pa_nil)))))) (pw_or (pt_cmp (pc_din (room1 hr) (pv 7) (pv 3))) (pw_or1 (pt_cmpR (op_neD hr.units) (pe_callS G_word_code (hr.mono (by decide)) rfl T.g_word_code k_word_code b_word_code (fun σ => passAt (takes_of rfl rfl rfl rfl) σ) (pa_cons (pv 0) (pa_cons (pv 2) (pa_cons (pv 7) pa_nil)))) (pv 6) (nomark _)))))) (pss_cons (ps_ret pe_non)
 pss_nil) pss_nil)
 (pss_cons (ps_dput (room1 hr) (pv 3) (pv 7) (pv 6) (by rfl))
 pss_nil)) pss_nil)
 pss_nil)))
 (pss_cons (ps_ret (pv 3))
 pss_nil)))))
theorem sc_law : FnScope ["script", "cells", "passes", "mill", "late", "told", "due", "pockets"] ["script"] (defScope s_law) := ⟨rfl, rfl, rfl, by decide +kernel, rfl, by decide +kernel, by decide +kernel⟩
theorem ok_law (T : Txt K mg) : ∃ fd, (∀ base : Heap, FnOk P w K mg base (L2.CX P w) 6 (He.ga K "law") fd ["script"] (spM K (He.ga K) 1 .F F_law)) ∧ Binds K fd ["script"] [] ∧ PySem.W.keepIn K (.ref (He.ga K "law")) = true ∧ ∀ (s : Shared) (v : Value), BindsTo s fd ⟨[v], []⟩ [("script", v)] := by
  obtain ⟨fd, F⟩ := T.d_law
  obtain ⟨fd_Mill___init__, G_Mill___init__, b_Mill___init__, k_Mill___init__⟩ := ok_Mill___init__ (P := P) (w := w) T
  obtain ⟨fd__law_folded, G__law_folded, b__law_folded, k__law_folded⟩ := ok__law_folded (P := P) (w := w) T
  obtain ⟨fd__law_passes, G__law_passes, b__law_passes, k__law_passes⟩ := ok__law_passes (P := P) (w := w) T
  obtain ⟨fd__law_words, G__law_words, b__law_words, k__law_words⟩ := ok__law_words (P := P) (w := w) T
  have nd := sc_law.nd
  refine ⟨fd, fun base => ?_, F.bindsN (fun _ _ _ _ _ _ us hl => match us, hl with | [_], _ => rfl), F.kp, fun s v => FunD.bindsA (ps := ["script"]) F (fun _ _ _ _ _ _ us hl => match us, hl with | [_], _ => rfl) s [v] rfl⟩
  have G_Mill___init__ := G_Mill___init__ base
  have G__law_folded := G__law_folded base
  have G__law_passes := G__law_passes base
  have G__law_words := G__law_words base
  refine fn_def (Γ0 := [.F, .F, .F, .F, .F, .F, .F, .F]) (Γ1 := [.F, .F, .F, .F, .F, .F, .F, .F]) F sc_law rfl (hpF (n := 1) rfl (by decide)) (fun cdv A outer s H E hr => ?_)
  refine ⟨_, ?_, (ss_seq (ss_asgF (i := 1) (se_call (m := .F) (sz_cons (se_var (i := 0) rfl) (sz_cons se_int sz_nil))) (.inl rfl))
 (ss_seq (ss_asgF (i := 2) (se_call (m := .F) (sz_cons (se_var (i := 1) rfl) (sz_cons se_int sz_nil))) (.inl rfl))
 (ss_seq (ss_asgF (i := 3) (se_frz (se_make (C := "Mill") (ns := [.F]) (sz_cons (se_var (i := 2) rfl) sz_nil))) (.inl rfl))
 (ss_seq (ss_for (vs := [4]) (si_seq (se_frz (se_lst (m := .F) (sz_cons se_int (sz_cons (se_mod (se_B (se_ix (se_S (se_var (i := 1) rfl)) (se_B se_int))) (se_B (se_add (se_B (se_len (se_B (se_var (i := 2) rfl)))) (se_B se_int)))) sz_nil))))) (sg_name (i := 4)) (ss_seq (ss_asgF (i := 5) (se_call (m := .F) (sz_cons (se_var (i := 3) rfl) (sz_cons (se_var (i := 2) rfl) (sz_cons (se_var (i := 4) rfl) sz_nil)))) (.inl rfl))
 (ss_seq (ss_asgF (i := 6) se_int (.inl rfl))
 (ss_seq (ss_for (vs := [7]) (si_seq (se_slc (se_var (i := 2) rfl) (so_some (se_B (se_var (i := 4) rfl))) so_none)) (sg_name (i := 7)) (ss_seq (ss_asgF (i := 6) (se_mul (se_B (se_var (i := 6) rfl)) (se_B (se_len (se_B (se_var (i := 7) rfl))))) (.inl rfl))
 ss_next) (.inl rfl))
 (ss_seq (ss_if (st_or (st_val (se_B (se_isN (se_B (se_var (i := 5) rfl))))) (st_val (se_B (se_ne (se_B (se_dlenT (se_B (se_var (i := 5) rfl)))) (se_B (se_var (i := 6) rfl)))))) (ss_seq (ss_ret se_bl (.inl rfl))
 ss_next) ss_next (.inl rfl))
 ss_next)))) (.inl rfl))
 (ss_seq (ss_ret se_bl (.inl rfl))
 ss_next)))))⟩
  exact (pss_cons (ps_set (i := 1) nd rfl (by first | exact Or.inl rfl | exact Or.inr rfl) (pe_callS G__law_folded (hr.mono (by decide)) rfl T.g__law_folded k__law_folded b__law_folded (fun σ => passAt (takes_of rfl rfl rfl rfl) σ) (pa_cons (pv 0) (pa_cons pe_int pa_nil))))
 (pss_cons (ps_set (i := 2) nd rfl (by first | exact Or.inl rfl | exact Or.inr rfl) (pe_callS G__law_passes (hr.mono (by decide)) rfl T.g__law_passes k__law_passes b__law_passes (fun σ => passAt (takes_of rfl rfl rfl rfl) σ) (pa_cons (pv 1) (pa_cons pe_int pa_nil))))
 (pss_cons (ps_set (i := 3) nd rfl (by first | exact Or.inl rfl | exact Or.inr rfl) (pe_makeS T.k_Mill G_Mill___init__ (hr.mono (by decide)) rfl T.g_Mill b_Mill___init__ (fun σ => passAt (takes_of rfl rfl rfl rfl) σ) (pa_cons (pv 2) pa_nil)))
 (pss_cons (ps_for (passes_of rfl) rfl (pi_seqA (pe_lst (pa_cons pe_int (pa_cons (pe_op op_mod (pe_ix ix_seq (pv 1) pe_int (fun _ _ => rfl)) (pe_op op_add (pe_callB call_len (by rfl) T.b_len (by decide +kernel) (pa_cons (pv 2) pa_nil)) pe_int)) pa_nil)))) (pg_name (i := 4) nd rfl (by first | exact Or.inl rfl | exact Or.inr rfl)) (pss_cons (ps_set (i := 5) nd rfl (by first | exact Or.inl rfl | exact Or.inr rfl) (pe_callS G__law_words (hr.mono (by decide)) rfl T.g__law_words k__law_words b__law_words (fun σ => passAt (takes_of rfl rfl rfl rfl) σ) (pa_cons (pv 3) (pa_cons (pv 2) (pa_cons (pv 4) pa_nil)))))
 (pss_cons (ps_set (i := 6) nd rfl (by first | exact Or.inl rfl | exact Or.inr rfl) pe_int)
 (pss_cons (ps_for (passes_of rfl) rfl (pi_seqA (pe_slice sl_any (pv 2) (po_some (pv 4)) po_none)) (pg_name (i := 7) nd rfl (by first | exact Or.inl rfl | exact Or.inr rfl)) (pss_cons (ps_set (i := 6) nd rfl (by first | exact Or.inl rfl | exact Or.inr rfl) (pe_op op_mul (pv 6) (pe_callB call_len (by rfl) T.b_len (by decide +kernel) (pa_cons (pv 7) pa_nil))))
 pss_nil))
 (pss_cons (ps_if (PW.pt (pw_or (pt_cmpR op_isN (pv 5) pe_non (nomark _)) (pw_or1 (pt_cmpR (op_neD hr.units) (pe_callB call_len_dT (by rfl) T.b_len (by decide +kernel) (pa_cons (pv 5) pa_nil)) (pv 6) (nomark _))))) (pss_cons (ps_ret pe_bl)
 pss_nil) pss_nil)
 pss_nil)))))
 (pss_cons (ps_ret pe_bl)
 pss_nil)))))
end
end Pm
namespace Pm
open PySem PySem.Spec L2
theorem cell_at_run (ns : List Int) (k : Nat) : F__law_cell_at [.scr (ns.map .int), .int k] = .ok (.int (ns.getD k 0)) := by
  rw [R__law_cell_at]
  unfold Fb__law_cell_at
  simp (decide := true) (implicitDefEqProofs := false) only [List.set_cons_zero, List.set_cons_succ, List.map_cons, List.map_nil, List.cons_append, List.nil_append, List.append_nil, List.replicate_succ, List.replicate_zero, Nat.reduceSub, List.length_cons, List.length_nil, Nat.reduceAdd, v_var0, v_varS, v_con, v_add, v_sub, v_mul, v_div, v_mod, v_pow, v_shl, v_lt, v_le, v_gt, v_ge, v_eq, v_ne, v_in, v_nin, v_ix, v_plus, v_cat, v_rep, v_isN, v_notN, v_len, v_neg, v_isi, v_list, v_tuple, v_tupleL, v_fld, v_fldI, v_all, v_any, v_sum, v_max2, v_min2, v_i2, v_addI, v_subI, v_mulL, v_mulR, v_divI, v_modI, v_ltI, v_leI, v_gtI, v_geI, v_negD, v_eqI, v_neI, v_eqB, v_neB, v_lenL, v_lenC, v_lenT, v_listL, v_listC, v_listT, v_tupL, v_tupC, v_tupT, v_tupLL, v_plusI, v_plusL, v_plusT, v_catL, v_slc, v_slcL, v_noPart, v_partO, v_asI, v_cutL, v_cutC, v_cutT, v_cutLL, v_cutLC, v_boolT, v_notT, v_andT, v_orT, v_yes, v_andE, v_orE, v_notE, v_ifE, v_andOk, v_orOk, v_andOkE, v_orOkE, v_isB, v_isI, v_isIB, v_eqS, v_neS, v_asB, v_args0, v_args1, v_tup, v_lst, v_call, v_callB, v_meth, v_methB, v_scal, v_scalI, v_scalB, v_scalS, v_scalN, v_rng1, v_rng2, v_rngD1, v_rngD2, v_seqI, v_tupI, v_seqL, v_seqC, v_seqT, v_seqQ, v_lenQ, v_tupQ, v_tupID, v_zipI, v_zipL, v_zipT, v_enumI, v_enumL, v_enumC, v_revI, v_revL, v_revT, v_comp, v_wipe0, v_wipe1, v_assoc, v_nx, v_end, v_asg, v_drop, v_ret, v_retN, v_raise, v_brk, v_cnt, v_if, v_iteT, v_iteF, v_asgG, v_nameG, v_consG, v_nilG, v_app, v_varP0, v_varPS, v_lstOf, v_set, v_for, v_outR, v_outX, v_outN, v_newF, v_outI, v_outIX, v_try, v_tryN, v_tryRt, v_divmod, v_dvm, v_tupRev, v_trev, v_lrev, v_lrevL, v_dnew, v_dnewT, v_din, v_dget, v_scalE, v_dlen, v_dlenT, v_dlenD, v_dlenTD, v_dgetI, v_dgetS, v_dput, divOk_of, smallI_of, intSz_of, lenSz_of, ok_bind, ex_bind, no_bind, bindS_ok, bindS_ex, ↓reduceIte, Option.bind_some, Int.reduceLT, Int.reduceLE, Nat.reduceLeDiff, Int.reduceNeg, Int.reduceEq, Bool.or_true, Bool.true_or, Bool.and_true, Bool.true_and, Bool.false_or, Bool.or_false, Bool.and_false, Bool.false_and, decide_true, decide_false, Bool.not_true, Bool.not_false, Bool.false_eq_true, List.length_map]
  refine wp_ite (Post := fun o => outF .F o = _) (fun h => ?_) (fun h => ?_)
  · have hk : k < ns.length := by simpa using h
    have e : atI (ns.map Dt.int) (k : Int) = some (.int ns[k]) := atI_nat (at_map (List.getElem?_eq_getElem hk))
    simp (implicitDefEqProofs := false) only [List.set_cons_zero, List.set_cons_succ, List.map_cons, List.map_nil, List.cons_append, List.nil_append, List.append_nil, List.replicate_succ, List.replicate_zero, Nat.reduceSub, List.length_cons, List.length_nil, Nat.reduceAdd, v_var0, v_varS, v_con, v_add, v_sub, v_mul, v_div, v_mod, v_pow, v_shl, v_lt, v_le, v_gt, v_ge, v_eq, v_ne, v_in, v_nin, v_ix, v_plus, v_cat, v_rep, v_isN, v_notN, v_len, v_neg, v_isi, v_list, v_tuple, v_tupleL, v_fld, v_fldI, v_all, v_any, v_sum, v_max2, v_min2, v_i2, v_addI, v_subI, v_mulL, v_mulR, v_divI, v_modI, v_ltI, v_leI, v_gtI, v_geI, v_negD, v_eqI, v_neI, v_eqB, v_neB, v_lenL, v_lenC, v_lenT, v_listL, v_listC, v_listT, v_tupL, v_tupC, v_tupT, v_tupLL, v_plusI, v_plusL, v_plusT, v_catL, v_slc, v_slcL, v_noPart, v_partO, v_asI, v_cutL, v_cutC, v_cutT, v_cutLL, v_cutLC, v_boolT, v_notT, v_andT, v_orT, v_yes, v_andE, v_orE, v_notE, v_ifE, v_andOk, v_orOk, v_andOkE, v_orOkE, v_isB, v_isI, v_isIB, v_eqS, v_neS, v_asB, v_args0, v_args1, v_tup, v_lst, v_call, v_callB, v_meth, v_methB, v_scal, v_scalI, v_scalB, v_scalS, v_scalN, v_rng1, v_rng2, v_rngD1, v_rngD2, v_seqI, v_tupI, v_seqL, v_seqC, v_seqT, v_seqQ, v_lenQ, v_tupQ, v_tupID, v_zipI, v_zipL, v_zipT, v_enumI, v_enumL, v_enumC, v_revI, v_revL, v_revT, v_comp, v_wipe0, v_wipe1, v_assoc, v_nx, v_end, v_asg, v_drop, v_ret, v_retN, v_raise, v_brk, v_cnt, v_if, v_iteT, v_iteF, v_asgG, v_nameG, v_consG, v_nilG, v_app, v_varP0, v_varPS, v_lstOf, v_set, v_for, v_outR, v_outX, v_outN, v_newF, v_outI, v_outIX, v_try, v_tryN, v_tryRt, v_divmod, v_dvm, v_tupRev, v_trev, v_lrev, v_lrevL, v_dnew, v_dnewT, v_din, v_dget, v_scalE, v_dlen, v_dlenT, v_dlenD, v_dlenTD, v_dgetI, v_dgetS, v_dput, divOk_of, smallI_of, intSz_of, lenSz_of, ok_bind, ex_bind, no_bind, bindS_ok, bindS_ex, ↓reduceIte, Option.bind_some, Int.reduceLT, Int.reduceLE, Nat.reduceLeDiff, Int.reduceNeg, Int.reduceEq, Bool.or_true, Bool.true_or, Bool.and_true, Bool.true_and, Bool.false_or, Bool.or_false, Bool.and_false, Bool.false_and, decide_true, decide_false, Bool.not_true, Bool.not_false, Bool.false_eq_true, v_ixC e]
    simp [List.getD, hk]
  · have hk : ns.length ≤ k := by simpa using h
    simp (implicitDefEqProofs := false) only [List.set_cons_zero, List.set_cons_succ, List.map_cons, List.map_nil, List.cons_append, List.nil_append, List.append_nil, List.replicate_succ, List.replicate_zero, Nat.reduceSub, List.length_cons, List.length_nil, Nat.reduceAdd, v_var0, v_varS, v_con, v_add, v_sub, v_mul, v_div, v_mod, v_pow, v_shl, v_lt, v_le, v_gt, v_ge, v_eq, v_ne, v_in, v_nin, v_ix, v_plus, v_cat, v_rep, v_isN, v_notN, v_len, v_neg, v_isi, v_list, v_tuple, v_tupleL, v_fld, v_fldI, v_all, v_any, v_sum, v_max2, v_min2, v_i2, v_addI, v_subI, v_mulL, v_mulR, v_divI, v_modI, v_ltI, v_leI, v_gtI, v_geI, v_negD, v_eqI, v_neI, v_eqB, v_neB, v_lenL, v_lenC, v_lenT, v_listL, v_listC, v_listT, v_tupL, v_tupC, v_tupT, v_tupLL, v_plusI, v_plusL, v_plusT, v_catL, v_slc, v_slcL, v_noPart, v_partO, v_asI, v_cutL, v_cutC, v_cutT, v_cutLL, v_cutLC, v_boolT, v_notT, v_andT, v_orT, v_yes, v_andE, v_orE, v_notE, v_ifE, v_andOk, v_orOk, v_andOkE, v_orOkE, v_isB, v_isI, v_isIB, v_eqS, v_neS, v_asB, v_args0, v_args1, v_tup, v_lst, v_call, v_callB, v_meth, v_methB, v_scal, v_scalI, v_scalB, v_scalS, v_scalN, v_rng1, v_rng2, v_rngD1, v_rngD2, v_seqI, v_tupI, v_seqL, v_seqC, v_seqT, v_seqQ, v_lenQ, v_tupQ, v_tupID, v_zipI, v_zipL, v_zipT, v_enumI, v_enumL, v_enumC, v_revI, v_revL, v_revT, v_comp, v_wipe0, v_wipe1, v_assoc, v_nx, v_end, v_asg, v_drop, v_ret, v_retN, v_raise, v_brk, v_cnt, v_if, v_iteT, v_iteF, v_asgG, v_nameG, v_consG, v_nilG, v_app, v_varP0, v_varPS, v_lstOf, v_set, v_for, v_outR, v_outX, v_outN, v_newF, v_outI, v_outIX, v_try, v_tryN, v_tryRt, v_divmod, v_dvm, v_tupRev, v_trev, v_lrev, v_lrevL, v_dnew, v_dnewT, v_din, v_dget, v_scalE, v_dlen, v_dlenT, v_dlenD, v_dlenTD, v_dgetI, v_dgetS, v_dput, divOk_of, smallI_of, intSz_of, lenSz_of, ok_bind, ex_bind, no_bind, bindS_ok, bindS_ex, ↓reduceIte, Option.bind_some, Int.reduceLT, Int.reduceLE, Nat.reduceLeDiff, Int.reduceNeg, Int.reduceEq, Bool.or_true, Bool.true_or, Bool.and_true, Bool.true_and, Bool.false_or, Bool.or_false, Bool.and_false, Bool.false_and, decide_true, decide_false, Bool.not_true, Bool.not_false, Bool.false_eq_true]
    simp [List.getD, hk]
theorem part_run (c : Int) (a : Nat) (ha : a ≤ 1000) : ∃ p : Int, 0 ≤ p ∧ p < 1000000 ∧ F__law_part [.int c, .int a] = .ok (.int p) := by
  rw [R__law_part]
  unfold Fb__law_part
  simp (decide := true) (implicitDefEqProofs := false) only [List.set_cons_zero, List.set_cons_succ, List.map_cons, List.map_nil, List.cons_append, List.nil_append, List.append_nil, List.replicate_succ, List.replicate_zero, Nat.reduceSub, List.length_cons, List.length_nil, Nat.reduceAdd, v_var0, v_varS, v_con, v_add, v_sub, v_mul, v_div, v_mod, v_pow, v_shl, v_lt, v_le, v_gt, v_ge, v_eq, v_ne, v_in, v_nin, v_ix, v_plus, v_cat, v_rep, v_isN, v_notN, v_len, v_neg, v_isi, v_list, v_tuple, v_tupleL, v_fld, v_fldI, v_all, v_any, v_sum, v_max2, v_min2, v_i2, v_addI, v_subI, v_mulL, v_mulR, v_divI, v_modI, v_ltI, v_leI, v_gtI, v_geI, v_negD, v_eqI, v_neI, v_eqB, v_neB, v_lenL, v_lenC, v_lenT, v_listL, v_listC, v_listT, v_tupL, v_tupC, v_tupT, v_tupLL, v_plusI, v_plusL, v_plusT, v_catL, v_slc, v_slcL, v_noPart, v_partO, v_asI, v_cutL, v_cutC, v_cutT, v_cutLL, v_cutLC, v_boolT, v_notT, v_andT, v_orT, v_yes, v_andE, v_orE, v_notE, v_ifE, v_andOk, v_orOk, v_andOkE, v_orOkE, v_isB, v_isI, v_isIB, v_eqS, v_neS, v_asB, v_args0, v_args1, v_tup, v_lst, v_call, v_callB, v_meth, v_methB, v_scal, v_scalI, v_scalB, v_scalS, v_scalN, v_rng1, v_rng2, v_rngD1, v_rngD2, v_seqI, v_tupI, v_seqL, v_seqC, v_seqT, v_seqQ, v_lenQ, v_tupQ, v_tupID, v_zipI, v_zipL, v_zipT, v_enumI, v_enumL, v_enumC, v_revI, v_revL, v_revT, v_comp, v_wipe0, v_wipe1, v_assoc, v_nx, v_end, v_asg, v_drop, v_ret, v_retN, v_raise, v_brk, v_cnt, v_if, v_iteT, v_iteF, v_asgG, v_nameG, v_consG, v_nilG, v_app, v_varP0, v_varPS, v_lstOf, v_set, v_for, v_outR, v_outX, v_outN, v_newF, v_outI, v_outIX, v_try, v_tryN, v_tryRt, v_divmod, v_dvm, v_tupRev, v_trev, v_lrev, v_lrevL, v_dnew, v_dnewT, v_din, v_dget, v_scalE, v_dlen, v_dlenT, v_dlenD, v_dlenTD, v_dgetI, v_dgetS, v_dput, divOk_of, smallI_of, intSz_of, lenSz_of, ok_bind, ex_bind, no_bind, bindS_ok, bindS_ex, ↓reduceIte, Option.bind_some, Int.reduceLT, Int.reduceLE, Nat.reduceLeDiff, Int.reduceNeg, Int.reduceEq, Bool.or_true, Bool.true_or, Bool.and_true, Bool.true_and, Bool.false_or, Bool.or_false, Bool.and_false, Bool.false_and, decide_true, decide_false, Bool.not_true, Bool.not_false, Bool.false_eq_true, v_rngD1 (intSz_of (a := (a : Int)) (by omega) (by omega))]
  refine wp_for (Post := fun o => ∃ p : Int, 0 ≤ p ∧ p < 1000000 ∧ outF .F o = .ok (.int p)) (fun _ ρ => ∃ c x, ρ = [some (.int c), some (.int a), x]) ⟨c, none, rfl⟩ ?_ ?_
  · rintro n d ρ hd ⟨c, x, rfl⟩
    refine ⟨_, v_nameG, ?_⟩
    simp (decide := true) (implicitDefEqProofs := false) only [List.set_cons_zero, List.set_cons_succ, List.map_cons, List.map_nil, List.cons_append, List.nil_append, List.append_nil, List.replicate_succ, List.replicate_zero, Nat.reduceSub, List.length_cons, List.length_nil, Nat.reduceAdd, v_var0, v_varS, v_con, v_add, v_sub, v_mul, v_div, v_mod, v_pow, v_shl, v_lt, v_le, v_gt, v_ge, v_eq, v_ne, v_in, v_nin, v_ix, v_plus, v_cat, v_rep, v_isN, v_notN, v_len, v_neg, v_isi, v_list, v_tuple, v_tupleL, v_fld, v_fldI, v_all, v_any, v_sum, v_max2, v_min2, v_i2, v_addI, v_subI, v_mulL, v_mulR, v_divI, v_modI, v_ltI, v_leI, v_gtI, v_geI, v_negD, v_eqI, v_neI, v_eqB, v_neB, v_lenL, v_lenC, v_lenT, v_listL, v_listC, v_listT, v_tupL, v_tupC, v_tupT, v_tupLL, v_plusI, v_plusL, v_plusT, v_catL, v_slc, v_slcL, v_noPart, v_partO, v_asI, v_cutL, v_cutC, v_cutT, v_cutLL, v_cutLC, v_boolT, v_notT, v_andT, v_orT, v_yes, v_andE, v_orE, v_notE, v_ifE, v_andOk, v_orOk, v_andOkE, v_orOkE, v_isB, v_isI, v_isIB, v_eqS, v_neS, v_asB, v_args0, v_args1, v_tup, v_lst, v_call, v_callB, v_meth, v_methB, v_scal, v_scalI, v_scalB, v_scalS, v_scalN, v_rng1, v_rng2, v_rngD1, v_rngD2, v_seqI, v_tupI, v_seqL, v_seqC, v_seqT, v_seqQ, v_lenQ, v_tupQ, v_tupID, v_zipI, v_zipL, v_zipT, v_enumI, v_enumL, v_enumC, v_revI, v_revL, v_revT, v_comp, v_wipe0, v_wipe1, v_assoc, v_nx, v_end, v_asg, v_drop, v_ret, v_retN, v_raise, v_brk, v_cnt, v_if, v_iteT, v_iteF, v_asgG, v_nameG, v_consG, v_nilG, v_app, v_varP0, v_varPS, v_lstOf, v_set, v_for, v_outR, v_outX, v_outN, v_newF, v_outI, v_outIX, v_try, v_tryN, v_tryRt, v_divmod, v_dvm, v_tupRev, v_trev, v_lrev, v_lrevL, v_dnew, v_dnewT, v_din, v_dget, v_scalE, v_dlen, v_dlenT, v_dlenD, v_dlenTD, v_dgetI, v_dgetS, v_dput, divOk_of, smallI_of, intSz_of, lenSz_of, ok_bind, ex_bind, no_bind, bindS_ok, bindS_ex, ↓reduceIte, Option.bind_some, Int.reduceLT, Int.reduceLE, Nat.reduceLeDiff, Int.reduceNeg, Int.reduceEq, Bool.or_true, Bool.true_or, Bool.and_true, Bool.true_and, Bool.false_or, Bool.or_false, Bool.and_false, Bool.false_and, decide_true, decide_false, Bool.not_true, Bool.not_false, Bool.false_eq_true]
    exact ⟨_, _, rfl⟩
  · rintro ρ ⟨c, x, rfl⟩
    simp (decide := true) (implicitDefEqProofs := false) only [List.set_cons_zero, List.set_cons_succ, List.map_cons, List.map_nil, List.cons_append, List.nil_append, List.append_nil, List.replicate_succ, List.replicate_zero, Nat.reduceSub, List.length_cons, List.length_nil, Nat.reduceAdd, v_var0, v_varS, v_con, v_add, v_sub, v_mul, v_div, v_mod, v_pow, v_shl, v_lt, v_le, v_gt, v_ge, v_eq, v_ne, v_in, v_nin, v_ix, v_plus, v_cat, v_rep, v_isN, v_notN, v_len, v_neg, v_isi, v_list, v_tuple, v_tupleL, v_fld, v_fldI, v_all, v_any, v_sum, v_max2, v_min2, v_i2, v_addI, v_subI, v_mulL, v_mulR, v_divI, v_modI, v_ltI, v_leI, v_gtI, v_geI, v_negD, v_eqI, v_neI, v_eqB, v_neB, v_lenL, v_lenC, v_lenT, v_listL, v_listC, v_listT, v_tupL, v_tupC, v_tupT, v_tupLL, v_plusI, v_plusL, v_plusT, v_catL, v_slc, v_slcL, v_noPart, v_partO, v_asI, v_cutL, v_cutC, v_cutT, v_cutLL, v_cutLC, v_boolT, v_notT, v_andT, v_orT, v_yes, v_andE, v_orE, v_notE, v_ifE, v_andOk, v_orOk, v_andOkE, v_orOkE, v_isB, v_isI, v_isIB, v_eqS, v_neS, v_asB, v_args0, v_args1, v_tup, v_lst, v_call, v_callB, v_meth, v_methB, v_scal, v_scalI, v_scalB, v_scalS, v_scalN, v_rng1, v_rng2, v_rngD1, v_rngD2, v_seqI, v_tupI, v_seqL, v_seqC, v_seqT, v_seqQ, v_lenQ, v_tupQ, v_tupID, v_zipI, v_zipL, v_zipT, v_enumI, v_enumL, v_enumC, v_revI, v_revL, v_revT, v_comp, v_wipe0, v_wipe1, v_assoc, v_nx, v_end, v_asg, v_drop, v_ret, v_retN, v_raise, v_brk, v_cnt, v_if, v_iteT, v_iteF, v_asgG, v_nameG, v_consG, v_nilG, v_app, v_varP0, v_varPS, v_lstOf, v_set, v_for, v_outR, v_outX, v_outN, v_newF, v_outI, v_outIX, v_try, v_tryN, v_tryRt, v_divmod, v_dvm, v_tupRev, v_trev, v_lrev, v_lrevL, v_dnew, v_dnewT, v_din, v_dget, v_scalE, v_dlen, v_dlenT, v_dlenD, v_dlenTD, v_dgetI, v_dgetS, v_dput, divOk_of, smallI_of, intSz_of, lenSz_of, ok_bind, ex_bind, no_bind, bindS_ok, bindS_ex, ↓reduceIte, Option.bind_some, Int.reduceLT, Int.reduceLE, Nat.reduceLeDiff, Int.reduceNeg, Int.reduceEq, Bool.or_true, Bool.true_or, Bool.and_true, Bool.true_and, Bool.false_or, Bool.or_false, Bool.and_false, Bool.false_and, decide_true, decide_false, Bool.not_true, Bool.not_false, Bool.false_eq_true]
    exact ⟨c % 1000000, by omega, by omega, rfl⟩
def FoldedP (many : Nat) (o : Ot) : Prop := ∃ cs : List Int, cs.length = many ∧ (∀ c ∈ cs, 0 ≤ c ∧ c < 1000000000039) ∧ outF .F o = .ok (.lst (cs.map .int))
theorem folded_run (ns : List Int) (many : Nat) (h0 : 0 < many) (h1 : many ≤ 1000) (hn : ns.length ≤ 63) : ∃ cs : List Int, cs.length = many ∧ (∀ c ∈ cs, 0 ≤ c ∧ c < 1000000000039) ∧ F__law_folded [.scr (ns.map .int), .int many] = .ok (.lst (cs.map .int)) := by
  rw [R__law_folded]
  unfold Fb__law_folded
  have hm : intSz (many : Int) = true := intSz_of (by omega) (by omega)
  have cz := cell_at_run ns 0
  rw [show ((0 : Nat) : Int) = 0 from rfl] at cz
  show FoldedP many _
  simp (decide := true) (implicitDefEqProofs := false) only [List.set_cons_zero, List.set_cons_succ, List.map_cons, List.map_nil, List.cons_append, List.nil_append, List.append_nil, List.replicate_succ, List.replicate_zero, Nat.reduceSub, List.length_cons, List.length_nil, Nat.reduceAdd, v_var0, v_varS, v_con, v_add, v_sub, v_mul, v_div, v_mod, v_pow, v_shl, v_lt, v_le, v_gt, v_ge, v_eq, v_ne, v_in, v_nin, v_ix, v_plus, v_cat, v_rep, v_isN, v_notN, v_len, v_neg, v_isi, v_list, v_tuple, v_tupleL, v_fld, v_fldI, v_all, v_any, v_sum, v_max2, v_min2, v_i2, v_addI, v_subI, v_mulL, v_mulR, v_divI, v_modI, v_ltI, v_leI, v_gtI, v_geI, v_negD, v_eqI, v_neI, v_eqB, v_neB, v_lenL, v_lenC, v_lenT, v_listL, v_listC, v_listT, v_tupL, v_tupC, v_tupT, v_tupLL, v_plusI, v_plusL, v_plusT, v_catL, v_slc, v_slcL, v_noPart, v_partO, v_asI, v_cutL, v_cutC, v_cutT, v_cutLL, v_cutLC, v_boolT, v_notT, v_andT, v_orT, v_yes, v_andE, v_orE, v_notE, v_ifE, v_andOk, v_orOk, v_andOkE, v_orOkE, v_isB, v_isI, v_isIB, v_eqS, v_neS, v_asB, v_args0, v_args1, v_tup, v_lst, v_call, v_callB, v_meth, v_methB, v_scal, v_scalI, v_scalB, v_scalS, v_scalN, v_rng1, v_rng2, v_rngD1, v_rngD2, v_seqI, v_tupI, v_seqL, v_seqC, v_seqT, v_seqQ, v_lenQ, v_tupQ, v_tupID, v_zipI, v_zipL, v_zipT, v_enumI, v_enumL, v_enumC, v_revI, v_revL, v_revT, v_comp, v_wipe0, v_wipe1, v_assoc, v_nx, v_end, v_asg, v_drop, v_ret, v_retN, v_raise, v_brk, v_cnt, v_if, v_iteT, v_iteF, v_asgG, v_nameG, v_consG, v_nilG, v_app, v_varP0, v_varPS, v_lstOf, v_set, v_for, v_outR, v_outX, v_outN, v_newF, v_outI, v_outIX, v_try, v_tryN, v_tryRt, v_divmod, v_dvm, v_tupRev, v_trev, v_lrev, v_lrevL, v_dnew, v_dnewT, v_din, v_dget, v_scalE, v_dlen, v_dlenT, v_dlenD, v_dlenTD, v_dgetI, v_dgetS, v_dput, divOk_of, smallI_of, intSz_of, lenSz_of, ok_bind, ex_bind, no_bind, bindS_ok, bindS_ex, ↓reduceIte, Option.bind_some, Int.reduceLT, Int.reduceLE, Nat.reduceLeDiff, Int.reduceNeg, Int.reduceEq, Bool.or_true, Bool.true_or, Bool.and_true, Bool.true_and, Bool.false_or, Bool.or_false, Bool.and_false, Bool.false_and, decide_true, decide_false, Bool.not_true, Bool.not_false, Bool.false_eq_true, cz, v_rngD1 hm]
  refine wp_ite (fun _ => ?_) (fun _ => ?_)
  · simp (decide := true) (implicitDefEqProofs := false) only [List.set_cons_zero, List.set_cons_succ, List.map_cons, List.map_nil, List.cons_append, List.nil_append, List.append_nil, List.replicate_succ, List.replicate_zero, Nat.reduceSub, List.length_cons, List.length_nil, Nat.reduceAdd, v_var0, v_varS, v_con, v_add, v_sub, v_mul, v_div, v_mod, v_pow, v_shl, v_lt, v_le, v_gt, v_ge, v_eq, v_ne, v_in, v_nin, v_ix, v_plus, v_cat, v_rep, v_isN, v_notN, v_len, v_neg, v_isi, v_list, v_tuple, v_tupleL, v_fld, v_fldI, v_all, v_any, v_sum, v_max2, v_min2, v_i2, v_addI, v_subI, v_mulL, v_mulR, v_divI, v_modI, v_ltI, v_leI, v_gtI, v_geI, v_negD, v_eqI, v_neI, v_eqB, v_neB, v_lenL, v_lenC, v_lenT, v_listL, v_listC, v_listT, v_tupL, v_tupC, v_tupT, v_tupLL, v_plusI, v_plusL, v_plusT, v_catL, v_slc, v_slcL, v_noPart, v_partO, v_asI, v_cutL, v_cutC, v_cutT, v_cutLL, v_cutLC, v_boolT, v_notT, v_andT, v_orT, v_yes, v_andE, v_orE, v_notE, v_ifE, v_andOk, v_orOk, v_andOkE, v_orOkE, v_isB, v_isI, v_isIB, v_eqS, v_neS, v_asB, v_args0, v_args1, v_tup, v_lst, v_call, v_callB, v_meth, v_methB, v_scal, v_scalI, v_scalB, v_scalS, v_scalN, v_rng1, v_rng2, v_rngD1, v_rngD2, v_seqI, v_tupI, v_seqL, v_seqC, v_seqT, v_seqQ, v_lenQ, v_tupQ, v_tupID, v_zipI, v_zipL, v_zipT, v_enumI, v_enumL, v_enumC, v_revI, v_revL, v_revT, v_comp, v_wipe0, v_wipe1, v_assoc, v_nx, v_end, v_asg, v_drop, v_ret, v_retN, v_raise, v_brk, v_cnt, v_if, v_iteT, v_iteF, v_asgG, v_nameG, v_consG, v_nilG, v_app, v_varP0, v_varPS, v_lstOf, v_set, v_for, v_outR, v_outX, v_outN, v_newF, v_outI, v_outIX, v_try, v_tryN, v_tryRt, v_divmod, v_dvm, v_tupRev, v_trev, v_lrev, v_lrevL, v_dnew, v_dnewT, v_din, v_dget, v_scalE, v_dlen, v_dlenT, v_dlenD, v_dlenTD, v_dgetI, v_dgetS, v_dput, divOk_of, smallI_of, intSz_of, lenSz_of, ok_bind, ex_bind, no_bind, bindS_ok, bindS_ex, ↓reduceIte, Option.bind_some, Int.reduceLT, Int.reduceLE, Nat.reduceLeDiff, Int.reduceNeg, Int.reduceEq, Bool.or_true, Bool.true_or, Bool.and_true, Bool.true_and, Bool.false_or, Bool.or_false, Bool.and_false, Bool.false_and, decide_true, decide_false, Bool.not_true, Bool.not_false, Bool.false_eq_true, v_rngD1 hm]
    refine wp_comp1 (List.range (many : Int).toNat) _ Dt.int (fun _ b => 0 ≤ b ∧ b < 1000000000039) rangeL0_map (lenSz_of (by simp; omega)) (fun x hx => ?_) (fun cs q1 q2 => ?_)
    · have hx : x < many := by simpa using hx
      obtain ⟨p, p1, p2, p3⟩ := part_run (ns.getD (1 + x % 16) 0) (x / 16) (by omega)
      have c1 := cell_at_run ns (1 + x % 16)
      refine ⟨_, p, v_nameG, ?_, by omega, by omega⟩
      have e1 : (1 + (x : Int) % 16) = ((1 + x % 16 : Nat) : Int) := by omega
      have e2 : (x : Int) / 16 = ((x / 16 : Nat) : Int) := by omega
      simp (decide := true) (implicitDefEqProofs := false) only [List.set_cons_zero, List.set_cons_succ, List.map_cons, List.map_nil, List.cons_append, List.nil_append, List.append_nil, List.replicate_succ, List.replicate_zero, Nat.reduceSub, List.length_cons, List.length_nil, Nat.reduceAdd, v_var0, v_varS, v_con, v_add, v_sub, v_mul, v_div, v_mod, v_pow, v_shl, v_lt, v_le, v_gt, v_ge, v_eq, v_ne, v_in, v_nin, v_ix, v_plus, v_cat, v_rep, v_isN, v_notN, v_len, v_neg, v_isi, v_list, v_tuple, v_tupleL, v_fld, v_fldI, v_all, v_any, v_sum, v_max2, v_min2, v_i2, v_addI, v_subI, v_mulL, v_mulR, v_divI, v_modI, v_ltI, v_leI, v_gtI, v_geI, v_negD, v_eqI, v_neI, v_eqB, v_neB, v_lenL, v_lenC, v_lenT, v_listL, v_listC, v_listT, v_tupL, v_tupC, v_tupT, v_tupLL, v_plusI, v_plusL, v_plusT, v_catL, v_slc, v_slcL, v_noPart, v_partO, v_asI, v_cutL, v_cutC, v_cutT, v_cutLL, v_cutLC, v_boolT, v_notT, v_andT, v_orT, v_yes, v_andE, v_orE, v_notE, v_ifE, v_andOk, v_orOk, v_andOkE, v_orOkE, v_isB, v_isI, v_isIB, v_eqS, v_neS, v_asB, v_args0, v_args1, v_tup, v_lst, v_call, v_callB, v_meth, v_methB, v_scal, v_scalI, v_scalB, v_scalS, v_scalN, v_rng1, v_rng2, v_rngD1, v_rngD2, v_seqI, v_tupI, v_seqL, v_seqC, v_seqT, v_seqQ, v_lenQ, v_tupQ, v_tupID, v_zipI, v_zipL, v_zipT, v_enumI, v_enumL, v_enumC, v_revI, v_revL, v_revT, v_comp, v_wipe0, v_wipe1, v_assoc, v_nx, v_end, v_asg, v_drop, v_ret, v_retN, v_raise, v_brk, v_cnt, v_if, v_iteT, v_iteF, v_asgG, v_nameG, v_consG, v_nilG, v_app, v_varP0, v_varPS, v_lstOf, v_set, v_for, v_outR, v_outX, v_outN, v_newF, v_outI, v_outIX, v_try, v_tryN, v_tryRt, v_divmod, v_dvm, v_tupRev, v_trev, v_lrev, v_lrevL, v_dnew, v_dnewT, v_din, v_dget, v_scalE, v_dlen, v_dlenT, v_dlenD, v_dlenTD, v_dgetI, v_dgetS, v_dput, divOk_of, smallI_of, intSz_of, lenSz_of, ok_bind, ex_bind, no_bind, bindS_ok, bindS_ex, ↓reduceIte, Option.bind_some, Int.reduceLT, Int.reduceLE, Nat.reduceLeDiff, Int.reduceNeg, Int.reduceEq, Bool.or_true, Bool.true_or, Bool.and_true, Bool.true_and, Bool.false_or, Bool.or_false, Bool.and_false, Bool.false_and, decide_true, decide_false, Bool.not_true, Bool.not_false, Bool.false_eq_true, e1, e2, c1, p3]
    · exact ⟨cs, by simpa using q1, all_of q1 q2 fun _ _ q => q, rfl⟩
  · simp (decide := true) (implicitDefEqProofs := false) only [List.set_cons_zero, List.set_cons_succ, List.map_cons, List.map_nil, List.cons_append, List.nil_append, List.append_nil, List.replicate_succ, List.replicate_zero, Nat.reduceSub, List.length_cons, List.length_nil, Nat.reduceAdd, v_var0, v_varS, v_con, v_add, v_sub, v_mul, v_div, v_mod, v_pow, v_shl, v_lt, v_le, v_gt, v_ge, v_eq, v_ne, v_in, v_nin, v_ix, v_plus, v_cat, v_rep, v_isN, v_notN, v_len, v_neg, v_isi, v_list, v_tuple, v_tupleL, v_fld, v_fldI, v_all, v_any, v_sum, v_max2, v_min2, v_i2, v_addI, v_subI, v_mulL, v_mulR, v_divI, v_modI, v_ltI, v_leI, v_gtI, v_geI, v_negD, v_eqI, v_neI, v_eqB, v_neB, v_lenL, v_lenC, v_lenT, v_listL, v_listC, v_listT, v_tupL, v_tupC, v_tupT, v_tupLL, v_plusI, v_plusL, v_plusT, v_catL, v_slc, v_slcL, v_noPart, v_partO, v_asI, v_cutL, v_cutC, v_cutT, v_cutLL, v_cutLC, v_boolT, v_notT, v_andT, v_orT, v_yes, v_andE, v_orE, v_notE, v_ifE, v_andOk, v_orOk, v_andOkE, v_orOkE, v_isB, v_isI, v_isIB, v_eqS, v_neS, v_asB, v_args0, v_args1, v_tup, v_lst, v_call, v_callB, v_meth, v_methB, v_scal, v_scalI, v_scalB, v_scalS, v_scalN, v_rng1, v_rng2, v_rngD1, v_rngD2, v_seqI, v_tupI, v_seqL, v_seqC, v_seqT, v_seqQ, v_lenQ, v_tupQ, v_tupID, v_zipI, v_zipL, v_zipT, v_enumI, v_enumL, v_enumC, v_revI, v_revL, v_revT, v_comp, v_wipe0, v_wipe1, v_assoc, v_nx, v_end, v_asg, v_drop, v_ret, v_retN, v_raise, v_brk, v_cnt, v_if, v_iteT, v_iteF, v_asgG, v_nameG, v_consG, v_nilG, v_app, v_varP0, v_varPS, v_lstOf, v_set, v_for, v_outR, v_outX, v_outN, v_newF, v_outI, v_outIX, v_try, v_tryN, v_tryRt, v_divmod, v_dvm, v_tupRev, v_trev, v_lrev, v_lrevL, v_dnew, v_dnewT, v_din, v_dget, v_scalE, v_dlen, v_dlenT, v_dlenD, v_dlenTD, v_dgetI, v_dgetS, v_dput, divOk_of, smallI_of, intSz_of, lenSz_of, ok_bind, ex_bind, no_bind, bindS_ok, bindS_ex, ↓reduceIte, Option.bind_some, Int.reduceLT, Int.reduceLE, Nat.reduceLeDiff, Int.reduceNeg, Int.reduceEq, Bool.or_true, Bool.true_or, Bool.and_true, Bool.true_and, Bool.false_or, Bool.or_false, Bool.and_false, Bool.false_and, decide_true, decide_false, Bool.not_true, Bool.not_false, Bool.false_eq_true, v_rngD1 hm]
    refine wp_for (fun _ ρ => ∃ (st : Int) (x : Option Dt), 0 ≤ st ∧ st < 1000000000039 ∧ ρ = [some (.scr (ns.map .int)), some (.int many), some (.int st), x, none, none, none]) ⟨7, none, by omega, by omega, rfl⟩ ?_ ?_
    · rintro n d ρ hd ⟨st, x, s1, s2, rfl⟩
      obtain ⟨c, _, rfl⟩ := of_at_map hd
      refine ⟨_, v_nameG, ?_⟩
      simp (decide := true) (implicitDefEqProofs := false) only [List.set_cons_zero, List.set_cons_succ, List.map_cons, List.map_nil, List.cons_append, List.nil_append, List.append_nil, List.replicate_succ, List.replicate_zero, Nat.reduceSub, List.length_cons, List.length_nil, Nat.reduceAdd, v_var0, v_varS, v_con, v_add, v_sub, v_mul, v_div, v_mod, v_pow, v_shl, v_lt, v_le, v_gt, v_ge, v_eq, v_ne, v_in, v_nin, v_ix, v_plus, v_cat, v_rep, v_isN, v_notN, v_len, v_neg, v_isi, v_list, v_tuple, v_tupleL, v_fld, v_fldI, v_all, v_any, v_sum, v_max2, v_min2, v_i2, v_addI, v_subI, v_mulL, v_mulR, v_divI, v_modI, v_ltI, v_leI, v_gtI, v_geI, v_negD, v_eqI, v_neI, v_eqB, v_neB, v_lenL, v_lenC, v_lenT, v_listL, v_listC, v_listT, v_tupL, v_tupC, v_tupT, v_tupLL, v_plusI, v_plusL, v_plusT, v_catL, v_slc, v_slcL, v_noPart, v_partO, v_asI, v_cutL, v_cutC, v_cutT, v_cutLL, v_cutLC, v_boolT, v_notT, v_andT, v_orT, v_yes, v_andE, v_orE, v_notE, v_ifE, v_andOk, v_orOk, v_andOkE, v_orOkE, v_isB, v_isI, v_isIB, v_eqS, v_neS, v_asB, v_args0, v_args1, v_tup, v_lst, v_call, v_callB, v_meth, v_methB, v_scal, v_scalI, v_scalB, v_scalS, v_scalN, v_rng1, v_rng2, v_rngD1, v_rngD2, v_seqI, v_tupI, v_seqL, v_seqC, v_seqT, v_seqQ, v_lenQ, v_tupQ, v_tupID, v_zipI, v_zipL, v_zipT, v_enumI, v_enumL, v_enumC, v_revI, v_revL, v_revT, v_comp, v_wipe0, v_wipe1, v_assoc, v_nx, v_end, v_asg, v_drop, v_ret, v_retN, v_raise, v_brk, v_cnt, v_if, v_iteT, v_iteF, v_asgG, v_nameG, v_consG, v_nilG, v_app, v_varP0, v_varPS, v_lstOf, v_set, v_for, v_outR, v_outX, v_outN, v_newF, v_outI, v_outIX, v_try, v_tryN, v_tryRt, v_divmod, v_dvm, v_tupRev, v_trev, v_lrev, v_lrevL, v_dnew, v_dnewT, v_din, v_dget, v_scalE, v_dlen, v_dlenT, v_dlenD, v_dlenTD, v_dgetI, v_dgetS, v_dput, divOk_of, smallI_of, intSz_of, lenSz_of, ok_bind, ex_bind, no_bind, bindS_ok, bindS_ex, ↓reduceIte, Option.bind_some, Int.reduceLT, Int.reduceLE, Nat.reduceLeDiff, Int.reduceNeg, Int.reduceEq, Bool.or_true, Bool.true_or, Bool.and_true, Bool.true_and, Bool.false_or, Bool.or_false, Bool.and_false, Bool.false_and, decide_true, decide_false, Bool.not_true, Bool.not_false, Bool.false_eq_true, v_mulL (smallI_of (a := st) (by omega) (by omega))]
      exact ⟨_, _, Int.emod_nonneg _ (by decide), Int.emod_lt_of_pos _ (by decide), rfl⟩
    rintro ρ ⟨st, x, s1, s2, rfl⟩
    simp (decide := true) (implicitDefEqProofs := false) only [List.set_cons_zero, List.set_cons_succ, List.map_cons, List.map_nil, List.cons_append, List.nil_append, List.append_nil, List.replicate_succ, List.replicate_zero, Nat.reduceSub, List.length_cons, List.length_nil, Nat.reduceAdd, v_var0, v_varS, v_con, v_add, v_sub, v_mul, v_div, v_mod, v_pow, v_shl, v_lt, v_le, v_gt, v_ge, v_eq, v_ne, v_in, v_nin, v_ix, v_plus, v_cat, v_rep, v_isN, v_notN, v_len, v_neg, v_isi, v_list, v_tuple, v_tupleL, v_fld, v_fldI, v_all, v_any, v_sum, v_max2, v_min2, v_i2, v_addI, v_subI, v_mulL, v_mulR, v_divI, v_modI, v_ltI, v_leI, v_gtI, v_geI, v_negD, v_eqI, v_neI, v_eqB, v_neB, v_lenL, v_lenC, v_lenT, v_listL, v_listC, v_listT, v_tupL, v_tupC, v_tupT, v_tupLL, v_plusI, v_plusL, v_plusT, v_catL, v_slc, v_slcL, v_noPart, v_partO, v_asI, v_cutL, v_cutC, v_cutT, v_cutLL, v_cutLC, v_boolT, v_notT, v_andT, v_orT, v_yes, v_andE, v_orE, v_notE, v_ifE, v_andOk, v_orOk, v_andOkE, v_orOkE, v_isB, v_isI, v_isIB, v_eqS, v_neS, v_asB, v_args0, v_args1, v_tup, v_lst, v_call, v_callB, v_meth, v_methB, v_scal, v_scalI, v_scalB, v_scalS, v_scalN, v_rng1, v_rng2, v_rngD1, v_rngD2, v_seqI, v_tupI, v_seqL, v_seqC, v_seqT, v_seqQ, v_lenQ, v_tupQ, v_tupID, v_zipI, v_zipL, v_zipT, v_enumI, v_enumL, v_enumC, v_revI, v_revL, v_revT, v_comp, v_wipe0, v_wipe1, v_assoc, v_nx, v_end, v_asg, v_drop, v_ret, v_retN, v_raise, v_brk, v_cnt, v_if, v_iteT, v_iteF, v_asgG, v_nameG, v_consG, v_nilG, v_app, v_varP0, v_varPS, v_lstOf, v_set, v_for, v_outR, v_outX, v_outN, v_newF, v_outI, v_outIX, v_try, v_tryN, v_tryRt, v_divmod, v_dvm, v_tupRev, v_trev, v_lrev, v_lrevL, v_dnew, v_dnewT, v_din, v_dget, v_scalE, v_dlen, v_dlenT, v_dlenD, v_dlenTD, v_dgetI, v_dgetS, v_dput, divOk_of, smallI_of, intSz_of, lenSz_of, ok_bind, ex_bind, no_bind, bindS_ok, bindS_ex, ↓reduceIte, Option.bind_some, Int.reduceLT, Int.reduceLE, Nat.reduceLeDiff, Int.reduceNeg, Int.reduceEq, Bool.or_true, Bool.true_or, Bool.and_true, Bool.true_and, Bool.false_or, Bool.or_false, Bool.and_false, Bool.false_and, decide_true, decide_false, Bool.not_true, Bool.not_false, Bool.false_eq_true, v_rngD1 hm]
    refine wp_for (fun n ρ => ∃ (st : Int) (y : Option Dt) (cs : List Int), cs.length = n ∧ (∀ c ∈ cs, 0 ≤ c ∧ c < 1000000000039) ∧ 0 ≤ st ∧ st < 1000000000039 ∧ ρ = [some (.scr (ns.map .int)), some (.int many), some (.int st), x, some (.lst (cs.map .int)), y, none]) ⟨st, none, [], rfl, by simp, by omega, by omega, rfl⟩ ?_ ?_
    · rintro n d ρ hd ⟨st, y, cs, l1, l2, s1, s2, rfl⟩
      obtain ⟨hk, rfl⟩ := rangeL0_at hd
      refine ⟨_, v_nameG, ?_⟩
      simp (decide := true) (implicitDefEqProofs := false) only [List.set_cons_zero, List.set_cons_succ, List.map_cons, List.map_nil, List.cons_append, List.nil_append, List.append_nil, List.replicate_succ, List.replicate_zero, Nat.reduceSub, List.length_cons, List.length_nil, Nat.reduceAdd, v_var0, v_varS, v_con, v_add, v_sub, v_mul, v_div, v_mod, v_pow, v_shl, v_lt, v_le, v_gt, v_ge, v_eq, v_ne, v_in, v_nin, v_ix, v_plus, v_cat, v_rep, v_isN, v_notN, v_len, v_neg, v_isi, v_list, v_tuple, v_tupleL, v_fld, v_fldI, v_all, v_any, v_sum, v_max2, v_min2, v_i2, v_addI, v_subI, v_mulL, v_mulR, v_divI, v_modI, v_ltI, v_leI, v_gtI, v_geI, v_negD, v_eqI, v_neI, v_eqB, v_neB, v_lenL, v_lenC, v_lenT, v_listL, v_listC, v_listT, v_tupL, v_tupC, v_tupT, v_tupLL, v_plusI, v_plusL, v_plusT, v_catL, v_slc, v_slcL, v_noPart, v_partO, v_asI, v_cutL, v_cutC, v_cutT, v_cutLL, v_cutLC, v_boolT, v_notT, v_andT, v_orT, v_yes, v_andE, v_orE, v_notE, v_ifE, v_andOk, v_orOk, v_andOkE, v_orOkE, v_isB, v_isI, v_isIB, v_eqS, v_neS, v_asB, v_args0, v_args1, v_tup, v_lst, v_call, v_callB, v_meth, v_methB, v_scal, v_scalI, v_scalB, v_scalS, v_scalN, v_rng1, v_rng2, v_rngD1, v_rngD2, v_seqI, v_tupI, v_seqL, v_seqC, v_seqT, v_seqQ, v_lenQ, v_tupQ, v_tupID, v_zipI, v_zipL, v_zipT, v_enumI, v_enumL, v_enumC, v_revI, v_revL, v_revT, v_comp, v_wipe0, v_wipe1, v_assoc, v_nx, v_end, v_asg, v_drop, v_ret, v_retN, v_raise, v_brk, v_cnt, v_if, v_iteT, v_iteF, v_asgG, v_nameG, v_consG, v_nilG, v_app, v_varP0, v_varPS, v_lstOf, v_set, v_for, v_outR, v_outX, v_outN, v_newF, v_outI, v_outIX, v_try, v_tryN, v_tryRt, v_divmod, v_dvm, v_tupRev, v_trev, v_lrev, v_lrevL, v_dnew, v_dnewT, v_din, v_dget, v_scalE, v_dlen, v_dlenT, v_dlenD, v_dlenTD, v_dgetI, v_dgetS, v_dput, divOk_of, smallI_of, intSz_of, lenSz_of, ok_bind, ex_bind, no_bind, bindS_ok, bindS_ex, ↓reduceIte, Option.bind_some, Int.reduceLT, Int.reduceLE, Nat.reduceLeDiff, Int.reduceNeg, Int.reduceEq, Bool.or_true, Bool.true_or, Bool.and_true, Bool.true_and, Bool.false_or, Bool.or_false, Bool.and_false, Bool.false_and, decide_true, decide_false, Bool.not_true, Bool.not_false, Bool.false_eq_true, v_mulL (smallI_of (a := st) (by omega) (by omega)), v_appR (ds := cs.map Dt.int) (lenSz_of (by simp; omega))]
      refine ⟨_, _, cs ++ [(st * st + 48271 * (n : Int) + 11) % 1000000000039], by simp [l1], ?_, Int.emod_nonneg _ (by decide), Int.emod_lt_of_pos _ (by decide), by rw [List.map_append]; rfl⟩
      intro c hc
      rcases List.mem_append.mp hc with hc | hc
      · exact l2 c hc
      · rw [List.mem_singleton.mp hc]
        exact ⟨Int.emod_nonneg _ (by decide), Int.emod_lt_of_pos _ (by decide)⟩
    rintro ρ ⟨st, y, cs, l1, l2, s1, s2, rfl⟩
    rw [rangeL_len] at l1
    simp (decide := true) (implicitDefEqProofs := false) only [List.set_cons_zero, List.set_cons_succ, List.map_cons, List.map_nil, List.cons_append, List.nil_append, List.append_nil, List.replicate_succ, List.replicate_zero, Nat.reduceSub, List.length_cons, List.length_nil, Nat.reduceAdd, v_var0, v_varS, v_con, v_add, v_sub, v_mul, v_div, v_mod, v_pow, v_shl, v_lt, v_le, v_gt, v_ge, v_eq, v_ne, v_in, v_nin, v_ix, v_plus, v_cat, v_rep, v_isN, v_notN, v_len, v_neg, v_isi, v_list, v_tuple, v_tupleL, v_fld, v_fldI, v_all, v_any, v_sum, v_max2, v_min2, v_i2, v_addI, v_subI, v_mulL, v_mulR, v_divI, v_modI, v_ltI, v_leI, v_gtI, v_geI, v_negD, v_eqI, v_neI, v_eqB, v_neB, v_lenL, v_lenC, v_lenT, v_listL, v_listC, v_listT, v_tupL, v_tupC, v_tupT, v_tupLL, v_plusI, v_plusL, v_plusT, v_catL, v_slc, v_slcL, v_noPart, v_partO, v_asI, v_cutL, v_cutC, v_cutT, v_cutLL, v_cutLC, v_boolT, v_notT, v_andT, v_orT, v_yes, v_andE, v_orE, v_notE, v_ifE, v_andOk, v_orOk, v_andOkE, v_orOkE, v_isB, v_isI, v_isIB, v_eqS, v_neS, v_asB, v_args0, v_args1, v_tup, v_lst, v_call, v_callB, v_meth, v_methB, v_scal, v_scalI, v_scalB, v_scalS, v_scalN, v_rng1, v_rng2, v_rngD1, v_rngD2, v_seqI, v_tupI, v_seqL, v_seqC, v_seqT, v_seqQ, v_lenQ, v_tupQ, v_tupID, v_zipI, v_zipL, v_zipT, v_enumI, v_enumL, v_enumC, v_revI, v_revL, v_revT, v_comp, v_wipe0, v_wipe1, v_assoc, v_nx, v_end, v_asg, v_drop, v_ret, v_retN, v_raise, v_brk, v_cnt, v_if, v_iteT, v_iteF, v_asgG, v_nameG, v_consG, v_nilG, v_app, v_varP0, v_varPS, v_lstOf, v_set, v_for, v_outR, v_outX, v_outN, v_newF, v_outI, v_outIX, v_try, v_tryN, v_tryRt, v_divmod, v_dvm, v_tupRev, v_trev, v_lrev, v_lrevL, v_dnew, v_dnewT, v_din, v_dget, v_scalE, v_dlen, v_dlenT, v_dlenD, v_dlenTD, v_dgetI, v_dgetS, v_dput, divOk_of, smallI_of, intSz_of, lenSz_of, ok_bind, ex_bind, no_bind, bindS_ok, bindS_ex, ↓reduceIte, Option.bind_some, Int.reduceLT, Int.reduceLE, Nat.reduceLeDiff, Int.reduceNeg, Int.reduceEq, Bool.or_true, Bool.true_or, Bool.and_true, Bool.true_and, Bool.false_or, Bool.or_false, Bool.and_false, Bool.false_and, decide_true, decide_false, Bool.not_true, Bool.not_false, Bool.false_eq_true, List.length_map, v_rngD1 (intSz_of (a := (ns.length : Int)) (by omega) (by omega))]
    refine wp_for (fun n ρ => ∃ (y z : Option Dt) (cs : List Int), cs.length = many ∧ (∀ c ∈ cs, 0 ≤ c ∧ c < 1000000000039) ∧ ρ = [some (.scr (ns.map .int)), some (.int many), some (.int st), x, some (.lst (cs.map .int)), y, z]) ⟨y, none, cs, by omega, l2, rfl⟩ ?_ ?_
    · rintro n d ρ hd ⟨y, z, cs, l1, l2, rfl⟩
      obtain ⟨hk, rfl⟩ := rangeL0_at hd
      have hk : n < ns.length := by omega
      refine ⟨_, v_nameG, ?_⟩
      have e1 : (n : Int) % (many : Int) = ((n % many : Nat) : Int) := rfl
      have hlt := Nat.mod_lt n h0
      obtain ⟨c, hc, _⟩ := at_of_lt (xs := cs) (k := n % many) (by omega)
      obtain ⟨v, hv, _⟩ := at_of_lt (xs := ns) (k := n) hk
      simp (decide := true) (implicitDefEqProofs := false) only [List.set_cons_zero, List.set_cons_succ, List.map_cons, List.map_nil, List.cons_append, List.nil_append, List.append_nil, List.replicate_succ, List.replicate_zero, Nat.reduceSub, List.length_cons, List.length_nil, Nat.reduceAdd, v_var0, v_varS, v_con, v_add, v_sub, v_mul, v_div, v_mod, v_pow, v_shl, v_lt, v_le, v_gt, v_ge, v_eq, v_ne, v_in, v_nin, v_ix, v_plus, v_cat, v_rep, v_isN, v_notN, v_len, v_neg, v_isi, v_list, v_tuple, v_tupleL, v_fld, v_fldI, v_all, v_any, v_sum, v_max2, v_min2, v_i2, v_addI, v_subI, v_mulL, v_mulR, v_divI, v_modI, v_ltI, v_leI, v_gtI, v_geI, v_negD, v_eqI, v_neI, v_eqB, v_neB, v_lenL, v_lenC, v_lenT, v_listL, v_listC, v_listT, v_tupL, v_tupC, v_tupT, v_tupLL, v_plusI, v_plusL, v_plusT, v_catL, v_slc, v_slcL, v_noPart, v_partO, v_asI, v_cutL, v_cutC, v_cutT, v_cutLL, v_cutLC, v_boolT, v_notT, v_andT, v_orT, v_yes, v_andE, v_orE, v_notE, v_ifE, v_andOk, v_orOk, v_andOkE, v_orOkE, v_isB, v_isI, v_isIB, v_eqS, v_neS, v_asB, v_args0, v_args1, v_tup, v_lst, v_call, v_callB, v_meth, v_methB, v_scal, v_scalI, v_scalB, v_scalS, v_scalN, v_rng1, v_rng2, v_rngD1, v_rngD2, v_seqI, v_tupI, v_seqL, v_seqC, v_seqT, v_seqQ, v_lenQ, v_tupQ, v_tupID, v_zipI, v_zipL, v_zipT, v_enumI, v_enumL, v_enumC, v_revI, v_revL, v_revT, v_comp, v_wipe0, v_wipe1, v_assoc, v_nx, v_end, v_asg, v_drop, v_ret, v_retN, v_raise, v_brk, v_cnt, v_if, v_iteT, v_iteF, v_asgG, v_nameG, v_consG, v_nilG, v_app, v_varP0, v_varPS, v_lstOf, v_set, v_for, v_outR, v_outX, v_outN, v_newF, v_outI, v_outIX, v_try, v_tryN, v_tryRt, v_divmod, v_dvm, v_tupRev, v_trev, v_lrev, v_lrevL, v_dnew, v_dnewT, v_din, v_dget, v_scalE, v_dlen, v_dlenT, v_dlenD, v_dlenTD, v_dgetI, v_dgetS, v_dput, divOk_of, smallI_of, intSz_of, lenSz_of, ok_bind, ex_bind, no_bind, bindS_ok, bindS_ex, ↓reduceIte, Option.bind_some, Int.reduceLT, Int.reduceLE, Nat.reduceLeDiff, Int.reduceNeg, Int.reduceEq, Bool.or_true, Bool.true_or, Bool.and_true, Bool.true_and, Bool.false_or, Bool.or_false, Bool.and_false, Bool.false_and, decide_true, decide_false, Bool.not_true, Bool.not_false, Bool.false_eq_true, v_modI (a := (n : Int)) (b := (many : Int)) (by omega), e1, v_ixL (atI_nat (at_map hc)), v_ixC (atI_nat (at_map (f := Dt.int) hv)), v_setR (ds := cs.map Dt.int) (k := n % many) (by rw [List.length_map, l1]; exact hlt)]
      refine ⟨_, _, cs.set (n % many) ((c * 131 + v) % 1000000000039), by rw [List.length_set]; exact l1, fun b hb => ?_, by rw [List.map_set]⟩
      rcases List.mem_or_eq_of_mem_set hb with hb | rfl
      · exact l2 b hb
      · exact ⟨Int.emod_nonneg _ (by decide), Int.emod_lt_of_pos _ (by decide)⟩
    · rintro ρ ⟨y, z, cs, l1, l2, rfl⟩
      simp (implicitDefEqProofs := false) only [List.set_cons_zero, List.set_cons_succ, List.map_cons, List.map_nil, List.cons_append, List.nil_append, List.append_nil, List.replicate_succ, List.replicate_zero, Nat.reduceSub, List.length_cons, List.length_nil, Nat.reduceAdd, v_var0, v_varS, v_con, v_add, v_sub, v_mul, v_div, v_mod, v_pow, v_shl, v_lt, v_le, v_gt, v_ge, v_eq, v_ne, v_in, v_nin, v_ix, v_plus, v_cat, v_rep, v_isN, v_notN, v_len, v_neg, v_isi, v_list, v_tuple, v_tupleL, v_fld, v_fldI, v_all, v_any, v_sum, v_max2, v_min2, v_i2, v_addI, v_subI, v_mulL, v_mulR, v_divI, v_modI, v_ltI, v_leI, v_gtI, v_geI, v_negD, v_eqI, v_neI, v_eqB, v_neB, v_lenL, v_lenC, v_lenT, v_listL, v_listC, v_listT, v_tupL, v_tupC, v_tupT, v_tupLL, v_plusI, v_plusL, v_plusT, v_catL, v_slc, v_slcL, v_noPart, v_partO, v_asI, v_cutL, v_cutC, v_cutT, v_cutLL, v_cutLC, v_boolT, v_notT, v_andT, v_orT, v_yes, v_andE, v_orE, v_notE, v_ifE, v_andOk, v_orOk, v_andOkE, v_orOkE, v_isB, v_isI, v_isIB, v_eqS, v_neS, v_asB, v_args0, v_args1, v_tup, v_lst, v_call, v_callB, v_meth, v_methB, v_scal, v_scalI, v_scalB, v_scalS, v_scalN, v_rng1, v_rng2, v_rngD1, v_rngD2, v_seqI, v_tupI, v_seqL, v_seqC, v_seqT, v_seqQ, v_lenQ, v_tupQ, v_tupID, v_zipI, v_zipL, v_zipT, v_enumI, v_enumL, v_enumC, v_revI, v_revL, v_revT, v_comp, v_wipe0, v_wipe1, v_assoc, v_nx, v_end, v_asg, v_drop, v_ret, v_retN, v_raise, v_brk, v_cnt, v_if, v_iteT, v_iteF, v_asgG, v_nameG, v_consG, v_nilG, v_app, v_varP0, v_varPS, v_lstOf, v_set, v_for, v_outR, v_outX, v_outN, v_newF, v_outI, v_outIX, v_try, v_tryN, v_tryRt, v_divmod, v_dvm, v_tupRev, v_trev, v_lrev, v_lrevL, v_dnew, v_dnewT, v_din, v_dget, v_scalE, v_dlen, v_dlenT, v_dlenD, v_dlenTD, v_dgetI, v_dgetS, v_dput, divOk_of, smallI_of, intSz_of, lenSz_of, ok_bind, ex_bind, no_bind, bindS_ok, bindS_ex, ↓reduceIte, Option.bind_some, Int.reduceLT, Int.reduceLE, Nat.reduceLeDiff, Int.reduceNeg, Int.reduceEq, Bool.or_true, Bool.true_or, Bool.and_true, Bool.true_and, Bool.false_or, Bool.or_false, Bool.and_false, Bool.false_and, decide_true, decide_false, Bool.not_true, Bool.not_false, Bool.false_eq_true]
      exact ⟨cs, l1, l2, rfl⟩
/-! pockets, mills -/
abbrev Pk := Str × Int
def pkD (q : Pk) : Dt := .tup [.str q.1, .int q.2]
def kindB (x : Str) : Bool := decide (x = "queue") || decide (x = "pile")
def pkB (q : Pk) : Bool := kindB q.1 && (decide (0 ≤ q.2) && decide (q.2 ≤ 9))
def passB (p : List Pk) : Bool := decide (1 ≤ p.length) && (decide (p.length ≤ 6) && p.all pkB)
theorem kinds_in (x : Str) : inD (.str x) [.str "queue", .str "pile"] = kindB x := by
  unfold inD kindB
  simp only [List.any_cons, List.any_nil, Bool.or_false]
  congr 1 <;> exact decide_eq_decide.mpr eq_comm
def Pockets_keptP (p : List Pk) (o : Ot) : Prop := outF .F o = if passB p = true then .ok (.tup (p.map pkD)) else .ex ("BadMill", none)
theorem pockets_kept_run (b : Bool) (p : List Pk) : F_pockets_kept [sqD b (p.map pkD)] = if passB p = true then .ok (.tup (p.map pkD)) else .ex ("BadMill", none) := by
  rw [R_pockets_kept]
  unfold Fb_pockets_kept
  show Pockets_keptP p _
  have bad : passB p = false → ∀ ρ : Ev, Pockets_keptP p (.ex ("BadMill", none) ρ) := fun h ρ => by
    unfold Pockets_keptP
    rw [h]
    rfl
  simp (decide := true) (implicitDefEqProofs := false) only [List.set_cons_zero, List.set_cons_succ, List.map_cons, List.map_nil, List.cons_append, List.nil_append, List.append_nil, List.replicate_succ, List.replicate_zero, Nat.reduceSub, List.length_cons, List.length_nil, Nat.reduceAdd, v_var0, v_varS, v_con, v_add, v_sub, v_mul, v_div, v_mod, v_pow, v_shl, v_lt, v_le, v_gt, v_ge, v_eq, v_ne, v_in, v_nin, v_ix, v_plus, v_cat, v_rep, v_isN, v_notN, v_len, v_neg, v_isi, v_list, v_tuple, v_tupleL, v_fld, v_fldI, v_all, v_any, v_sum, v_max2, v_min2, v_i2, v_addI, v_subI, v_mulL, v_mulR, v_divI, v_modI, v_ltI, v_leI, v_gtI, v_geI, v_negD, v_eqI, v_neI, v_eqB, v_neB, v_lenL, v_lenC, v_lenT, v_listL, v_listC, v_listT, v_tupL, v_tupC, v_tupT, v_tupLL, v_plusI, v_plusL, v_plusT, v_catL, v_slc, v_slcL, v_noPart, v_partO, v_asI, v_cutL, v_cutC, v_cutT, v_cutLL, v_cutLC, v_boolT, v_notT, v_andT, v_orT, v_yes, v_andE, v_orE, v_notE, v_ifE, v_andOk, v_orOk, v_andOkE, v_orOkE, v_isB, v_isI, v_isIB, v_eqS, v_neS, v_asB, v_args0, v_args1, v_tup, v_lst, v_call, v_callB, v_meth, v_methB, v_scal, v_scalI, v_scalB, v_scalS, v_scalN, v_rng1, v_rng2, v_rngD1, v_rngD2, v_seqI, v_tupI, v_seqL, v_seqC, v_seqT, v_seqQ, v_lenQ, v_tupQ, v_tupID, v_zipI, v_zipL, v_zipT, v_enumI, v_enumL, v_enumC, v_revI, v_revL, v_revT, v_comp, v_wipe0, v_wipe1, v_assoc, v_nx, v_end, v_asg, v_drop, v_ret, v_retN, v_raise, v_brk, v_cnt, v_if, v_iteT, v_iteF, v_asgG, v_nameG, v_consG, v_nilG, v_app, v_varP0, v_varPS, v_lstOf, v_set, v_for, v_outR, v_outX, v_outN, v_newF, v_outI, v_outIX, v_try, v_tryN, v_tryRt, v_divmod, v_dvm, v_tupRev, v_trev, v_lrev, v_lrevL, v_dnew, v_dnewT, v_din, v_dget, v_scalE, v_dlen, v_dlenT, v_dlenD, v_dlenTD, v_dgetI, v_dgetS, v_dput, divOk_of, smallI_of, intSz_of, lenSz_of, ok_bind, ex_bind, no_bind, bindS_ok, bindS_ex, ↓reduceIte, Option.bind_some, Int.reduceLT, Int.reduceLE, Nat.reduceLeDiff, Int.reduceNeg, Int.reduceEq, Bool.or_true, Bool.true_or, Bool.and_true, Bool.true_and, Bool.false_or, Bool.or_false, Bool.and_false, Bool.false_and, decide_true, decide_false, Bool.not_true, Bool.not_false, Bool.false_eq_true, List.length_map]
  by_cases h1 : (p.length : Int) < 1
  · simp (decide := true) (implicitDefEqProofs := false) only [List.set_cons_zero, List.set_cons_succ, List.map_cons, List.map_nil, List.cons_append, List.nil_append, List.append_nil, List.replicate_succ, List.replicate_zero, Nat.reduceSub, List.length_cons, List.length_nil, Nat.reduceAdd, v_var0, v_varS, v_con, v_add, v_sub, v_mul, v_div, v_mod, v_pow, v_shl, v_lt, v_le, v_gt, v_ge, v_eq, v_ne, v_in, v_nin, v_ix, v_plus, v_cat, v_rep, v_isN, v_notN, v_len, v_neg, v_isi, v_list, v_tuple, v_tupleL, v_fld, v_fldI, v_all, v_any, v_sum, v_max2, v_min2, v_i2, v_addI, v_subI, v_mulL, v_mulR, v_divI, v_modI, v_ltI, v_leI, v_gtI, v_geI, v_negD, v_eqI, v_neI, v_eqB, v_neB, v_lenL, v_lenC, v_lenT, v_listL, v_listC, v_listT, v_tupL, v_tupC, v_tupT, v_tupLL, v_plusI, v_plusL, v_plusT, v_catL, v_slc, v_slcL, v_noPart, v_partO, v_asI, v_cutL, v_cutC, v_cutT, v_cutLL, v_cutLC, v_boolT, v_notT, v_andT, v_orT, v_yes, v_andE, v_orE, v_notE, v_ifE, v_andOk, v_orOk, v_andOkE, v_orOkE, v_isB, v_isI, v_isIB, v_eqS, v_neS, v_asB, v_args0, v_args1, v_tup, v_lst, v_call, v_callB, v_meth, v_methB, v_scal, v_scalI, v_scalB, v_scalS, v_scalN, v_rng1, v_rng2, v_rngD1, v_rngD2, v_seqI, v_tupI, v_seqL, v_seqC, v_seqT, v_seqQ, v_lenQ, v_tupQ, v_tupID, v_zipI, v_zipL, v_zipT, v_enumI, v_enumL, v_enumC, v_revI, v_revL, v_revT, v_comp, v_wipe0, v_wipe1, v_assoc, v_nx, v_end, v_asg, v_drop, v_ret, v_retN, v_raise, v_brk, v_cnt, v_if, v_iteT, v_iteF, v_asgG, v_nameG, v_consG, v_nilG, v_app, v_varP0, v_varPS, v_lstOf, v_set, v_for, v_outR, v_outX, v_outN, v_newF, v_outI, v_outIX, v_try, v_tryN, v_tryRt, v_divmod, v_dvm, v_tupRev, v_trev, v_lrev, v_lrevL, v_dnew, v_dnewT, v_din, v_dget, v_scalE, v_dlen, v_dlenT, v_dlenD, v_dlenTD, v_dgetI, v_dgetS, v_dput, divOk_of, smallI_of, intSz_of, lenSz_of, ok_bind, ex_bind, no_bind, bindS_ok, bindS_ex, ↓reduceIte, Option.bind_some, Int.reduceLT, Int.reduceLE, Nat.reduceLeDiff, Int.reduceNeg, Int.reduceEq, Bool.or_true, Bool.true_or, Bool.and_true, Bool.true_and, Bool.false_or, Bool.or_false, Bool.and_false, Bool.false_and, decide_true, decide_false, Bool.not_true, Bool.not_false, Bool.false_eq_true, h1]
    exact bad (by unfold passB; rw [decide_eq_false (by omega)]; rfl) _
  by_cases h2 : 6 < (p.length : Int)
  · simp (decide := true) (implicitDefEqProofs := false) only [List.set_cons_zero, List.set_cons_succ, List.map_cons, List.map_nil, List.cons_append, List.nil_append, List.append_nil, List.replicate_succ, List.replicate_zero, Nat.reduceSub, List.length_cons, List.length_nil, Nat.reduceAdd, v_var0, v_varS, v_con, v_add, v_sub, v_mul, v_div, v_mod, v_pow, v_shl, v_lt, v_le, v_gt, v_ge, v_eq, v_ne, v_in, v_nin, v_ix, v_plus, v_cat, v_rep, v_isN, v_notN, v_len, v_neg, v_isi, v_list, v_tuple, v_tupleL, v_fld, v_fldI, v_all, v_any, v_sum, v_max2, v_min2, v_i2, v_addI, v_subI, v_mulL, v_mulR, v_divI, v_modI, v_ltI, v_leI, v_gtI, v_geI, v_negD, v_eqI, v_neI, v_eqB, v_neB, v_lenL, v_lenC, v_lenT, v_listL, v_listC, v_listT, v_tupL, v_tupC, v_tupT, v_tupLL, v_plusI, v_plusL, v_plusT, v_catL, v_slc, v_slcL, v_noPart, v_partO, v_asI, v_cutL, v_cutC, v_cutT, v_cutLL, v_cutLC, v_boolT, v_notT, v_andT, v_orT, v_yes, v_andE, v_orE, v_notE, v_ifE, v_andOk, v_orOk, v_andOkE, v_orOkE, v_isB, v_isI, v_isIB, v_eqS, v_neS, v_asB, v_args0, v_args1, v_tup, v_lst, v_call, v_callB, v_meth, v_methB, v_scal, v_scalI, v_scalB, v_scalS, v_scalN, v_rng1, v_rng2, v_rngD1, v_rngD2, v_seqI, v_tupI, v_seqL, v_seqC, v_seqT, v_seqQ, v_lenQ, v_tupQ, v_tupID, v_zipI, v_zipL, v_zipT, v_enumI, v_enumL, v_enumC, v_revI, v_revL, v_revT, v_comp, v_wipe0, v_wipe1, v_assoc, v_nx, v_end, v_asg, v_drop, v_ret, v_retN, v_raise, v_brk, v_cnt, v_if, v_iteT, v_iteF, v_asgG, v_nameG, v_consG, v_nilG, v_app, v_varP0, v_varPS, v_lstOf, v_set, v_for, v_outR, v_outX, v_outN, v_newF, v_outI, v_outIX, v_try, v_tryN, v_tryRt, v_divmod, v_dvm, v_tupRev, v_trev, v_lrev, v_lrevL, v_dnew, v_dnewT, v_din, v_dget, v_scalE, v_dlen, v_dlenT, v_dlenD, v_dlenTD, v_dgetI, v_dgetS, v_dput, divOk_of, smallI_of, intSz_of, lenSz_of, ok_bind, ex_bind, no_bind, bindS_ok, bindS_ex, ↓reduceIte, Option.bind_some, Int.reduceLT, Int.reduceLE, Nat.reduceLeDiff, Int.reduceNeg, Int.reduceEq, Bool.or_true, Bool.true_or, Bool.and_true, Bool.true_and, Bool.false_or, Bool.or_false, Bool.and_false, Bool.false_and, decide_true, decide_false, Bool.not_true, Bool.not_false, Bool.false_eq_true, h1, h2]
    exact bad (by unfold passB; rw [decide_eq_false (p := p.length ≤ 6) (by omega), Bool.false_and, Bool.and_false]) _
  simp (decide := true) (implicitDefEqProofs := false) only [List.set_cons_zero, List.set_cons_succ, List.map_cons, List.map_nil, List.cons_append, List.nil_append, List.append_nil, List.replicate_succ, List.replicate_zero, Nat.reduceSub, List.length_cons, List.length_nil, Nat.reduceAdd, v_var0, v_varS, v_con, v_add, v_sub, v_mul, v_div, v_mod, v_pow, v_shl, v_lt, v_le, v_gt, v_ge, v_eq, v_ne, v_in, v_nin, v_ix, v_plus, v_cat, v_rep, v_isN, v_notN, v_len, v_neg, v_isi, v_list, v_tuple, v_tupleL, v_fld, v_fldI, v_all, v_any, v_sum, v_max2, v_min2, v_i2, v_addI, v_subI, v_mulL, v_mulR, v_divI, v_modI, v_ltI, v_leI, v_gtI, v_geI, v_negD, v_eqI, v_neI, v_eqB, v_neB, v_lenL, v_lenC, v_lenT, v_listL, v_listC, v_listT, v_tupL, v_tupC, v_tupT, v_tupLL, v_plusI, v_plusL, v_plusT, v_catL, v_slc, v_slcL, v_noPart, v_partO, v_asI, v_cutL, v_cutC, v_cutT, v_cutLL, v_cutLC, v_boolT, v_notT, v_andT, v_orT, v_yes, v_andE, v_orE, v_notE, v_ifE, v_andOk, v_orOk, v_andOkE, v_orOkE, v_isB, v_isI, v_isIB, v_eqS, v_neS, v_asB, v_args0, v_args1, v_tup, v_lst, v_call, v_callB, v_meth, v_methB, v_scal, v_scalI, v_scalB, v_scalS, v_scalN, v_rng1, v_rng2, v_rngD1, v_rngD2, v_seqI, v_tupI, v_seqL, v_seqC, v_seqT, v_seqQ, v_lenQ, v_tupQ, v_tupID, v_zipI, v_zipL, v_zipT, v_enumI, v_enumL, v_enumC, v_revI, v_revL, v_revT, v_comp, v_wipe0, v_wipe1, v_assoc, v_nx, v_end, v_asg, v_drop, v_ret, v_retN, v_raise, v_brk, v_cnt, v_if, v_iteT, v_iteF, v_asgG, v_nameG, v_consG, v_nilG, v_app, v_varP0, v_varPS, v_lstOf, v_set, v_for, v_outR, v_outX, v_outN, v_newF, v_outI, v_outIX, v_try, v_tryN, v_tryRt, v_divmod, v_dvm, v_tupRev, v_trev, v_lrev, v_lrevL, v_dnew, v_dnewT, v_din, v_dget, v_scalE, v_dlen, v_dlenT, v_dlenD, v_dlenTD, v_dgetI, v_dgetS, v_dput, divOk_of, smallI_of, intSz_of, lenSz_of, ok_bind, ex_bind, no_bind, bindS_ok, bindS_ex, ↓reduceIte, Option.bind_some, Int.reduceLT, Int.reduceLE, Nat.reduceLeDiff, Int.reduceNeg, Int.reduceEq, Bool.or_true, Bool.true_or, Bool.and_true, Bool.true_and, Bool.false_or, Bool.or_false, Bool.and_false, Bool.false_and, decide_true, decide_false, Bool.not_true, Bool.not_false, Bool.false_eq_true, h1, h2]
  refine wp_for (fun n ρ => (p.take n).all pkB = true ∧ ∃ x y, ρ = [some (sqD b (p.map pkD)), some (.lst ((p.take n).map pkD)), x, y]) ⟨rfl, none, none, rfl⟩ ?_ ?_
  · rintro n d ρ hd ⟨ha, x, y, rfl⟩
    obtain ⟨⟨k, w⟩, hq, rfl⟩ := of_at_map hd
    have hn := lt_of_at hq
    have tk : p.take (n + 1) = p.take n ++ [(k, w)] := by rw [List.take_add_one, hq]; rfl
    refine ⟨[some (sqD b (p.map pkD)), some (.lst ((p.take n).map pkD)), some (.str k), some (.int w)], rfl, ?_⟩
    have mem : memD true (.str k) (.ktp [.str "queue", .str "pile"]) = .ok (.bl (!kindB k)) := by
      rw [← kinds_in]
      rfl
    simp (decide := true) (implicitDefEqProofs := false) only [List.set_cons_zero, List.set_cons_succ, List.map_cons, List.map_nil, List.cons_append, List.nil_append, List.append_nil, List.replicate_succ, List.replicate_zero, Nat.reduceSub, List.length_cons, List.length_nil, Nat.reduceAdd, v_var0, v_varS, v_con, v_add, v_sub, v_mul, v_div, v_mod, v_pow, v_shl, v_lt, v_le, v_gt, v_ge, v_eq, v_ne, v_in, v_nin, v_ix, v_plus, v_cat, v_rep, v_isN, v_notN, v_len, v_neg, v_isi, v_list, v_tuple, v_tupleL, v_fld, v_fldI, v_all, v_any, v_sum, v_max2, v_min2, v_i2, v_addI, v_subI, v_mulL, v_mulR, v_divI, v_modI, v_ltI, v_leI, v_gtI, v_geI, v_negD, v_eqI, v_neI, v_eqB, v_neB, v_lenL, v_lenC, v_lenT, v_listL, v_listC, v_listT, v_tupL, v_tupC, v_tupT, v_tupLL, v_plusI, v_plusL, v_plusT, v_catL, v_slc, v_slcL, v_noPart, v_partO, v_asI, v_cutL, v_cutC, v_cutT, v_cutLL, v_cutLC, v_boolT, v_notT, v_andT, v_orT, v_yes, v_andE, v_orE, v_notE, v_ifE, v_andOk, v_orOk, v_andOkE, v_orOkE, v_isB, v_isI, v_isIB, v_eqS, v_neS, v_asB, v_args0, v_args1, v_tup, v_lst, v_call, v_callB, v_meth, v_methB, v_scal, v_scalI, v_scalB, v_scalS, v_scalN, v_rng1, v_rng2, v_rngD1, v_rngD2, v_seqI, v_tupI, v_seqL, v_seqC, v_seqT, v_seqQ, v_lenQ, v_tupQ, v_tupID, v_zipI, v_zipL, v_zipT, v_enumI, v_enumL, v_enumC, v_revI, v_revL, v_revT, v_comp, v_wipe0, v_wipe1, v_assoc, v_nx, v_end, v_asg, v_drop, v_ret, v_retN, v_raise, v_brk, v_cnt, v_if, v_iteT, v_iteF, v_asgG, v_nameG, v_consG, v_nilG, v_app, v_varP0, v_varPS, v_lstOf, v_set, v_for, v_outR, v_outX, v_outN, v_newF, v_outI, v_outIX, v_try, v_tryN, v_tryRt, v_divmod, v_dvm, v_tupRev, v_trev, v_lrev, v_lrevL, v_dnew, v_dnewT, v_din, v_dget, v_scalE, v_dlen, v_dlenT, v_dlenD, v_dlenTD, v_dgetI, v_dgetS, v_dput, divOk_of, smallI_of, intSz_of, lenSz_of, ok_bind, ex_bind, no_bind, bindS_ok, bindS_ex, ↓reduceIte, Option.bind_some, Int.reduceLT, Int.reduceLE, Nat.reduceLeDiff, Int.reduceNeg, Int.reduceEq, Bool.or_true, Bool.true_or, Bool.and_true, Bool.true_and, Bool.false_or, Bool.or_false, Bool.and_false, Bool.false_and, decide_true, decide_false, Bool.not_true, Bool.not_false, Bool.false_eq_true, mem]
    by_cases hb : pkB (k, w) = true
    · have hb' := hb
      unfold pkB at hb'
      simp only [Bool.and_eq_true, decide_eq_true_eq] at hb'
      obtain ⟨b1, b2, b3⟩ := hb'
      have e1 : ¬ (w < 0) := by omega
      have e2 : ¬ (9 < w) := by omega
      simp (decide := true) (implicitDefEqProofs := false) only [List.set_cons_zero, List.set_cons_succ, List.map_cons, List.map_nil, List.cons_append, List.nil_append, List.append_nil, List.replicate_succ, List.replicate_zero, Nat.reduceSub, List.length_cons, List.length_nil, Nat.reduceAdd, v_var0, v_varS, v_con, v_add, v_sub, v_mul, v_div, v_mod, v_pow, v_shl, v_lt, v_le, v_gt, v_ge, v_eq, v_ne, v_in, v_nin, v_ix, v_plus, v_cat, v_rep, v_isN, v_notN, v_len, v_neg, v_isi, v_list, v_tuple, v_tupleL, v_fld, v_fldI, v_all, v_any, v_sum, v_max2, v_min2, v_i2, v_addI, v_subI, v_mulL, v_mulR, v_divI, v_modI, v_ltI, v_leI, v_gtI, v_geI, v_negD, v_eqI, v_neI, v_eqB, v_neB, v_lenL, v_lenC, v_lenT, v_listL, v_listC, v_listT, v_tupL, v_tupC, v_tupT, v_tupLL, v_plusI, v_plusL, v_plusT, v_catL, v_slc, v_slcL, v_noPart, v_partO, v_asI, v_cutL, v_cutC, v_cutT, v_cutLL, v_cutLC, v_boolT, v_notT, v_andT, v_orT, v_yes, v_andE, v_orE, v_notE, v_ifE, v_andOk, v_orOk, v_andOkE, v_orOkE, v_isB, v_isI, v_isIB, v_eqS, v_neS, v_asB, v_args0, v_args1, v_tup, v_lst, v_call, v_callB, v_meth, v_methB, v_scal, v_scalI, v_scalB, v_scalS, v_scalN, v_rng1, v_rng2, v_rngD1, v_rngD2, v_seqI, v_tupI, v_seqL, v_seqC, v_seqT, v_seqQ, v_lenQ, v_tupQ, v_tupID, v_zipI, v_zipL, v_zipT, v_enumI, v_enumL, v_enumC, v_revI, v_revL, v_revT, v_comp, v_wipe0, v_wipe1, v_assoc, v_nx, v_end, v_asg, v_drop, v_ret, v_retN, v_raise, v_brk, v_cnt, v_if, v_iteT, v_iteF, v_asgG, v_nameG, v_consG, v_nilG, v_app, v_varP0, v_varPS, v_lstOf, v_set, v_for, v_outR, v_outX, v_outN, v_newF, v_outI, v_outIX, v_try, v_tryN, v_tryRt, v_divmod, v_dvm, v_tupRev, v_trev, v_lrev, v_lrevL, v_dnew, v_dnewT, v_din, v_dget, v_scalE, v_dlen, v_dlenT, v_dlenD, v_dlenTD, v_dgetI, v_dgetS, v_dput, divOk_of, smallI_of, intSz_of, lenSz_of, ok_bind, ex_bind, no_bind, bindS_ok, bindS_ex, ↓reduceIte, Option.bind_some, Int.reduceLT, Int.reduceLE, Nat.reduceLeDiff, Int.reduceNeg, Int.reduceEq, Bool.or_true, Bool.true_or, Bool.and_true, Bool.true_and, Bool.false_or, Bool.or_false, Bool.and_false, Bool.false_and, decide_true, decide_false, Bool.not_true, Bool.not_false, Bool.false_eq_true, b1, e1, e2, v_appR (ds := (p.take n).map pkD) (lenSz_of (by rw [List.length_map, List.length_take]; omega))]
      refine ⟨?_, some (.str k), some (.int w), ?_⟩
      · rw [tk, List.all_append, ha]
        simp [hb]
      · rw [tk, List.map_append]
        rfl
    · have hp : passB p = false := by
        unfold passB
        have : p.all pkB = false := by
          rw [List.all_eq_false]
          exact ⟨(k, w), List.mem_of_getElem? hq, hb⟩
        rw [this, Bool.and_false, Bool.and_false]
      cases b1 : kindB k with
      | false =>
        simp (decide := true) (implicitDefEqProofs := false) only [List.set_cons_zero, List.set_cons_succ, List.map_cons, List.map_nil, List.cons_append, List.nil_append, List.append_nil, List.replicate_succ, List.replicate_zero, Nat.reduceSub, List.length_cons, List.length_nil, Nat.reduceAdd, v_var0, v_varS, v_con, v_add, v_sub, v_mul, v_div, v_mod, v_pow, v_shl, v_lt, v_le, v_gt, v_ge, v_eq, v_ne, v_in, v_nin, v_ix, v_plus, v_cat, v_rep, v_isN, v_notN, v_len, v_neg, v_isi, v_list, v_tuple, v_tupleL, v_fld, v_fldI, v_all, v_any, v_sum, v_max2, v_min2, v_i2, v_addI, v_subI, v_mulL, v_mulR, v_divI, v_modI, v_ltI, v_leI, v_gtI, v_geI, v_negD, v_eqI, v_neI, v_eqB, v_neB, v_lenL, v_lenC, v_lenT, v_listL, v_listC, v_listT, v_tupL, v_tupC, v_tupT, v_tupLL, v_plusI, v_plusL, v_plusT, v_catL, v_slc, v_slcL, v_noPart, v_partO, v_asI, v_cutL, v_cutC, v_cutT, v_cutLL, v_cutLC, v_boolT, v_notT, v_andT, v_orT, v_yes, v_andE, v_orE, v_notE, v_ifE, v_andOk, v_orOk, v_andOkE, v_orOkE, v_isB, v_isI, v_isIB, v_eqS, v_neS, v_asB, v_args0, v_args1, v_tup, v_lst, v_call, v_callB, v_meth, v_methB, v_scal, v_scalI, v_scalB, v_scalS, v_scalN, v_rng1, v_rng2, v_rngD1, v_rngD2, v_seqI, v_tupI, v_seqL, v_seqC, v_seqT, v_seqQ, v_lenQ, v_tupQ, v_tupID, v_zipI, v_zipL, v_zipT, v_enumI, v_enumL, v_enumC, v_revI, v_revL, v_revT, v_comp, v_wipe0, v_wipe1, v_assoc, v_nx, v_end, v_asg, v_drop, v_ret, v_retN, v_raise, v_brk, v_cnt, v_if, v_iteT, v_iteF, v_asgG, v_nameG, v_consG, v_nilG, v_app, v_varP0, v_varPS, v_lstOf, v_set, v_for, v_outR, v_outX, v_outN, v_newF, v_outI, v_outIX, v_try, v_tryN, v_tryRt, v_divmod, v_dvm, v_tupRev, v_trev, v_lrev, v_lrevL, v_dnew, v_dnewT, v_din, v_dget, v_scalE, v_dlen, v_dlenT, v_dlenD, v_dlenTD, v_dgetI, v_dgetS, v_dput, divOk_of, smallI_of, intSz_of, lenSz_of, ok_bind, ex_bind, no_bind, bindS_ok, bindS_ex, ↓reduceIte, Option.bind_some, Int.reduceLT, Int.reduceLE, Nat.reduceLeDiff, Int.reduceNeg, Int.reduceEq, Bool.or_true, Bool.true_or, Bool.and_true, Bool.true_and, Bool.false_or, Bool.or_false, Bool.and_false, Bool.false_and, decide_true, decide_false, Bool.not_true, Bool.not_false, Bool.false_eq_true]
        exact bad hp _
      | true =>
        by_cases e1 : w < 0
        · simp (decide := true) (implicitDefEqProofs := false) only [List.set_cons_zero, List.set_cons_succ, List.map_cons, List.map_nil, List.cons_append, List.nil_append, List.append_nil, List.replicate_succ, List.replicate_zero, Nat.reduceSub, List.length_cons, List.length_nil, Nat.reduceAdd, v_var0, v_varS, v_con, v_add, v_sub, v_mul, v_div, v_mod, v_pow, v_shl, v_lt, v_le, v_gt, v_ge, v_eq, v_ne, v_in, v_nin, v_ix, v_plus, v_cat, v_rep, v_isN, v_notN, v_len, v_neg, v_isi, v_list, v_tuple, v_tupleL, v_fld, v_fldI, v_all, v_any, v_sum, v_max2, v_min2, v_i2, v_addI, v_subI, v_mulL, v_mulR, v_divI, v_modI, v_ltI, v_leI, v_gtI, v_geI, v_negD, v_eqI, v_neI, v_eqB, v_neB, v_lenL, v_lenC, v_lenT, v_listL, v_listC, v_listT, v_tupL, v_tupC, v_tupT, v_tupLL, v_plusI, v_plusL, v_plusT, v_catL, v_slc, v_slcL, v_noPart, v_partO, v_asI, v_cutL, v_cutC, v_cutT, v_cutLL, v_cutLC, v_boolT, v_notT, v_andT, v_orT, v_yes, v_andE, v_orE, v_notE, v_ifE, v_andOk, v_orOk, v_andOkE, v_orOkE, v_isB, v_isI, v_isIB, v_eqS, v_neS, v_asB, v_args0, v_args1, v_tup, v_lst, v_call, v_callB, v_meth, v_methB, v_scal, v_scalI, v_scalB, v_scalS, v_scalN, v_rng1, v_rng2, v_rngD1, v_rngD2, v_seqI, v_tupI, v_seqL, v_seqC, v_seqT, v_seqQ, v_lenQ, v_tupQ, v_tupID, v_zipI, v_zipL, v_zipT, v_enumI, v_enumL, v_enumC, v_revI, v_revL, v_revT, v_comp, v_wipe0, v_wipe1, v_assoc, v_nx, v_end, v_asg, v_drop, v_ret, v_retN, v_raise, v_brk, v_cnt, v_if, v_iteT, v_iteF, v_asgG, v_nameG, v_consG, v_nilG, v_app, v_varP0, v_varPS, v_lstOf, v_set, v_for, v_outR, v_outX, v_outN, v_newF, v_outI, v_outIX, v_try, v_tryN, v_tryRt, v_divmod, v_dvm, v_tupRev, v_trev, v_lrev, v_lrevL, v_dnew, v_dnewT, v_din, v_dget, v_scalE, v_dlen, v_dlenT, v_dlenD, v_dlenTD, v_dgetI, v_dgetS, v_dput, divOk_of, smallI_of, intSz_of, lenSz_of, ok_bind, ex_bind, no_bind, bindS_ok, bindS_ex, ↓reduceIte, Option.bind_some, Int.reduceLT, Int.reduceLE, Nat.reduceLeDiff, Int.reduceNeg, Int.reduceEq, Bool.or_true, Bool.true_or, Bool.and_true, Bool.true_and, Bool.false_or, Bool.or_false, Bool.and_false, Bool.false_and, decide_true, decide_false, Bool.not_true, Bool.not_false, Bool.false_eq_true, e1]
          exact bad hp _
        · have e2 : 9 < w := by
            by_cases e2 : 9 < w
            · exact e2
            · exact absurd (show pkB (k, w) = true by
                unfold pkB
                rw [b1, decide_eq_true (show (0 : Int) ≤ w by omega), decide_eq_true (show w ≤ 9 by omega)]
                rfl) hb
          simp (decide := true) (implicitDefEqProofs := false) only [List.set_cons_zero, List.set_cons_succ, List.map_cons, List.map_nil, List.cons_append, List.nil_append, List.append_nil, List.replicate_succ, List.replicate_zero, Nat.reduceSub, List.length_cons, List.length_nil, Nat.reduceAdd, v_var0, v_varS, v_con, v_add, v_sub, v_mul, v_div, v_mod, v_pow, v_shl, v_lt, v_le, v_gt, v_ge, v_eq, v_ne, v_in, v_nin, v_ix, v_plus, v_cat, v_rep, v_isN, v_notN, v_len, v_neg, v_isi, v_list, v_tuple, v_tupleL, v_fld, v_fldI, v_all, v_any, v_sum, v_max2, v_min2, v_i2, v_addI, v_subI, v_mulL, v_mulR, v_divI, v_modI, v_ltI, v_leI, v_gtI, v_geI, v_negD, v_eqI, v_neI, v_eqB, v_neB, v_lenL, v_lenC, v_lenT, v_listL, v_listC, v_listT, v_tupL, v_tupC, v_tupT, v_tupLL, v_plusI, v_plusL, v_plusT, v_catL, v_slc, v_slcL, v_noPart, v_partO, v_asI, v_cutL, v_cutC, v_cutT, v_cutLL, v_cutLC, v_boolT, v_notT, v_andT, v_orT, v_yes, v_andE, v_orE, v_notE, v_ifE, v_andOk, v_orOk, v_andOkE, v_orOkE, v_isB, v_isI, v_isIB, v_eqS, v_neS, v_asB, v_args0, v_args1, v_tup, v_lst, v_call, v_callB, v_meth, v_methB, v_scal, v_scalI, v_scalB, v_scalS, v_scalN, v_rng1, v_rng2, v_rngD1, v_rngD2, v_seqI, v_tupI, v_seqL, v_seqC, v_seqT, v_seqQ, v_lenQ, v_tupQ, v_tupID, v_zipI, v_zipL, v_zipT, v_enumI, v_enumL, v_enumC, v_revI, v_revL, v_revT, v_comp, v_wipe0, v_wipe1, v_assoc, v_nx, v_end, v_asg, v_drop, v_ret, v_retN, v_raise, v_brk, v_cnt, v_if, v_iteT, v_iteF, v_asgG, v_nameG, v_consG, v_nilG, v_app, v_varP0, v_varPS, v_lstOf, v_set, v_for, v_outR, v_outX, v_outN, v_newF, v_outI, v_outIX, v_try, v_tryN, v_tryRt, v_divmod, v_dvm, v_tupRev, v_trev, v_lrev, v_lrevL, v_dnew, v_dnewT, v_din, v_dget, v_scalE, v_dlen, v_dlenT, v_dlenD, v_dlenTD, v_dgetI, v_dgetS, v_dput, divOk_of, smallI_of, intSz_of, lenSz_of, ok_bind, ex_bind, no_bind, bindS_ok, bindS_ex, ↓reduceIte, Option.bind_some, Int.reduceLT, Int.reduceLE, Nat.reduceLeDiff, Int.reduceNeg, Int.reduceEq, Bool.or_true, Bool.true_or, Bool.and_true, Bool.true_and, Bool.false_or, Bool.or_false, Bool.and_false, Bool.false_and, decide_true, decide_false, Bool.not_true, Bool.not_false, Bool.false_eq_true, e1, e2]
          exact bad hp _
  · rintro ρ ⟨ha, x, y, rfl⟩
    rw [List.length_map, List.take_length] at ha
    rw [List.length_map, List.take_length]
    simp (implicitDefEqProofs := false) only [List.set_cons_zero, List.set_cons_succ, List.map_cons, List.map_nil, List.cons_append, List.nil_append, List.append_nil, List.replicate_succ, List.replicate_zero, Nat.reduceSub, List.length_cons, List.length_nil, Nat.reduceAdd, v_var0, v_varS, v_con, v_add, v_sub, v_mul, v_div, v_mod, v_pow, v_shl, v_lt, v_le, v_gt, v_ge, v_eq, v_ne, v_in, v_nin, v_ix, v_plus, v_cat, v_rep, v_isN, v_notN, v_len, v_neg, v_isi, v_list, v_tuple, v_tupleL, v_fld, v_fldI, v_all, v_any, v_sum, v_max2, v_min2, v_i2, v_addI, v_subI, v_mulL, v_mulR, v_divI, v_modI, v_ltI, v_leI, v_gtI, v_geI, v_negD, v_eqI, v_neI, v_eqB, v_neB, v_lenL, v_lenC, v_lenT, v_listL, v_listC, v_listT, v_tupL, v_tupC, v_tupT, v_tupLL, v_plusI, v_plusL, v_plusT, v_catL, v_slc, v_slcL, v_noPart, v_partO, v_asI, v_cutL, v_cutC, v_cutT, v_cutLL, v_cutLC, v_boolT, v_notT, v_andT, v_orT, v_yes, v_andE, v_orE, v_notE, v_ifE, v_andOk, v_orOk, v_andOkE, v_orOkE, v_isB, v_isI, v_isIB, v_eqS, v_neS, v_asB, v_args0, v_args1, v_tup, v_lst, v_call, v_callB, v_meth, v_methB, v_scal, v_scalI, v_scalB, v_scalS, v_scalN, v_rng1, v_rng2, v_rngD1, v_rngD2, v_seqI, v_tupI, v_seqL, v_seqC, v_seqT, v_seqQ, v_lenQ, v_tupQ, v_tupID, v_zipI, v_zipL, v_zipT, v_enumI, v_enumL, v_enumC, v_revI, v_revL, v_revT, v_comp, v_wipe0, v_wipe1, v_assoc, v_nx, v_end, v_asg, v_drop, v_ret, v_retN, v_raise, v_brk, v_cnt, v_if, v_iteT, v_iteF, v_asgG, v_nameG, v_consG, v_nilG, v_app, v_varP0, v_varPS, v_lstOf, v_set, v_for, v_outR, v_outX, v_outN, v_newF, v_outI, v_outIX, v_try, v_tryN, v_tryRt, v_divmod, v_dvm, v_tupRev, v_trev, v_lrev, v_lrevL, v_dnew, v_dnewT, v_din, v_dget, v_scalE, v_dlen, v_dlenT, v_dlenD, v_dlenTD, v_dgetI, v_dgetS, v_dput, divOk_of, smallI_of, intSz_of, lenSz_of, ok_bind, ex_bind, no_bind, bindS_ok, bindS_ex, ↓reduceIte, Option.bind_some, Int.reduceLT, Int.reduceLE, Nat.reduceLeDiff, Int.reduceNeg, Int.reduceEq, Bool.or_true, Bool.true_or, Bool.and_true, Bool.true_and, Bool.false_or, Bool.or_false, Bool.and_false, Bool.false_and, decide_true, decide_false, Bool.not_true, Bool.not_false, Bool.false_eq_true]
    unfold Pockets_keptP
    have : passB p = true := by
      unfold passB
      rw [ha, decide_eq_true (show 1 ≤ p.length by omega), decide_eq_true (show p.length ≤ 6 by omega)]
      rfl
    rw [this]
    rfl
def pkTD (p : List Pk) : Dt := .tup (p.map pkD)
def pkLD (p : List Pk) : Dt := .lst (p.map pkD)
def millD (ps : List (List Pk)) : Dt := .ins "Mill" ["passes"] [.tup (ps.map pkTD)]
theorem fld_mill (ps : List (List Pk)) : fldD "Mill" "passes" (millD ps) = .ok (.tup (ps.map pkTD)) := by
  unfold millD fldD
  simp only [if_true]
  rw [show fix "passes" ["passes"] = some 0 from by decide]
  rfl
theorem nom_many (ps : List (List Pk)) : noMeth "Mill" "many" (millD ps) = .ok (millD ps) := by
  unfold millD noMeth
  exact if_pos ⟨rfl, by decide⟩
theorem nom_codes (ps : List (List Pk)) : noMeth "Mill" "codes" (millD ps) = .ok (millD ps) := by
  unfold millD noMeth
  exact if_pos ⟨rfl, by decide⟩
theorem many_run (ps : List (List Pk)) : F_Mill_many [millD ps] = .ok (.int ps.length) := by
  rw [R_Mill_many]
  unfold Fb_Mill_many
  simp (implicitDefEqProofs := false) only [List.set_cons_zero, List.set_cons_succ, List.map_cons, List.map_nil, List.cons_append, List.nil_append, List.append_nil, List.replicate_succ, List.replicate_zero, Nat.reduceSub, List.length_cons, List.length_nil, Nat.reduceAdd, v_var0, v_varS, v_con, v_add, v_sub, v_mul, v_div, v_mod, v_pow, v_shl, v_lt, v_le, v_gt, v_ge, v_eq, v_ne, v_in, v_nin, v_ix, v_plus, v_cat, v_rep, v_isN, v_notN, v_len, v_neg, v_isi, v_list, v_tuple, v_tupleL, v_fld, v_fldI, v_all, v_any, v_sum, v_max2, v_min2, v_i2, v_addI, v_subI, v_mulL, v_mulR, v_divI, v_modI, v_ltI, v_leI, v_gtI, v_geI, v_negD, v_eqI, v_neI, v_eqB, v_neB, v_lenL, v_lenC, v_lenT, v_listL, v_listC, v_listT, v_tupL, v_tupC, v_tupT, v_tupLL, v_plusI, v_plusL, v_plusT, v_catL, v_slc, v_slcL, v_noPart, v_partO, v_asI, v_cutL, v_cutC, v_cutT, v_cutLL, v_cutLC, v_boolT, v_notT, v_andT, v_orT, v_yes, v_andE, v_orE, v_notE, v_ifE, v_andOk, v_orOk, v_andOkE, v_orOkE, v_isB, v_isI, v_isIB, v_eqS, v_neS, v_asB, v_args0, v_args1, v_tup, v_lst, v_call, v_callB, v_meth, v_methB, v_scal, v_scalI, v_scalB, v_scalS, v_scalN, v_rng1, v_rng2, v_rngD1, v_rngD2, v_seqI, v_tupI, v_seqL, v_seqC, v_seqT, v_seqQ, v_lenQ, v_tupQ, v_tupID, v_zipI, v_zipL, v_zipT, v_enumI, v_enumL, v_enumC, v_revI, v_revL, v_revT, v_comp, v_wipe0, v_wipe1, v_assoc, v_nx, v_end, v_asg, v_drop, v_ret, v_retN, v_raise, v_brk, v_cnt, v_if, v_iteT, v_iteF, v_asgG, v_nameG, v_consG, v_nilG, v_app, v_varP0, v_varPS, v_lstOf, v_set, v_for, v_outR, v_outX, v_outN, v_newF, v_outI, v_outIX, v_try, v_tryN, v_tryRt, v_divmod, v_dvm, v_tupRev, v_trev, v_lrev, v_lrevL, v_dnew, v_dnewT, v_din, v_dget, v_scalE, v_dlen, v_dlenT, v_dlenD, v_dlenTD, v_dgetI, v_dgetS, v_dput, divOk_of, smallI_of, intSz_of, lenSz_of, ok_bind, ex_bind, no_bind, bindS_ok, bindS_ex, ↓reduceIte, Option.bind_some, Int.reduceLT, Int.reduceLE, Nat.reduceLeDiff, Int.reduceNeg, Int.reduceEq, Bool.or_true, Bool.true_or, Bool.and_true, Bool.true_and, Bool.false_or, Bool.or_false, Bool.and_false, Bool.false_and, decide_true, decide_false, Bool.not_true, Bool.not_false, Bool.false_eq_true, fld_mill, List.length_map]
def prodN (ps : List (List Pk)) : Nat := ps.foldl (fun a p => a * p.length) 1
theorem prodN_snoc (ps : List (List Pk)) (p : List Pk) : prodN (ps ++ [p]) = prodN ps * p.length := by
  unfold prodN
  rw [List.foldl_append]
  rfl
theorem prodN_cons (p : List Pk) (ps : List (List Pk)) : prodN (p :: ps) = p.length * prodN ps := by
  have h : ∀ (ps : List (List Pk)) (a : Nat), ps.foldl (fun a p => a * p.length) a = a * ps.foldl (fun a p => a * p.length) 1 := by
    intro ps
    induction ps with
    | nil => intro a; simp
    | cons q qs ih =>
      intro a
      rw [List.foldl_cons, ih, List.foldl_cons, ih (1 * q.length), Nat.one_mul, Nat.mul_assoc]
  unfold prodN
  rw [List.foldl_cons, h, Nat.one_mul]
theorem codes_ahead_run (ps : List (List Pk)) (k : Nat) (hs : ∀ p ∈ ps, p.length ≤ 1000) : F_codes_ahead [millD ps, .int k] = .ok (.int (prodN (ps.take k) : Nat)) := by
  rw [R_codes_ahead]
  unfold Fb_codes_ahead
  simp (implicitDefEqProofs := false) only [List.set_cons_zero, List.set_cons_succ, List.map_cons, List.map_nil, List.cons_append, List.nil_append, List.append_nil, List.replicate_succ, List.replicate_zero, Nat.reduceSub, List.length_cons, List.length_nil, Nat.reduceAdd, v_var0, v_varS, v_con, v_add, v_sub, v_mul, v_div, v_mod, v_pow, v_shl, v_lt, v_le, v_gt, v_ge, v_eq, v_ne, v_in, v_nin, v_ix, v_plus, v_cat, v_rep, v_isN, v_notN, v_len, v_neg, v_isi, v_list, v_tuple, v_tupleL, v_fld, v_fldI, v_all, v_any, v_sum, v_max2, v_min2, v_i2, v_addI, v_subI, v_mulL, v_mulR, v_divI, v_modI, v_ltI, v_leI, v_gtI, v_geI, v_negD, v_eqI, v_neI, v_eqB, v_neB, v_lenL, v_lenC, v_lenT, v_listL, v_listC, v_listT, v_tupL, v_tupC, v_tupT, v_tupLL, v_plusI, v_plusL, v_plusT, v_catL, v_slc, v_slcL, v_noPart, v_partO, v_asI, v_cutL, v_cutC, v_cutT, v_cutLL, v_cutLC, v_boolT, v_notT, v_andT, v_orT, v_yes, v_andE, v_orE, v_notE, v_ifE, v_andOk, v_orOk, v_andOkE, v_orOkE, v_isB, v_isI, v_isIB, v_eqS, v_neS, v_asB, v_args0, v_args1, v_tup, v_lst, v_call, v_callB, v_meth, v_methB, v_scal, v_scalI, v_scalB, v_scalS, v_scalN, v_rng1, v_rng2, v_rngD1, v_rngD2, v_seqI, v_tupI, v_seqL, v_seqC, v_seqT, v_seqQ, v_lenQ, v_tupQ, v_tupID, v_zipI, v_zipL, v_zipT, v_enumI, v_enumL, v_enumC, v_revI, v_revL, v_revT, v_comp, v_wipe0, v_wipe1, v_assoc, v_nx, v_end, v_asg, v_drop, v_ret, v_retN, v_raise, v_brk, v_cnt, v_if, v_iteT, v_iteF, v_asgG, v_nameG, v_consG, v_nilG, v_app, v_varP0, v_varPS, v_lstOf, v_set, v_for, v_outR, v_outX, v_outN, v_newF, v_outI, v_outIX, v_try, v_tryN, v_tryRt, v_divmod, v_dvm, v_tupRev, v_trev, v_lrev, v_lrevL, v_dnew, v_dnewT, v_din, v_dget, v_scalE, v_dlen, v_dlenT, v_dlenD, v_dlenTD, v_dgetI, v_dgetS, v_dput, divOk_of, smallI_of, intSz_of, lenSz_of, ok_bind, ex_bind, no_bind, bindS_ok, bindS_ex, ↓reduceIte, Option.bind_some, Int.reduceLT, Int.reduceLE, Nat.reduceLeDiff, Int.reduceNeg, Int.reduceEq, Bool.or_true, Bool.true_or, Bool.and_true, Bool.true_and, Bool.false_or, Bool.or_false, Bool.and_false, Bool.false_and, decide_true, decide_false, Bool.not_true, Bool.not_false, Bool.false_eq_true, fld_mill, cut_take]
  refine wp_for (Post := fun o => outF .F o = _) (fun n ρ => ∃ y, ρ = [some (millD ps), some (.int k), some (.int (prodN ((ps.take k).take n) : Nat)), y]) ⟨none, rfl⟩ ?_ ?_
  · rintro n d ρ hd ⟨y, rfl⟩
    rw [← List.map_take] at hd
    obtain ⟨p, hp, rfl⟩ := of_at_map hd
    refine ⟨_, v_nameG, ?_⟩
    have hl := hs p (List.mem_of_mem_take (List.mem_of_getElem? hp))
    have e : lenD (pkTD p) = .ok (.int p.length) := by
      show Rs.ok (Dt.int ((p.map pkD).length)) = _
      rw [List.length_map]
    simp (implicitDefEqProofs := false) only [List.set_cons_zero, List.set_cons_succ, List.map_cons, List.map_nil, List.cons_append, List.nil_append, List.append_nil, List.replicate_succ, List.replicate_zero, Nat.reduceSub, List.length_cons, List.length_nil, Nat.reduceAdd, v_var0, v_varS, v_con, v_add, v_sub, v_mul, v_div, v_mod, v_pow, v_shl, v_lt, v_le, v_gt, v_ge, v_eq, v_ne, v_in, v_nin, v_ix, v_plus, v_cat, v_rep, v_isN, v_notN, v_len, v_neg, v_isi, v_list, v_tuple, v_tupleL, v_fld, v_fldI, v_all, v_any, v_sum, v_max2, v_min2, v_i2, v_addI, v_subI, v_mulL, v_mulR, v_divI, v_modI, v_ltI, v_leI, v_gtI, v_geI, v_negD, v_eqI, v_neI, v_eqB, v_neB, v_lenL, v_lenC, v_lenT, v_listL, v_listC, v_listT, v_tupL, v_tupC, v_tupT, v_tupLL, v_plusI, v_plusL, v_plusT, v_catL, v_slc, v_slcL, v_noPart, v_partO, v_asI, v_cutL, v_cutC, v_cutT, v_cutLL, v_cutLC, v_boolT, v_notT, v_andT, v_orT, v_yes, v_andE, v_orE, v_notE, v_ifE, v_andOk, v_orOk, v_andOkE, v_orOkE, v_isB, v_isI, v_isIB, v_eqS, v_neS, v_asB, v_args0, v_args1, v_tup, v_lst, v_call, v_callB, v_meth, v_methB, v_scal, v_scalI, v_scalB, v_scalS, v_scalN, v_rng1, v_rng2, v_rngD1, v_rngD2, v_seqI, v_tupI, v_seqL, v_seqC, v_seqT, v_seqQ, v_lenQ, v_tupQ, v_tupID, v_zipI, v_zipL, v_zipT, v_enumI, v_enumL, v_enumC, v_revI, v_revL, v_revT, v_comp, v_wipe0, v_wipe1, v_assoc, v_nx, v_end, v_asg, v_drop, v_ret, v_retN, v_raise, v_brk, v_cnt, v_if, v_iteT, v_iteF, v_asgG, v_nameG, v_consG, v_nilG, v_app, v_varP0, v_varPS, v_lstOf, v_set, v_for, v_outR, v_outX, v_outN, v_newF, v_outI, v_outIX, v_try, v_tryN, v_tryRt, v_divmod, v_dvm, v_tupRev, v_trev, v_lrev, v_lrevL, v_dnew, v_dnewT, v_din, v_dget, v_scalE, v_dlen, v_dlenT, v_dlenD, v_dlenTD, v_dgetI, v_dgetS, v_dput, divOk_of, smallI_of, intSz_of, lenSz_of, ok_bind, ex_bind, no_bind, bindS_ok, bindS_ex, ↓reduceIte, Option.bind_some, Int.reduceLT, Int.reduceLE, Nat.reduceLeDiff, Int.reduceNeg, Int.reduceEq, Bool.or_true, Bool.true_or, Bool.and_true, Bool.true_and, Bool.false_or, Bool.or_false, Bool.and_false, Bool.false_and, decide_true, decide_false, Bool.not_true, Bool.not_false, Bool.false_eq_true, e, v_mulR (b := (p.length : Int)) (smallI_of (by omega) (by omega))]
    refine ⟨some (pkTD p), ?_⟩
    rw [List.take_add_one, hp]
    show _ = [_, _, some (Dt.int ((prodN ((ps.take k).take n ++ [p]) : Nat) : Int)), _]
    rw [prodN_snoc, Int.natCast_mul]
  · rintro ρ ⟨y, rfl⟩
    rw [← List.map_take, List.length_map, List.take_length]
    simp (implicitDefEqProofs := false) only [List.set_cons_zero, List.set_cons_succ, List.map_cons, List.map_nil, List.cons_append, List.nil_append, List.append_nil, List.replicate_succ, List.replicate_zero, Nat.reduceSub, List.length_cons, List.length_nil, Nat.reduceAdd, v_var0, v_varS, v_con, v_add, v_sub, v_mul, v_div, v_mod, v_pow, v_shl, v_lt, v_le, v_gt, v_ge, v_eq, v_ne, v_in, v_nin, v_ix, v_plus, v_cat, v_rep, v_isN, v_notN, v_len, v_neg, v_isi, v_list, v_tuple, v_tupleL, v_fld, v_fldI, v_all, v_any, v_sum, v_max2, v_min2, v_i2, v_addI, v_subI, v_mulL, v_mulR, v_divI, v_modI, v_ltI, v_leI, v_gtI, v_geI, v_negD, v_eqI, v_neI, v_eqB, v_neB, v_lenL, v_lenC, v_lenT, v_listL, v_listC, v_listT, v_tupL, v_tupC, v_tupT, v_tupLL, v_plusI, v_plusL, v_plusT, v_catL, v_slc, v_slcL, v_noPart, v_partO, v_asI, v_cutL, v_cutC, v_cutT, v_cutLL, v_cutLC, v_boolT, v_notT, v_andT, v_orT, v_yes, v_andE, v_orE, v_notE, v_ifE, v_andOk, v_orOk, v_andOkE, v_orOkE, v_isB, v_isI, v_isIB, v_eqS, v_neS, v_asB, v_args0, v_args1, v_tup, v_lst, v_call, v_callB, v_meth, v_methB, v_scal, v_scalI, v_scalB, v_scalS, v_scalN, v_rng1, v_rng2, v_rngD1, v_rngD2, v_seqI, v_tupI, v_seqL, v_seqC, v_seqT, v_seqQ, v_lenQ, v_tupQ, v_tupID, v_zipI, v_zipL, v_zipT, v_enumI, v_enumL, v_enumC, v_revI, v_revL, v_revT, v_comp, v_wipe0, v_wipe1, v_assoc, v_nx, v_end, v_asg, v_drop, v_ret, v_retN, v_raise, v_brk, v_cnt, v_if, v_iteT, v_iteF, v_asgG, v_nameG, v_consG, v_nilG, v_app, v_varP0, v_varPS, v_lstOf, v_set, v_for, v_outR, v_outX, v_outN, v_newF, v_outI, v_outIX, v_try, v_tryN, v_tryRt, v_divmod, v_dvm, v_tupRev, v_trev, v_lrev, v_lrevL, v_dnew, v_dnewT, v_din, v_dget, v_scalE, v_dlen, v_dlenT, v_dlenD, v_dlenTD, v_dgetI, v_dgetS, v_dput, divOk_of, smallI_of, intSz_of, lenSz_of, ok_bind, ex_bind, no_bind, bindS_ok, bindS_ex, ↓reduceIte, Option.bind_some, Int.reduceLT, Int.reduceLE, Nat.reduceLeDiff, Int.reduceNeg, Int.reduceEq, Bool.or_true, Bool.true_or, Bool.and_true, Bool.true_and, Bool.false_or, Bool.or_false, Bool.and_false, Bool.false_and, decide_true, decide_false, Bool.not_true, Bool.not_false, Bool.false_eq_true]
theorem codes_run (ps : List (List Pk)) (hs : ∀ p ∈ ps, p.length ≤ 1000) : F_Mill_codes [millD ps] = .ok (.int (prodN ps : Nat)) := by
  rw [R_Mill_codes]
  unfold Fb_Mill_codes
  simp (implicitDefEqProofs := false) only [List.set_cons_zero, List.set_cons_succ, List.map_cons, List.map_nil, List.cons_append, List.nil_append, List.append_nil, List.replicate_succ, List.replicate_zero, Nat.reduceSub, List.length_cons, List.length_nil, Nat.reduceAdd, v_var0, v_varS, v_con, v_add, v_sub, v_mul, v_div, v_mod, v_pow, v_shl, v_lt, v_le, v_gt, v_ge, v_eq, v_ne, v_in, v_nin, v_ix, v_plus, v_cat, v_rep, v_isN, v_notN, v_len, v_neg, v_isi, v_list, v_tuple, v_tupleL, v_fld, v_fldI, v_all, v_any, v_sum, v_max2, v_min2, v_i2, v_addI, v_subI, v_mulL, v_mulR, v_divI, v_modI, v_ltI, v_leI, v_gtI, v_geI, v_negD, v_eqI, v_neI, v_eqB, v_neB, v_lenL, v_lenC, v_lenT, v_listL, v_listC, v_listT, v_tupL, v_tupC, v_tupT, v_tupLL, v_plusI, v_plusL, v_plusT, v_catL, v_slc, v_slcL, v_noPart, v_partO, v_asI, v_cutL, v_cutC, v_cutT, v_cutLL, v_cutLC, v_boolT, v_notT, v_andT, v_orT, v_yes, v_andE, v_orE, v_notE, v_ifE, v_andOk, v_orOk, v_andOkE, v_orOkE, v_isB, v_isI, v_isIB, v_eqS, v_neS, v_asB, v_args0, v_args1, v_tup, v_lst, v_call, v_callB, v_meth, v_methB, v_scal, v_scalI, v_scalB, v_scalS, v_scalN, v_rng1, v_rng2, v_rngD1, v_rngD2, v_seqI, v_tupI, v_seqL, v_seqC, v_seqT, v_seqQ, v_lenQ, v_tupQ, v_tupID, v_zipI, v_zipL, v_zipT, v_enumI, v_enumL, v_enumC, v_revI, v_revL, v_revT, v_comp, v_wipe0, v_wipe1, v_assoc, v_nx, v_end, v_asg, v_drop, v_ret, v_retN, v_raise, v_brk, v_cnt, v_if, v_iteT, v_iteF, v_asgG, v_nameG, v_consG, v_nilG, v_app, v_varP0, v_varPS, v_lstOf, v_set, v_for, v_outR, v_outX, v_outN, v_newF, v_outI, v_outIX, v_try, v_tryN, v_tryRt, v_divmod, v_dvm, v_tupRev, v_trev, v_lrev, v_lrevL, v_dnew, v_dnewT, v_din, v_dget, v_scalE, v_dlen, v_dlenT, v_dlenD, v_dlenTD, v_dgetI, v_dgetS, v_dput, divOk_of, smallI_of, intSz_of, lenSz_of, ok_bind, ex_bind, no_bind, bindS_ok, bindS_ex, ↓reduceIte, Option.bind_some, Int.reduceLT, Int.reduceLE, Nat.reduceLeDiff, Int.reduceNeg, Int.reduceEq, Bool.or_true, Bool.true_or, Bool.and_true, Bool.true_and, Bool.false_or, Bool.or_false, Bool.and_false, Bool.false_and, decide_true, decide_false, Bool.not_true, Bool.not_false, Bool.false_eq_true, nom_many, many_run, codes_ahead_run _ _ hs, List.take_length]
/-- a mill that is one -/
def millB (ps : List (List Pk)) : Bool := decide (ps.length ≤ 6) && (ps.all passB && decide (prodN ps ≤ 1000))
theorem passB_len {p : List Pk} (h : passB p = true) : 1 ≤ p.length ∧ p.length ≤ 6 := by
  unfold passB at h
  simp only [Bool.and_eq_true, decide_eq_true_eq] at h
  exact ⟨h.1, h.2.1⟩
theorem mill_fold (ps : List (List Pk)) : Dt.ins "Mill" ["passes"] [.tup (ps.map pkTD)] = millD ps := rfl
theorem init_runG (b : Bool) (qs : List (Bool × List Pk)) (h6 : qs.length ≤ 6) (hp : (qs.map (·.2)).all passB = true) : F_Mill___init__ [sqD b (qs.map fun q => sqD q.1 (q.2.map pkD))] = if prodN (qs.map (·.2)) ≤ 1000 then .ok (millD (qs.map (·.2))) else .ex ("BadMill", none) := by
  rw [R_Mill___init__]
  unfold Fb_Mill___init__
  have hs : ∀ p ∈ qs.map (·.2), p.length ≤ 1000 := fun p q => by
    have := (passB_len (List.all_eq_true.mp hp p q)).2
    omega
  have c6 : ¬ (6 < (qs.length : Int)) := by omega
  have cm : compR (nameG 2) yesT (callE F_pockets_kept [varE 2]) [some (.ins "Mill" [] []), some (sqD b (qs.map fun q => sqD q.1 (q.2.map pkD))), none] (qs.map fun q => sqD q.1 (q.2.map pkD)) = .ok (.lst (qs.map fun q => pkTD q.2)) := by
    refine comp_map (lenSz_of (by omega)) fun p q => ⟨_, v_nameG, ?_⟩
    have := pockets_kept_run p.1 p.2
    rw [if_pos (List.all_eq_true.mp hp p.2 (List.mem_map_of_mem q))] at this
    simp (implicitDefEqProofs := false) only [List.set_cons_zero, List.set_cons_succ, List.map_cons, List.map_nil, List.cons_append, List.nil_append, List.append_nil, List.replicate_succ, List.replicate_zero, Nat.reduceSub, List.length_cons, List.length_nil, Nat.reduceAdd, v_var0, v_varS, v_con, v_add, v_sub, v_mul, v_div, v_mod, v_pow, v_shl, v_lt, v_le, v_gt, v_ge, v_eq, v_ne, v_in, v_nin, v_ix, v_plus, v_cat, v_rep, v_isN, v_notN, v_len, v_neg, v_isi, v_list, v_tuple, v_tupleL, v_fld, v_fldI, v_all, v_any, v_sum, v_max2, v_min2, v_i2, v_addI, v_subI, v_mulL, v_mulR, v_divI, v_modI, v_ltI, v_leI, v_gtI, v_geI, v_negD, v_eqI, v_neI, v_eqB, v_neB, v_lenL, v_lenC, v_lenT, v_listL, v_listC, v_listT, v_tupL, v_tupC, v_tupT, v_tupLL, v_plusI, v_plusL, v_plusT, v_catL, v_slc, v_slcL, v_noPart, v_partO, v_asI, v_cutL, v_cutC, v_cutT, v_cutLL, v_cutLC, v_boolT, v_notT, v_andT, v_orT, v_yes, v_andE, v_orE, v_notE, v_ifE, v_andOk, v_orOk, v_andOkE, v_orOkE, v_isB, v_isI, v_isIB, v_eqS, v_neS, v_asB, v_args0, v_args1, v_tup, v_lst, v_call, v_callB, v_meth, v_methB, v_scal, v_scalI, v_scalB, v_scalS, v_scalN, v_rng1, v_rng2, v_rngD1, v_rngD2, v_seqI, v_tupI, v_seqL, v_seqC, v_seqT, v_seqQ, v_lenQ, v_tupQ, v_tupID, v_zipI, v_zipL, v_zipT, v_enumI, v_enumL, v_enumC, v_revI, v_revL, v_revT, v_comp, v_wipe0, v_wipe1, v_assoc, v_nx, v_end, v_asg, v_drop, v_ret, v_retN, v_raise, v_brk, v_cnt, v_if, v_iteT, v_iteF, v_asgG, v_nameG, v_consG, v_nilG, v_app, v_varP0, v_varPS, v_lstOf, v_set, v_for, v_outR, v_outX, v_outN, v_newF, v_outI, v_outIX, v_try, v_tryN, v_tryRt, v_divmod, v_dvm, v_tupRev, v_trev, v_lrev, v_lrevL, v_dnew, v_dnewT, v_din, v_dget, v_scalE, v_dlen, v_dlenT, v_dlenD, v_dlenTD, v_dgetI, v_dgetS, v_dput, divOk_of, smallI_of, intSz_of, lenSz_of, ok_bind, ex_bind, no_bind, bindS_ok, bindS_ex, ↓reduceIte, Option.bind_some, Int.reduceLT, Int.reduceLE, Nat.reduceLeDiff, Int.reduceNeg, Int.reduceEq, Bool.or_true, Bool.true_or, Bool.and_true, Bool.true_and, Bool.false_or, Bool.or_false, Bool.and_false, Bool.false_and, decide_true, decide_false, Bool.not_true, Bool.not_false, Bool.false_eq_true]
    exact this
  have e0 : (qs.map fun q => pkTD q.2) = (qs.map (·.2)).map pkTD := by rw [List.map_map]; rfl
  simp (decide := true) (implicitDefEqProofs := false) only [List.set_cons_zero, List.set_cons_succ, List.map_cons, List.map_nil, List.cons_append, List.nil_append, List.append_nil, List.replicate_succ, List.replicate_zero, Nat.reduceSub, List.length_cons, List.length_nil, Nat.reduceAdd, v_var0, v_varS, v_con, v_add, v_sub, v_mul, v_div, v_mod, v_pow, v_shl, v_lt, v_le, v_gt, v_ge, v_eq, v_ne, v_in, v_nin, v_ix, v_plus, v_cat, v_rep, v_isN, v_notN, v_len, v_neg, v_isi, v_list, v_tuple, v_tupleL, v_fld, v_fldI, v_all, v_any, v_sum, v_max2, v_min2, v_i2, v_addI, v_subI, v_mulL, v_mulR, v_divI, v_modI, v_ltI, v_leI, v_gtI, v_geI, v_negD, v_eqI, v_neI, v_eqB, v_neB, v_lenL, v_lenC, v_lenT, v_listL, v_listC, v_listT, v_tupL, v_tupC, v_tupT, v_tupLL, v_plusI, v_plusL, v_plusT, v_catL, v_slc, v_slcL, v_noPart, v_partO, v_asI, v_cutL, v_cutC, v_cutT, v_cutLL, v_cutLC, v_boolT, v_notT, v_andT, v_orT, v_yes, v_andE, v_orE, v_notE, v_ifE, v_andOk, v_orOk, v_andOkE, v_orOkE, v_isB, v_isI, v_isIB, v_eqS, v_neS, v_asB, v_args0, v_args1, v_tup, v_lst, v_call, v_callB, v_meth, v_methB, v_scal, v_scalI, v_scalB, v_scalS, v_scalN, v_rng1, v_rng2, v_rngD1, v_rngD2, v_seqI, v_tupI, v_seqL, v_seqC, v_seqT, v_seqQ, v_lenQ, v_tupQ, v_tupID, v_zipI, v_zipL, v_zipT, v_enumI, v_enumL, v_enumC, v_revI, v_revL, v_revT, v_comp, v_wipe0, v_wipe1, v_assoc, v_nx, v_end, v_asg, v_drop, v_ret, v_retN, v_raise, v_brk, v_cnt, v_if, v_iteT, v_iteF, v_asgG, v_nameG, v_consG, v_nilG, v_app, v_varP0, v_varPS, v_lstOf, v_set, v_for, v_outR, v_outX, v_outN, v_newF, v_outI, v_outIX, v_try, v_tryN, v_tryRt, v_divmod, v_dvm, v_tupRev, v_trev, v_lrev, v_lrevL, v_dnew, v_dnewT, v_din, v_dget, v_scalE, v_dlen, v_dlenT, v_dlenD, v_dlenTD, v_dgetI, v_dgetS, v_dput, divOk_of, smallI_of, intSz_of, lenSz_of, ok_bind, ex_bind, no_bind, bindS_ok, bindS_ex, ↓reduceIte, Option.bind_some, Int.reduceLT, Int.reduceLE, Nat.reduceLeDiff, Int.reduceNeg, Int.reduceEq, Bool.or_true, Bool.true_or, Bool.and_true, Bool.true_and, Bool.false_or, Bool.or_false, Bool.and_false, Bool.false_and, decide_true, decide_false, Bool.not_true, Bool.not_false, Bool.false_eq_true, List.length_map, c6, cm, e0, mill_fold, nom_codes, codes_run _ hs]
  by_cases h : prodN (qs.map (·.2)) ≤ 1000
  · have e : ¬ (1000 < (prodN (qs.map (·.2)) : Int)) := by omega
    simp (implicitDefEqProofs := false) only [List.set_cons_zero, List.set_cons_succ, List.map_cons, List.map_nil, List.cons_append, List.nil_append, List.append_nil, List.replicate_succ, List.replicate_zero, Nat.reduceSub, List.length_cons, List.length_nil, Nat.reduceAdd, v_var0, v_varS, v_con, v_add, v_sub, v_mul, v_div, v_mod, v_pow, v_shl, v_lt, v_le, v_gt, v_ge, v_eq, v_ne, v_in, v_nin, v_ix, v_plus, v_cat, v_rep, v_isN, v_notN, v_len, v_neg, v_isi, v_list, v_tuple, v_tupleL, v_fld, v_fldI, v_all, v_any, v_sum, v_max2, v_min2, v_i2, v_addI, v_subI, v_mulL, v_mulR, v_divI, v_modI, v_ltI, v_leI, v_gtI, v_geI, v_negD, v_eqI, v_neI, v_eqB, v_neB, v_lenL, v_lenC, v_lenT, v_listL, v_listC, v_listT, v_tupL, v_tupC, v_tupT, v_tupLL, v_plusI, v_plusL, v_plusT, v_catL, v_slc, v_slcL, v_noPart, v_partO, v_asI, v_cutL, v_cutC, v_cutT, v_cutLL, v_cutLC, v_boolT, v_notT, v_andT, v_orT, v_yes, v_andE, v_orE, v_notE, v_ifE, v_andOk, v_orOk, v_andOkE, v_orOkE, v_isB, v_isI, v_isIB, v_eqS, v_neS, v_asB, v_args0, v_args1, v_tup, v_lst, v_call, v_callB, v_meth, v_methB, v_scal, v_scalI, v_scalB, v_scalS, v_scalN, v_rng1, v_rng2, v_rngD1, v_rngD2, v_seqI, v_tupI, v_seqL, v_seqC, v_seqT, v_seqQ, v_lenQ, v_tupQ, v_tupID, v_zipI, v_zipL, v_zipT, v_enumI, v_enumL, v_enumC, v_revI, v_revL, v_revT, v_comp, v_wipe0, v_wipe1, v_assoc, v_nx, v_end, v_asg, v_drop, v_ret, v_retN, v_raise, v_brk, v_cnt, v_if, v_iteT, v_iteF, v_asgG, v_nameG, v_consG, v_nilG, v_app, v_varP0, v_varPS, v_lstOf, v_set, v_for, v_outR, v_outX, v_outN, v_newF, v_outI, v_outIX, v_try, v_tryN, v_tryRt, v_divmod, v_dvm, v_tupRev, v_trev, v_lrev, v_lrevL, v_dnew, v_dnewT, v_din, v_dget, v_scalE, v_dlen, v_dlenT, v_dlenD, v_dlenTD, v_dgetI, v_dgetS, v_dput, divOk_of, smallI_of, intSz_of, lenSz_of, ok_bind, ex_bind, no_bind, bindS_ok, bindS_ex, ↓reduceIte, Option.bind_some, Int.reduceLT, Int.reduceLE, Nat.reduceLeDiff, Int.reduceNeg, Int.reduceEq, Bool.or_true, Bool.true_or, Bool.and_true, Bool.true_and, Bool.false_or, Bool.or_false, Bool.and_false, Bool.false_and, decide_true, decide_false, Bool.not_true, Bool.not_false, Bool.false_eq_true, e, h]
  · have e : (1000 < (prodN (qs.map (·.2)) : Int)) := by omega
    simp (implicitDefEqProofs := false) only [List.set_cons_zero, List.set_cons_succ, List.map_cons, List.map_nil, List.cons_append, List.nil_append, List.append_nil, List.replicate_succ, List.replicate_zero, Nat.reduceSub, List.length_cons, List.length_nil, Nat.reduceAdd, v_var0, v_varS, v_con, v_add, v_sub, v_mul, v_div, v_mod, v_pow, v_shl, v_lt, v_le, v_gt, v_ge, v_eq, v_ne, v_in, v_nin, v_ix, v_plus, v_cat, v_rep, v_isN, v_notN, v_len, v_neg, v_isi, v_list, v_tuple, v_tupleL, v_fld, v_fldI, v_all, v_any, v_sum, v_max2, v_min2, v_i2, v_addI, v_subI, v_mulL, v_mulR, v_divI, v_modI, v_ltI, v_leI, v_gtI, v_geI, v_negD, v_eqI, v_neI, v_eqB, v_neB, v_lenL, v_lenC, v_lenT, v_listL, v_listC, v_listT, v_tupL, v_tupC, v_tupT, v_tupLL, v_plusI, v_plusL, v_plusT, v_catL, v_slc, v_slcL, v_noPart, v_partO, v_asI, v_cutL, v_cutC, v_cutT, v_cutLL, v_cutLC, v_boolT, v_notT, v_andT, v_orT, v_yes, v_andE, v_orE, v_notE, v_ifE, v_andOk, v_orOk, v_andOkE, v_orOkE, v_isB, v_isI, v_isIB, v_eqS, v_neS, v_asB, v_args0, v_args1, v_tup, v_lst, v_call, v_callB, v_meth, v_methB, v_scal, v_scalI, v_scalB, v_scalS, v_scalN, v_rng1, v_rng2, v_rngD1, v_rngD2, v_seqI, v_tupI, v_seqL, v_seqC, v_seqT, v_seqQ, v_lenQ, v_tupQ, v_tupID, v_zipI, v_zipL, v_zipT, v_enumI, v_enumL, v_enumC, v_revI, v_revL, v_revT, v_comp, v_wipe0, v_wipe1, v_assoc, v_nx, v_end, v_asg, v_drop, v_ret, v_retN, v_raise, v_brk, v_cnt, v_if, v_iteT, v_iteF, v_asgG, v_nameG, v_consG, v_nilG, v_app, v_varP0, v_varPS, v_lstOf, v_set, v_for, v_outR, v_outX, v_outN, v_newF, v_outI, v_outIX, v_try, v_tryN, v_tryRt, v_divmod, v_dvm, v_tupRev, v_trev, v_lrev, v_lrevL, v_dnew, v_dnewT, v_din, v_dget, v_scalE, v_dlen, v_dlenT, v_dlenD, v_dlenTD, v_dgetI, v_dgetS, v_dput, divOk_of, smallI_of, intSz_of, lenSz_of, ok_bind, ex_bind, no_bind, bindS_ok, bindS_ex, ↓reduceIte, Option.bind_some, Int.reduceLT, Int.reduceLE, Nat.reduceLeDiff, Int.reduceNeg, Int.reduceEq, Bool.or_true, Bool.true_or, Bool.and_true, Bool.true_and, Bool.false_or, Bool.or_false, Bool.and_false, Bool.false_and, decide_true, decide_false, Bool.not_true, Bool.not_false, Bool.false_eq_true, e, h]
theorem init_runB (b c : Bool) (ps : List (List Pk)) (h6 : ps.length ≤ 6) (hp : ps.all passB = true) : F_Mill___init__ [sqD b (ps.map fun p => sqD c (p.map pkD))] = if prodN ps ≤ 1000 then .ok (millD ps) else .ex ("BadMill", none) := by
  have := init_runG b (ps.map fun p => (c, p)) (by rw [List.length_map]; exact h6) (by rw [List.map_map]; simpa using hp)
  rw [List.map_map, List.map_map] at this
  have e : ps.map ((fun q : Bool × List Pk => q.2) ∘ fun p => (c, p)) = ps := by
    conv => rhs; rw [← List.map_id ps]
    rfl
  rw [e] at this
  exact this
theorem init_run (ps : List (List Pk)) (h6 : ps.length ≤ 6) (hp : ps.all passB = true) : F_Mill___init__ [.lst (ps.map pkLD)] = if prodN ps ≤ 1000 then .ok (millD ps) else .ex ("BadMill", none) := init_runB false false ps h6 hp
theorem init_runT (ps : List (List Pk)) (h6 : ps.length ≤ 6) (hp : ps.all passB = true) : F_Mill___init__ [.tup (ps.map pkTD)] = if prodN ps ≤ 1000 then .ok (millD ps) else .ex ("BadMill", none) := init_runB true true ps h6 hp
theorem look_at_late_run (ps : List (List Pk)) (l : Int) : F_look_at_late [millD ps, .int l] = if 0 ≤ l ∧ l ≤ ps.length then .ok .non else .ex ("BadLate", none) := by
  rw [R_look_at_late]
  unfold Fb_look_at_late
  by_cases h1 : l < 0
  · simp (implicitDefEqProofs := false) only [List.set_cons_zero, List.set_cons_succ, List.map_cons, List.map_nil, List.cons_append, List.nil_append, List.append_nil, List.replicate_succ, List.replicate_zero, Nat.reduceSub, List.length_cons, List.length_nil, Nat.reduceAdd, v_var0, v_varS, v_con, v_add, v_sub, v_mul, v_div, v_mod, v_pow, v_shl, v_lt, v_le, v_gt, v_ge, v_eq, v_ne, v_in, v_nin, v_ix, v_plus, v_cat, v_rep, v_isN, v_notN, v_len, v_neg, v_isi, v_list, v_tuple, v_tupleL, v_fld, v_fldI, v_all, v_any, v_sum, v_max2, v_min2, v_i2, v_addI, v_subI, v_mulL, v_mulR, v_divI, v_modI, v_ltI, v_leI, v_gtI, v_geI, v_negD, v_eqI, v_neI, v_eqB, v_neB, v_lenL, v_lenC, v_lenT, v_listL, v_listC, v_listT, v_tupL, v_tupC, v_tupT, v_tupLL, v_plusI, v_plusL, v_plusT, v_catL, v_slc, v_slcL, v_noPart, v_partO, v_asI, v_cutL, v_cutC, v_cutT, v_cutLL, v_cutLC, v_boolT, v_notT, v_andT, v_orT, v_yes, v_andE, v_orE, v_notE, v_ifE, v_andOk, v_orOk, v_andOkE, v_orOkE, v_isB, v_isI, v_isIB, v_eqS, v_neS, v_asB, v_args0, v_args1, v_tup, v_lst, v_call, v_callB, v_meth, v_methB, v_scal, v_scalI, v_scalB, v_scalS, v_scalN, v_rng1, v_rng2, v_rngD1, v_rngD2, v_seqI, v_tupI, v_seqL, v_seqC, v_seqT, v_seqQ, v_lenQ, v_tupQ, v_tupID, v_zipI, v_zipL, v_zipT, v_enumI, v_enumL, v_enumC, v_revI, v_revL, v_revT, v_comp, v_wipe0, v_wipe1, v_assoc, v_nx, v_end, v_asg, v_drop, v_ret, v_retN, v_raise, v_brk, v_cnt, v_if, v_iteT, v_iteF, v_asgG, v_nameG, v_consG, v_nilG, v_app, v_varP0, v_varPS, v_lstOf, v_set, v_for, v_outR, v_outX, v_outN, v_newF, v_outI, v_outIX, v_try, v_tryN, v_tryRt, v_divmod, v_dvm, v_tupRev, v_trev, v_lrev, v_lrevL, v_dnew, v_dnewT, v_din, v_dget, v_scalE, v_dlen, v_dlenT, v_dlenD, v_dlenTD, v_dgetI, v_dgetS, v_dput, divOk_of, smallI_of, intSz_of, lenSz_of, ok_bind, ex_bind, no_bind, bindS_ok, bindS_ex, ↓reduceIte, Option.bind_some, Int.reduceLT, Int.reduceLE, Nat.reduceLeDiff, Int.reduceNeg, Int.reduceEq, Bool.or_true, Bool.true_or, Bool.and_true, Bool.true_and, Bool.false_or, Bool.or_false, Bool.and_false, Bool.false_and, decide_true, decide_false, Bool.not_true, Bool.not_false, Bool.false_eq_true, h1]
    rw [if_neg (by omega)]
  by_cases h2 : (ps.length : Int) < l
  · simp (implicitDefEqProofs := false) only [List.set_cons_zero, List.set_cons_succ, List.map_cons, List.map_nil, List.cons_append, List.nil_append, List.append_nil, List.replicate_succ, List.replicate_zero, Nat.reduceSub, List.length_cons, List.length_nil, Nat.reduceAdd, v_var0, v_varS, v_con, v_add, v_sub, v_mul, v_div, v_mod, v_pow, v_shl, v_lt, v_le, v_gt, v_ge, v_eq, v_ne, v_in, v_nin, v_ix, v_plus, v_cat, v_rep, v_isN, v_notN, v_len, v_neg, v_isi, v_list, v_tuple, v_tupleL, v_fld, v_fldI, v_all, v_any, v_sum, v_max2, v_min2, v_i2, v_addI, v_subI, v_mulL, v_mulR, v_divI, v_modI, v_ltI, v_leI, v_gtI, v_geI, v_negD, v_eqI, v_neI, v_eqB, v_neB, v_lenL, v_lenC, v_lenT, v_listL, v_listC, v_listT, v_tupL, v_tupC, v_tupT, v_tupLL, v_plusI, v_plusL, v_plusT, v_catL, v_slc, v_slcL, v_noPart, v_partO, v_asI, v_cutL, v_cutC, v_cutT, v_cutLL, v_cutLC, v_boolT, v_notT, v_andT, v_orT, v_yes, v_andE, v_orE, v_notE, v_ifE, v_andOk, v_orOk, v_andOkE, v_orOkE, v_isB, v_isI, v_isIB, v_eqS, v_neS, v_asB, v_args0, v_args1, v_tup, v_lst, v_call, v_callB, v_meth, v_methB, v_scal, v_scalI, v_scalB, v_scalS, v_scalN, v_rng1, v_rng2, v_rngD1, v_rngD2, v_seqI, v_tupI, v_seqL, v_seqC, v_seqT, v_seqQ, v_lenQ, v_tupQ, v_tupID, v_zipI, v_zipL, v_zipT, v_enumI, v_enumL, v_enumC, v_revI, v_revL, v_revT, v_comp, v_wipe0, v_wipe1, v_assoc, v_nx, v_end, v_asg, v_drop, v_ret, v_retN, v_raise, v_brk, v_cnt, v_if, v_iteT, v_iteF, v_asgG, v_nameG, v_consG, v_nilG, v_app, v_varP0, v_varPS, v_lstOf, v_set, v_for, v_outR, v_outX, v_outN, v_newF, v_outI, v_outIX, v_try, v_tryN, v_tryRt, v_divmod, v_dvm, v_tupRev, v_trev, v_lrev, v_lrevL, v_dnew, v_dnewT, v_din, v_dget, v_scalE, v_dlen, v_dlenT, v_dlenD, v_dlenTD, v_dgetI, v_dgetS, v_dput, divOk_of, smallI_of, intSz_of, lenSz_of, ok_bind, ex_bind, no_bind, bindS_ok, bindS_ex, ↓reduceIte, Option.bind_some, Int.reduceLT, Int.reduceLE, Nat.reduceLeDiff, Int.reduceNeg, Int.reduceEq, Bool.or_true, Bool.true_or, Bool.and_true, Bool.true_and, Bool.false_or, Bool.or_false, Bool.and_false, Bool.false_and, decide_true, decide_false, Bool.not_true, Bool.not_false, Bool.false_eq_true, h1, nom_many, many_run, h2]
    rw [if_neg (by omega)]
  · simp (implicitDefEqProofs := false) only [List.set_cons_zero, List.set_cons_succ, List.map_cons, List.map_nil, List.cons_append, List.nil_append, List.append_nil, List.replicate_succ, List.replicate_zero, Nat.reduceSub, List.length_cons, List.length_nil, Nat.reduceAdd, v_var0, v_varS, v_con, v_add, v_sub, v_mul, v_div, v_mod, v_pow, v_shl, v_lt, v_le, v_gt, v_ge, v_eq, v_ne, v_in, v_nin, v_ix, v_plus, v_cat, v_rep, v_isN, v_notN, v_len, v_neg, v_isi, v_list, v_tuple, v_tupleL, v_fld, v_fldI, v_all, v_any, v_sum, v_max2, v_min2, v_i2, v_addI, v_subI, v_mulL, v_mulR, v_divI, v_modI, v_ltI, v_leI, v_gtI, v_geI, v_negD, v_eqI, v_neI, v_eqB, v_neB, v_lenL, v_lenC, v_lenT, v_listL, v_listC, v_listT, v_tupL, v_tupC, v_tupT, v_tupLL, v_plusI, v_plusL, v_plusT, v_catL, v_slc, v_slcL, v_noPart, v_partO, v_asI, v_cutL, v_cutC, v_cutT, v_cutLL, v_cutLC, v_boolT, v_notT, v_andT, v_orT, v_yes, v_andE, v_orE, v_notE, v_ifE, v_andOk, v_orOk, v_andOkE, v_orOkE, v_isB, v_isI, v_isIB, v_eqS, v_neS, v_asB, v_args0, v_args1, v_tup, v_lst, v_call, v_callB, v_meth, v_methB, v_scal, v_scalI, v_scalB, v_scalS, v_scalN, v_rng1, v_rng2, v_rngD1, v_rngD2, v_seqI, v_tupI, v_seqL, v_seqC, v_seqT, v_seqQ, v_lenQ, v_tupQ, v_tupID, v_zipI, v_zipL, v_zipT, v_enumI, v_enumL, v_enumC, v_revI, v_revL, v_revT, v_comp, v_wipe0, v_wipe1, v_assoc, v_nx, v_end, v_asg, v_drop, v_ret, v_retN, v_raise, v_brk, v_cnt, v_if, v_iteT, v_iteF, v_asgG, v_nameG, v_consG, v_nilG, v_app, v_varP0, v_varPS, v_lstOf, v_set, v_for, v_outR, v_outX, v_outN, v_newF, v_outI, v_outIX, v_try, v_tryN, v_tryRt, v_divmod, v_dvm, v_tupRev, v_trev, v_lrev, v_lrevL, v_dnew, v_dnewT, v_din, v_dget, v_scalE, v_dlen, v_dlenT, v_dlenD, v_dlenTD, v_dgetI, v_dgetS, v_dput, divOk_of, smallI_of, intSz_of, lenSz_of, ok_bind, ex_bind, no_bind, bindS_ok, bindS_ex, ↓reduceIte, Option.bind_some, Int.reduceLT, Int.reduceLE, Nat.reduceLeDiff, Int.reduceNeg, Int.reduceEq, Bool.or_true, Bool.true_or, Bool.and_true, Bool.true_and, Bool.false_or, Bool.or_false, Bool.and_false, Bool.false_and, decide_true, decide_false, Bool.not_true, Bool.not_false, Bool.false_eq_true, h1, nom_many, many_run, h2]
    rw [if_pos (by omega)]
/-! words -/
def wdD (ws : List Int) : Dt := .tup (ws.map Dt.int)
def pairB (q : Int × List Pk) : Bool := decide (0 ≤ q.1) && decide (q.1 < q.2.length)
def wordB (ps : List (List Pk)) (ws : List Int) : Bool := decide (ws.length = ps.length) && (ws.zip ps).all pairB
theorem lenD_pk (p : List Pk) : lenD (pkTD p) = .ok (.int p.length) := by
  show Rs.ok (Dt.int ((p.map pkD).length)) = _
  rw [List.length_map]
def Look_at_wordP (ps : List (List Pk)) (l : Int) (ws : List Int) (o : Ot) : Prop := outF .F o = if ¬ (0 ≤ l ∧ l ≤ ps.length) then .ex ("BadLate", none) else if wordB (ps.drop l.toNat) ws = true then .ok .non else .ex ("BadWord", none)
theorem look_at_word_run (ps : List (List Pk)) (l : Int) (ws : List Int) : F_look_at_word [millD ps, .int l, wdD ws] = if ¬ (0 ≤ l ∧ l ≤ ps.length) then .ex ("BadLate", none) else if wordB (ps.drop l.toNat) ws = true then .ok .non else .ex ("BadWord", none) := by
  rw [R_look_at_word]
  unfold Fb_look_at_word
  show Look_at_wordP ps l ws _
  by_cases hl : 0 ≤ l ∧ l ≤ ps.length
  case neg =>
    have e : F_look_at_late [millD ps, .int l] = .ex ("BadLate", none) := by rw [look_at_late_run, if_neg hl]
    simp (implicitDefEqProofs := false) only [List.set_cons_zero, List.set_cons_succ, List.map_cons, List.map_nil, List.cons_append, List.nil_append, List.append_nil, List.replicate_succ, List.replicate_zero, Nat.reduceSub, List.length_cons, List.length_nil, Nat.reduceAdd, v_var0, v_varS, v_con, v_add, v_sub, v_mul, v_div, v_mod, v_pow, v_shl, v_lt, v_le, v_gt, v_ge, v_eq, v_ne, v_in, v_nin, v_ix, v_plus, v_cat, v_rep, v_isN, v_notN, v_len, v_neg, v_isi, v_list, v_tuple, v_tupleL, v_fld, v_fldI, v_all, v_any, v_sum, v_max2, v_min2, v_i2, v_addI, v_subI, v_mulL, v_mulR, v_divI, v_modI, v_ltI, v_leI, v_gtI, v_geI, v_negD, v_eqI, v_neI, v_eqB, v_neB, v_lenL, v_lenC, v_lenT, v_listL, v_listC, v_listT, v_tupL, v_tupC, v_tupT, v_tupLL, v_plusI, v_plusL, v_plusT, v_catL, v_slc, v_slcL, v_noPart, v_partO, v_asI, v_cutL, v_cutC, v_cutT, v_cutLL, v_cutLC, v_boolT, v_notT, v_andT, v_orT, v_yes, v_andE, v_orE, v_notE, v_ifE, v_andOk, v_orOk, v_andOkE, v_orOkE, v_isB, v_isI, v_isIB, v_eqS, v_neS, v_asB, v_args0, v_args1, v_tup, v_lst, v_call, v_callB, v_meth, v_methB, v_scal, v_scalI, v_scalB, v_scalS, v_scalN, v_rng1, v_rng2, v_rngD1, v_rngD2, v_seqI, v_tupI, v_seqL, v_seqC, v_seqT, v_seqQ, v_lenQ, v_tupQ, v_tupID, v_zipI, v_zipL, v_zipT, v_enumI, v_enumL, v_enumC, v_revI, v_revL, v_revT, v_comp, v_wipe0, v_wipe1, v_assoc, v_nx, v_end, v_asg, v_drop, v_ret, v_retN, v_raise, v_brk, v_cnt, v_if, v_iteT, v_iteF, v_asgG, v_nameG, v_consG, v_nilG, v_app, v_varP0, v_varPS, v_lstOf, v_set, v_for, v_outR, v_outX, v_outN, v_newF, v_outI, v_outIX, v_try, v_tryN, v_tryRt, v_divmod, v_dvm, v_tupRev, v_trev, v_lrev, v_lrevL, v_dnew, v_dnewT, v_din, v_dget, v_scalE, v_dlen, v_dlenT, v_dlenD, v_dlenTD, v_dgetI, v_dgetS, v_dput, divOk_of, smallI_of, intSz_of, lenSz_of, ok_bind, ex_bind, no_bind, bindS_ok, bindS_ex, ↓reduceIte, Option.bind_some, Int.reduceLT, Int.reduceLE, Nat.reduceLeDiff, Int.reduceNeg, Int.reduceEq, Bool.or_true, Bool.true_or, Bool.and_true, Bool.true_and, Bool.false_or, Bool.or_false, Bool.and_false, Bool.false_and, decide_true, decide_false, Bool.not_true, Bool.not_false, Bool.false_eq_true, e]
    unfold Look_at_wordP
    rw [if_pos hl]
    rfl
  obtain ⟨k, rfl⟩ := Int.eq_ofNat_of_zero_le hl.1
  have e : F_look_at_late [millD ps, .int k] = .ok .non := by rw [look_at_late_run, if_pos hl]
  have hk : k ≤ ps.length := by omega
  have sw : ∀ o : Ot, (outF .F o = if wordB (ps.drop k) ws = true then .ok .non else .ex ("BadWord", none)) → Look_at_wordP ps k ws o := fun o h => by
    unfold Look_at_wordP
    rw [if_neg (by omega)]
    exact h
  have bad : wordB (ps.drop k) ws = false → ∀ ρ : Ev, Look_at_wordP ps k ws (.ex ("BadWord", none) ρ) := fun h ρ => sw _ (by rw [h]; rfl)
  unfold wdD
  simp (implicitDefEqProofs := false) only [List.set_cons_zero, List.set_cons_succ, List.map_cons, List.map_nil, List.cons_append, List.nil_append, List.append_nil, List.replicate_succ, List.replicate_zero, Nat.reduceSub, List.length_cons, List.length_nil, Nat.reduceAdd, v_var0, v_varS, v_con, v_add, v_sub, v_mul, v_div, v_mod, v_pow, v_shl, v_lt, v_le, v_gt, v_ge, v_eq, v_ne, v_in, v_nin, v_ix, v_plus, v_cat, v_rep, v_isN, v_notN, v_len, v_neg, v_isi, v_list, v_tuple, v_tupleL, v_fld, v_fldI, v_all, v_any, v_sum, v_max2, v_min2, v_i2, v_addI, v_subI, v_mulL, v_mulR, v_divI, v_modI, v_ltI, v_leI, v_gtI, v_geI, v_negD, v_eqI, v_neI, v_eqB, v_neB, v_lenL, v_lenC, v_lenT, v_listL, v_listC, v_listT, v_tupL, v_tupC, v_tupT, v_tupLL, v_plusI, v_plusL, v_plusT, v_catL, v_slc, v_slcL, v_noPart, v_partO, v_asI, v_cutL, v_cutC, v_cutT, v_cutLL, v_cutLC, v_boolT, v_notT, v_andT, v_orT, v_yes, v_andE, v_orE, v_notE, v_ifE, v_andOk, v_orOk, v_andOkE, v_orOkE, v_isB, v_isI, v_isIB, v_eqS, v_neS, v_asB, v_args0, v_args1, v_tup, v_lst, v_call, v_callB, v_meth, v_methB, v_scal, v_scalI, v_scalB, v_scalS, v_scalN, v_rng1, v_rng2, v_rngD1, v_rngD2, v_seqI, v_tupI, v_seqL, v_seqC, v_seqT, v_seqQ, v_lenQ, v_tupQ, v_tupID, v_zipI, v_zipL, v_zipT, v_enumI, v_enumL, v_enumC, v_revI, v_revL, v_revT, v_comp, v_wipe0, v_wipe1, v_assoc, v_nx, v_end, v_asg, v_drop, v_ret, v_retN, v_raise, v_brk, v_cnt, v_if, v_iteT, v_iteF, v_asgG, v_nameG, v_consG, v_nilG, v_app, v_varP0, v_varPS, v_lstOf, v_set, v_for, v_outR, v_outX, v_outN, v_newF, v_outI, v_outIX, v_try, v_tryN, v_tryRt, v_divmod, v_dvm, v_tupRev, v_trev, v_lrev, v_lrevL, v_dnew, v_dnewT, v_din, v_dget, v_scalE, v_dlen, v_dlenT, v_dlenD, v_dlenTD, v_dgetI, v_dgetS, v_dput, divOk_of, smallI_of, intSz_of, lenSz_of, ok_bind, ex_bind, no_bind, bindS_ok, bindS_ex, ↓reduceIte, Option.bind_some, Int.reduceLT, Int.reduceLE, Nat.reduceLeDiff, Int.reduceNeg, Int.reduceEq, Bool.or_true, Bool.true_or, Bool.and_true, Bool.true_and, Bool.false_or, Bool.or_false, Bool.and_false, Bool.false_and, decide_true, decide_false, Bool.not_true, Bool.not_false, Bool.false_eq_true, e, nom_many, many_run, List.length_map, fld_mill, cut_drop, ← List.map_drop, zipL_map]
  refine wp_ite (fun h => ?_) (fun h => ?_)
  · simp (implicitDefEqProofs := false) only [List.set_cons_zero, List.set_cons_succ, List.map_cons, List.map_nil, List.cons_append, List.nil_append, List.append_nil, List.replicate_succ, List.replicate_zero, Nat.reduceSub, List.length_cons, List.length_nil, Nat.reduceAdd, v_var0, v_varS, v_con, v_add, v_sub, v_mul, v_div, v_mod, v_pow, v_shl, v_lt, v_le, v_gt, v_ge, v_eq, v_ne, v_in, v_nin, v_ix, v_plus, v_cat, v_rep, v_isN, v_notN, v_len, v_neg, v_isi, v_list, v_tuple, v_tupleL, v_fld, v_fldI, v_all, v_any, v_sum, v_max2, v_min2, v_i2, v_addI, v_subI, v_mulL, v_mulR, v_divI, v_modI, v_ltI, v_leI, v_gtI, v_geI, v_negD, v_eqI, v_neI, v_eqB, v_neB, v_lenL, v_lenC, v_lenT, v_listL, v_listC, v_listT, v_tupL, v_tupC, v_tupT, v_tupLL, v_plusI, v_plusL, v_plusT, v_catL, v_slc, v_slcL, v_noPart, v_partO, v_asI, v_cutL, v_cutC, v_cutT, v_cutLL, v_cutLC, v_boolT, v_notT, v_andT, v_orT, v_yes, v_andE, v_orE, v_notE, v_ifE, v_andOk, v_orOk, v_andOkE, v_orOkE, v_isB, v_isI, v_isIB, v_eqS, v_neS, v_asB, v_args0, v_args1, v_tup, v_lst, v_call, v_callB, v_meth, v_methB, v_scal, v_scalI, v_scalB, v_scalS, v_scalN, v_rng1, v_rng2, v_rngD1, v_rngD2, v_seqI, v_tupI, v_seqL, v_seqC, v_seqT, v_seqQ, v_lenQ, v_tupQ, v_tupID, v_zipI, v_zipL, v_zipT, v_enumI, v_enumL, v_enumC, v_revI, v_revL, v_revT, v_comp, v_wipe0, v_wipe1, v_assoc, v_nx, v_end, v_asg, v_drop, v_ret, v_retN, v_raise, v_brk, v_cnt, v_if, v_iteT, v_iteF, v_asgG, v_nameG, v_consG, v_nilG, v_app, v_varP0, v_varPS, v_lstOf, v_set, v_for, v_outR, v_outX, v_outN, v_newF, v_outI, v_outIX, v_try, v_tryN, v_tryRt, v_divmod, v_dvm, v_tupRev, v_trev, v_lrev, v_lrevL, v_dnew, v_dnewT, v_din, v_dget, v_scalE, v_dlen, v_dlenT, v_dlenD, v_dlenTD, v_dgetI, v_dgetS, v_dput, divOk_of, smallI_of, intSz_of, lenSz_of, ok_bind, ex_bind, no_bind, bindS_ok, bindS_ex, ↓reduceIte, Option.bind_some, Int.reduceLT, Int.reduceLE, Nat.reduceLeDiff, Int.reduceNeg, Int.reduceEq, Bool.or_true, Bool.true_or, Bool.and_true, Bool.true_and, Bool.false_or, Bool.or_false, Bool.and_false, Bool.false_and, decide_true, decide_false, Bool.not_true, Bool.not_false, Bool.false_eq_true]
    refine bad ?_ _
    have : ¬ (ws.length = (ps.drop k).length) := by
      rw [List.length_drop]
      simp at h
      omega
    unfold wordB
    rw [decide_eq_false this, Bool.false_and]
  · have hlen : ws.length = (ps.drop k).length := by
      rw [List.length_drop]
      simp at h
      omega
    simp (implicitDefEqProofs := false) only [List.set_cons_zero, List.set_cons_succ, List.map_cons, List.map_nil, List.cons_append, List.nil_append, List.append_nil, List.replicate_succ, List.replicate_zero, Nat.reduceSub, List.length_cons, List.length_nil, Nat.reduceAdd, v_var0, v_varS, v_con, v_add, v_sub, v_mul, v_div, v_mod, v_pow, v_shl, v_lt, v_le, v_gt, v_ge, v_eq, v_ne, v_in, v_nin, v_ix, v_plus, v_cat, v_rep, v_isN, v_notN, v_len, v_neg, v_isi, v_list, v_tuple, v_tupleL, v_fld, v_fldI, v_all, v_any, v_sum, v_max2, v_min2, v_i2, v_addI, v_subI, v_mulL, v_mulR, v_divI, v_modI, v_ltI, v_leI, v_gtI, v_geI, v_negD, v_eqI, v_neI, v_eqB, v_neB, v_lenL, v_lenC, v_lenT, v_listL, v_listC, v_listT, v_tupL, v_tupC, v_tupT, v_tupLL, v_plusI, v_plusL, v_plusT, v_catL, v_slc, v_slcL, v_noPart, v_partO, v_asI, v_cutL, v_cutC, v_cutT, v_cutLL, v_cutLC, v_boolT, v_notT, v_andT, v_orT, v_yes, v_andE, v_orE, v_notE, v_ifE, v_andOk, v_orOk, v_andOkE, v_orOkE, v_isB, v_isI, v_isIB, v_eqS, v_neS, v_asB, v_args0, v_args1, v_tup, v_lst, v_call, v_callB, v_meth, v_methB, v_scal, v_scalI, v_scalB, v_scalS, v_scalN, v_rng1, v_rng2, v_rngD1, v_rngD2, v_seqI, v_tupI, v_seqL, v_seqC, v_seqT, v_seqQ, v_lenQ, v_tupQ, v_tupID, v_zipI, v_zipL, v_zipT, v_enumI, v_enumL, v_enumC, v_revI, v_revL, v_revT, v_comp, v_wipe0, v_wipe1, v_assoc, v_nx, v_end, v_asg, v_drop, v_ret, v_retN, v_raise, v_brk, v_cnt, v_if, v_iteT, v_iteF, v_asgG, v_nameG, v_consG, v_nilG, v_app, v_varP0, v_varPS, v_lstOf, v_set, v_for, v_outR, v_outX, v_outN, v_newF, v_outI, v_outIX, v_try, v_tryN, v_tryRt, v_divmod, v_dvm, v_tupRev, v_trev, v_lrev, v_lrevL, v_dnew, v_dnewT, v_din, v_dget, v_scalE, v_dlen, v_dlenT, v_dlenD, v_dlenTD, v_dgetI, v_dgetS, v_dput, divOk_of, smallI_of, intSz_of, lenSz_of, ok_bind, ex_bind, no_bind, bindS_ok, bindS_ex, ↓reduceIte, Option.bind_some, Int.reduceLT, Int.reduceLE, Nat.reduceLeDiff, Int.reduceNeg, Int.reduceEq, Bool.or_true, Bool.true_or, Bool.and_true, Bool.true_and, Bool.false_or, Bool.or_false, Bool.and_false, Bool.false_and, decide_true, decide_false, Bool.not_true, Bool.not_false, Bool.false_eq_true, nom_many, many_run, List.length_map, fld_mill, cut_drop, ← List.map_drop, zipL_map]
    refine wp_for (fun n ρ => ((ws.zip (ps.drop k)).take n).all pairB = true ∧ ∃ x y, ρ = [some (millD ps), some (.int k), some (.tup (ws.map Dt.int)), x, y]) ⟨rfl, none, none, rfl⟩ ?_ ?_
    · rintro n d ρ hd ⟨ha, x, y, rfl⟩
      obtain ⟨⟨w, p⟩, hq, rfl⟩ := of_at_map hd
      have tk : (ws.zip (ps.drop k)).take (n + 1) = (ws.zip (ps.drop k)).take n ++ [(w, p)] := by rw [List.take_add_one, hq]; rfl
      refine ⟨[some (millD ps), some (.int k), some (.tup (ws.map Dt.int)), some (.int w), some (pkTD p)], rfl, ?_⟩
      have hbad : pairB (w, p) = false → wordB (ps.drop k) ws = false := fun hb => by
        unfold wordB
        have : (ws.zip (ps.drop k)).all pairB = false := by
          rw [List.all_eq_false]
          exact ⟨_, List.mem_of_getElem? hq, by rw [hb]; simp⟩
        rw [this, Bool.and_false]
      by_cases e1 : w < 0
      · simp (implicitDefEqProofs := false) only [List.set_cons_zero, List.set_cons_succ, List.map_cons, List.map_nil, List.cons_append, List.nil_append, List.append_nil, List.replicate_succ, List.replicate_zero, Nat.reduceSub, List.length_cons, List.length_nil, Nat.reduceAdd, v_var0, v_varS, v_con, v_add, v_sub, v_mul, v_div, v_mod, v_pow, v_shl, v_lt, v_le, v_gt, v_ge, v_eq, v_ne, v_in, v_nin, v_ix, v_plus, v_cat, v_rep, v_isN, v_notN, v_len, v_neg, v_isi, v_list, v_tuple, v_tupleL, v_fld, v_fldI, v_all, v_any, v_sum, v_max2, v_min2, v_i2, v_addI, v_subI, v_mulL, v_mulR, v_divI, v_modI, v_ltI, v_leI, v_gtI, v_geI, v_negD, v_eqI, v_neI, v_eqB, v_neB, v_lenL, v_lenC, v_lenT, v_listL, v_listC, v_listT, v_tupL, v_tupC, v_tupT, v_tupLL, v_plusI, v_plusL, v_plusT, v_catL, v_slc, v_slcL, v_noPart, v_partO, v_asI, v_cutL, v_cutC, v_cutT, v_cutLL, v_cutLC, v_boolT, v_notT, v_andT, v_orT, v_yes, v_andE, v_orE, v_notE, v_ifE, v_andOk, v_orOk, v_andOkE, v_orOkE, v_isB, v_isI, v_isIB, v_eqS, v_neS, v_asB, v_args0, v_args1, v_tup, v_lst, v_call, v_callB, v_meth, v_methB, v_scal, v_scalI, v_scalB, v_scalS, v_scalN, v_rng1, v_rng2, v_rngD1, v_rngD2, v_seqI, v_tupI, v_seqL, v_seqC, v_seqT, v_seqQ, v_lenQ, v_tupQ, v_tupID, v_zipI, v_zipL, v_zipT, v_enumI, v_enumL, v_enumC, v_revI, v_revL, v_revT, v_comp, v_wipe0, v_wipe1, v_assoc, v_nx, v_end, v_asg, v_drop, v_ret, v_retN, v_raise, v_brk, v_cnt, v_if, v_iteT, v_iteF, v_asgG, v_nameG, v_consG, v_nilG, v_app, v_varP0, v_varPS, v_lstOf, v_set, v_for, v_outR, v_outX, v_outN, v_newF, v_outI, v_outIX, v_try, v_tryN, v_tryRt, v_divmod, v_dvm, v_tupRev, v_trev, v_lrev, v_lrevL, v_dnew, v_dnewT, v_din, v_dget, v_scalE, v_dlen, v_dlenT, v_dlenD, v_dlenTD, v_dgetI, v_dgetS, v_dput, divOk_of, smallI_of, intSz_of, lenSz_of, ok_bind, ex_bind, no_bind, bindS_ok, bindS_ex, ↓reduceIte, Option.bind_some, Int.reduceLT, Int.reduceLE, Nat.reduceLeDiff, Int.reduceNeg, Int.reduceEq, Bool.or_true, Bool.true_or, Bool.and_true, Bool.true_and, Bool.false_or, Bool.or_false, Bool.and_false, Bool.false_and, decide_true, decide_false, Bool.not_true, Bool.not_false, Bool.false_eq_true, e1, lenD_pk]
        refine bad (hbad ?_) _
        unfold pairB
        rw [decide_eq_false (p := 0 ≤ w) (by omega), Bool.false_and]
      by_cases e2 : (p.length : Int) ≤ w
      · simp (implicitDefEqProofs := false) only [List.set_cons_zero, List.set_cons_succ, List.map_cons, List.map_nil, List.cons_append, List.nil_append, List.append_nil, List.replicate_succ, List.replicate_zero, Nat.reduceSub, List.length_cons, List.length_nil, Nat.reduceAdd, v_var0, v_varS, v_con, v_add, v_sub, v_mul, v_div, v_mod, v_pow, v_shl, v_lt, v_le, v_gt, v_ge, v_eq, v_ne, v_in, v_nin, v_ix, v_plus, v_cat, v_rep, v_isN, v_notN, v_len, v_neg, v_isi, v_list, v_tuple, v_tupleL, v_fld, v_fldI, v_all, v_any, v_sum, v_max2, v_min2, v_i2, v_addI, v_subI, v_mulL, v_mulR, v_divI, v_modI, v_ltI, v_leI, v_gtI, v_geI, v_negD, v_eqI, v_neI, v_eqB, v_neB, v_lenL, v_lenC, v_lenT, v_listL, v_listC, v_listT, v_tupL, v_tupC, v_tupT, v_tupLL, v_plusI, v_plusL, v_plusT, v_catL, v_slc, v_slcL, v_noPart, v_partO, v_asI, v_cutL, v_cutC, v_cutT, v_cutLL, v_cutLC, v_boolT, v_notT, v_andT, v_orT, v_yes, v_andE, v_orE, v_notE, v_ifE, v_andOk, v_orOk, v_andOkE, v_orOkE, v_isB, v_isI, v_isIB, v_eqS, v_neS, v_asB, v_args0, v_args1, v_tup, v_lst, v_call, v_callB, v_meth, v_methB, v_scal, v_scalI, v_scalB, v_scalS, v_scalN, v_rng1, v_rng2, v_rngD1, v_rngD2, v_seqI, v_tupI, v_seqL, v_seqC, v_seqT, v_seqQ, v_lenQ, v_tupQ, v_tupID, v_zipI, v_zipL, v_zipT, v_enumI, v_enumL, v_enumC, v_revI, v_revL, v_revT, v_comp, v_wipe0, v_wipe1, v_assoc, v_nx, v_end, v_asg, v_drop, v_ret, v_retN, v_raise, v_brk, v_cnt, v_if, v_iteT, v_iteF, v_asgG, v_nameG, v_consG, v_nilG, v_app, v_varP0, v_varPS, v_lstOf, v_set, v_for, v_outR, v_outX, v_outN, v_newF, v_outI, v_outIX, v_try, v_tryN, v_tryRt, v_divmod, v_dvm, v_tupRev, v_trev, v_lrev, v_lrevL, v_dnew, v_dnewT, v_din, v_dget, v_scalE, v_dlen, v_dlenT, v_dlenD, v_dlenTD, v_dgetI, v_dgetS, v_dput, divOk_of, smallI_of, intSz_of, lenSz_of, ok_bind, ex_bind, no_bind, bindS_ok, bindS_ex, ↓reduceIte, Option.bind_some, Int.reduceLT, Int.reduceLE, Nat.reduceLeDiff, Int.reduceNeg, Int.reduceEq, Bool.or_true, Bool.true_or, Bool.and_true, Bool.true_and, Bool.false_or, Bool.or_false, Bool.and_false, Bool.false_and, decide_true, decide_false, Bool.not_true, Bool.not_false, Bool.false_eq_true, e1, e2, lenD_pk]
        refine bad (hbad ?_) _
        unfold pairB
        rw [decide_eq_false (p := w < p.length) (by omega), Bool.and_false]
      simp (implicitDefEqProofs := false) only [List.set_cons_zero, List.set_cons_succ, List.map_cons, List.map_nil, List.cons_append, List.nil_append, List.append_nil, List.replicate_succ, List.replicate_zero, Nat.reduceSub, List.length_cons, List.length_nil, Nat.reduceAdd, v_var0, v_varS, v_con, v_add, v_sub, v_mul, v_div, v_mod, v_pow, v_shl, v_lt, v_le, v_gt, v_ge, v_eq, v_ne, v_in, v_nin, v_ix, v_plus, v_cat, v_rep, v_isN, v_notN, v_len, v_neg, v_isi, v_list, v_tuple, v_tupleL, v_fld, v_fldI, v_all, v_any, v_sum, v_max2, v_min2, v_i2, v_addI, v_subI, v_mulL, v_mulR, v_divI, v_modI, v_ltI, v_leI, v_gtI, v_geI, v_negD, v_eqI, v_neI, v_eqB, v_neB, v_lenL, v_lenC, v_lenT, v_listL, v_listC, v_listT, v_tupL, v_tupC, v_tupT, v_tupLL, v_plusI, v_plusL, v_plusT, v_catL, v_slc, v_slcL, v_noPart, v_partO, v_asI, v_cutL, v_cutC, v_cutT, v_cutLL, v_cutLC, v_boolT, v_notT, v_andT, v_orT, v_yes, v_andE, v_orE, v_notE, v_ifE, v_andOk, v_orOk, v_andOkE, v_orOkE, v_isB, v_isI, v_isIB, v_eqS, v_neS, v_asB, v_args0, v_args1, v_tup, v_lst, v_call, v_callB, v_meth, v_methB, v_scal, v_scalI, v_scalB, v_scalS, v_scalN, v_rng1, v_rng2, v_rngD1, v_rngD2, v_seqI, v_tupI, v_seqL, v_seqC, v_seqT, v_seqQ, v_lenQ, v_tupQ, v_tupID, v_zipI, v_zipL, v_zipT, v_enumI, v_enumL, v_enumC, v_revI, v_revL, v_revT, v_comp, v_wipe0, v_wipe1, v_assoc, v_nx, v_end, v_asg, v_drop, v_ret, v_retN, v_raise, v_brk, v_cnt, v_if, v_iteT, v_iteF, v_asgG, v_nameG, v_consG, v_nilG, v_app, v_varP0, v_varPS, v_lstOf, v_set, v_for, v_outR, v_outX, v_outN, v_newF, v_outI, v_outIX, v_try, v_tryN, v_tryRt, v_divmod, v_dvm, v_tupRev, v_trev, v_lrev, v_lrevL, v_dnew, v_dnewT, v_din, v_dget, v_scalE, v_dlen, v_dlenT, v_dlenD, v_dlenTD, v_dgetI, v_dgetS, v_dput, divOk_of, smallI_of, intSz_of, lenSz_of, ok_bind, ex_bind, no_bind, bindS_ok, bindS_ex, ↓reduceIte, Option.bind_some, Int.reduceLT, Int.reduceLE, Nat.reduceLeDiff, Int.reduceNeg, Int.reduceEq, Bool.or_true, Bool.true_or, Bool.and_true, Bool.true_and, Bool.false_or, Bool.or_false, Bool.and_false, Bool.false_and, decide_true, decide_false, Bool.not_true, Bool.not_false, Bool.false_eq_true, e1, e2, lenD_pk]
      refine ⟨?_, _, _, rfl⟩
      rw [tk, List.all_append, ha]
      have : pairB (w, p) = true := by
        unfold pairB
        rw [decide_eq_true (p := 0 ≤ w) (by omega), decide_eq_true (p := w < p.length) (by omega)]
        rfl
      simp [this]
    · rintro ρ ⟨ha, x, y, rfl⟩
      rw [List.length_map, List.take_length] at ha
      simp (implicitDefEqProofs := false) only [List.set_cons_zero, List.set_cons_succ, List.map_cons, List.map_nil, List.cons_append, List.nil_append, List.append_nil, List.replicate_succ, List.replicate_zero, Nat.reduceSub, List.length_cons, List.length_nil, Nat.reduceAdd, v_var0, v_varS, v_con, v_add, v_sub, v_mul, v_div, v_mod, v_pow, v_shl, v_lt, v_le, v_gt, v_ge, v_eq, v_ne, v_in, v_nin, v_ix, v_plus, v_cat, v_rep, v_isN, v_notN, v_len, v_neg, v_isi, v_list, v_tuple, v_tupleL, v_fld, v_fldI, v_all, v_any, v_sum, v_max2, v_min2, v_i2, v_addI, v_subI, v_mulL, v_mulR, v_divI, v_modI, v_ltI, v_leI, v_gtI, v_geI, v_negD, v_eqI, v_neI, v_eqB, v_neB, v_lenL, v_lenC, v_lenT, v_listL, v_listC, v_listT, v_tupL, v_tupC, v_tupT, v_tupLL, v_plusI, v_plusL, v_plusT, v_catL, v_slc, v_slcL, v_noPart, v_partO, v_asI, v_cutL, v_cutC, v_cutT, v_cutLL, v_cutLC, v_boolT, v_notT, v_andT, v_orT, v_yes, v_andE, v_orE, v_notE, v_ifE, v_andOk, v_orOk, v_andOkE, v_orOkE, v_isB, v_isI, v_isIB, v_eqS, v_neS, v_asB, v_args0, v_args1, v_tup, v_lst, v_call, v_callB, v_meth, v_methB, v_scal, v_scalI, v_scalB, v_scalS, v_scalN, v_rng1, v_rng2, v_rngD1, v_rngD2, v_seqI, v_tupI, v_seqL, v_seqC, v_seqT, v_seqQ, v_lenQ, v_tupQ, v_tupID, v_zipI, v_zipL, v_zipT, v_enumI, v_enumL, v_enumC, v_revI, v_revL, v_revT, v_comp, v_wipe0, v_wipe1, v_assoc, v_nx, v_end, v_asg, v_drop, v_ret, v_retN, v_raise, v_brk, v_cnt, v_if, v_iteT, v_iteF, v_asgG, v_nameG, v_consG, v_nilG, v_app, v_varP0, v_varPS, v_lstOf, v_set, v_for, v_outR, v_outX, v_outN, v_newF, v_outI, v_outIX, v_try, v_tryN, v_tryRt, v_divmod, v_dvm, v_tupRev, v_trev, v_lrev, v_lrevL, v_dnew, v_dnewT, v_din, v_dget, v_scalE, v_dlen, v_dlenT, v_dlenD, v_dlenTD, v_dgetI, v_dgetS, v_dput, divOk_of, smallI_of, intSz_of, lenSz_of, ok_bind, ex_bind, no_bind, bindS_ok, bindS_ex, ↓reduceIte, Option.bind_some, Int.reduceLT, Int.reduceLE, Nat.reduceLeDiff, Int.reduceNeg, Int.reduceEq, Bool.or_true, Bool.true_or, Bool.and_true, Bool.true_and, Bool.false_or, Bool.or_false, Bool.and_false, Bool.false_and, decide_true, decide_false, Bool.not_true, Bool.not_false, Bool.false_eq_true]
      refine sw _ ?_
      have : wordB (ps.drop k) ws = true := by
        unfold wordB
        rw [ha, decide_eq_true hlen]
        rfl
      rw [this]
      rfl
theorem wordB_iff {ps : List (List Pk)} {ws : List Int} : wordB ps ws = true ↔ ws.length = ps.length ∧ ∀ (i : Nat) (w : Int) (p : List Pk), ws[i]? = some w → ps[i]? = some p → 0 ≤ w ∧ w < p.length := by
  unfold wordB
  rw [Bool.and_eq_true, decide_eq_true_eq, List.all_eq_true]
  constructor
  · rintro ⟨h1, h2⟩
    refine ⟨h1, fun i w p hw hp => ?_⟩
    have := h2 (w, p) (List.mem_of_getElem? (i := i) (by rw [List.getElem?_zip_eq_some]; exact ⟨hw, hp⟩))
    unfold pairB at this
    simpa using this
  · rintro ⟨h1, h2⟩
    refine ⟨h1, fun q hq => ?_⟩
    obtain ⟨i, hi⟩ := List.mem_iff_getElem?.mp hq
    rw [List.getElem?_zip_eq_some] at hi
    have := h2 i q.1 q.2 hi.1 hi.2
    unfold pairB
    simpa using this
/-! the drawn mill -/
theorem pocket_run (c : Int) : ∃ q : Pk, pkB q = true ∧ F__law_pocket [.int c] = .ok (pkD q) := by
  rw [R__law_pocket]
  unfold Fb__law_pocket
  obtain ⟨w, hw, ew⟩ := ix_ints (vs := [9, 9, 9, 2, c / 16 % 10]) (k := c / 2 % 5) (by omega) (by simp; omega)
  have hw2 : 0 ≤ w ∧ w ≤ 9 := by
    simp only [List.mem_cons, List.not_mem_nil, or_false] at hw
    omega
  have ek : ∃ k : Str, kindB k = true ∧ atI [Dt.str "queue", Dt.str "pile"] (c % 2) = some (.str k) := by
    rcases Int.emod_two_eq c with h | h
    · exact ⟨"queue", by decide, by rw [h]; rfl⟩
    · exact ⟨"pile", by decide, by rw [h]; rfl⟩
  obtain ⟨k, hk, ek⟩ := ek
  refine ⟨(k, w), ?_, ?_⟩
  · unfold pkB
    rw [hk, decide_eq_true hw2.1, decide_eq_true hw2.2]
    rfl
  · have e1 : ixD (.lst [.int 9, .int 9, .int 9, .int 2, .int (c / 16 % 10)]) (.int (c / 2 % 5)) = .ok (.int w) := v_ixL ew
    simp (decide := true) (implicitDefEqProofs := false) only [List.set_cons_zero, List.set_cons_succ, List.map_cons, List.map_nil, List.cons_append, List.nil_append, List.append_nil, List.replicate_succ, List.replicate_zero, Nat.reduceSub, List.length_cons, List.length_nil, Nat.reduceAdd, v_var0, v_varS, v_con, v_add, v_sub, v_mul, v_div, v_mod, v_pow, v_shl, v_lt, v_le, v_gt, v_ge, v_eq, v_ne, v_in, v_nin, v_ix, v_plus, v_cat, v_rep, v_isN, v_notN, v_len, v_neg, v_isi, v_list, v_tuple, v_tupleL, v_fld, v_fldI, v_all, v_any, v_sum, v_max2, v_min2, v_i2, v_addI, v_subI, v_mulL, v_mulR, v_divI, v_modI, v_ltI, v_leI, v_gtI, v_geI, v_negD, v_eqI, v_neI, v_eqB, v_neB, v_lenL, v_lenC, v_lenT, v_listL, v_listC, v_listT, v_tupL, v_tupC, v_tupT, v_tupLL, v_plusI, v_plusL, v_plusT, v_catL, v_slc, v_slcL, v_noPart, v_partO, v_asI, v_cutL, v_cutC, v_cutT, v_cutLL, v_cutLC, v_boolT, v_notT, v_andT, v_orT, v_yes, v_andE, v_orE, v_notE, v_ifE, v_andOk, v_orOk, v_andOkE, v_orOkE, v_isB, v_isI, v_isIB, v_eqS, v_neS, v_asB, v_args0, v_args1, v_tup, v_lst, v_call, v_callB, v_meth, v_methB, v_scal, v_scalI, v_scalB, v_scalS, v_scalN, v_rng1, v_rng2, v_rngD1, v_rngD2, v_seqI, v_tupI, v_seqL, v_seqC, v_seqT, v_seqQ, v_lenQ, v_tupQ, v_tupID, v_zipI, v_zipL, v_zipT, v_enumI, v_enumL, v_enumC, v_revI, v_revL, v_revT, v_comp, v_wipe0, v_wipe1, v_assoc, v_nx, v_end, v_asg, v_drop, v_ret, v_retN, v_raise, v_brk, v_cnt, v_if, v_iteT, v_iteF, v_asgG, v_nameG, v_consG, v_nilG, v_app, v_varP0, v_varPS, v_lstOf, v_set, v_for, v_outR, v_outX, v_outN, v_newF, v_outI, v_outIX, v_try, v_tryN, v_tryRt, v_divmod, v_dvm, v_tupRev, v_trev, v_lrev, v_lrevL, v_dnew, v_dnewT, v_din, v_dget, v_scalE, v_dlen, v_dlenT, v_dlenD, v_dlenTD, v_dgetI, v_dgetS, v_dput, divOk_of, smallI_of, intSz_of, lenSz_of, ok_bind, ex_bind, no_bind, bindS_ok, bindS_ex, ↓reduceIte, Option.bind_some, Int.reduceLT, Int.reduceLE, Nat.reduceLeDiff, Int.reduceNeg, Int.reduceEq, Bool.or_true, Bool.true_or, Bool.and_true, Bool.true_and, Bool.false_or, Bool.or_false, Bool.and_false, Bool.false_and, decide_true, decide_false, Bool.not_true, Bool.not_false, Bool.false_eq_true, e1, v_ixL ek]
    rfl
def PassesP (most : Nat) (o : Ot) : Prop := ∃ ps : List (List Pk), ps.length ≤ 6 ∧ ps.all passB = true ∧ prodN ps ≤ most ∧ outF .F o = .ok (.lst (ps.map pkLD))
theorem passes_run (cs : List Int) (most : Nat) (hc : cs.length = 44) (hm : 1 ≤ most) (hm2 : most ≤ 100000) : ∃ ps : List (List Pk), ps.length ≤ 6 ∧ ps.all passB = true ∧ prodN ps ≤ most ∧ F__law_passes [.lst (cs.map .int), .int most] = .ok (.lst (ps.map pkLD)) := by
  rw [R__law_passes]
  unfold Fb__law_passes
  show PassesP most _
  have at_ : ∀ k : Nat, k < 44 → ∃ c, ixD (.lst (cs.map .int)) (.int k) = .ok (.int c) := fun k hk => by
    obtain ⟨c, h1, _⟩ := at_of_lt (xs := cs) (k := k) (by omega)
    exact ⟨c, v_ixL (atI_nat (at_map h1))⟩
  obtain ⟨c0, e0⟩ := at_ 0 (by omega)
  obtain ⟨n, hn, en⟩ := ix_ints (vs := [1, 2, 3, 2, 5, 4, 0, 6]) (k := c0 / 3 % 8) (by omega) (by simp; omega)
  have hn2 : 0 ≤ n ∧ n ≤ 6 := by
    simp only [List.mem_cons, List.not_mem_nil, or_false] at hn
    omega
  have e1 : ixD (.lst [.int 1, .int 2, .int 3, .int 2, .int 5, .int 4, .int 0, .int 6]) (.int (c0 / 3 % 8)) = .ok (.int n) := v_ixL en
  rw [show ((0 : Nat) : Int) = 0 from rfl] at e0
  simp (decide := true) (implicitDefEqProofs := false) only [List.set_cons_zero, List.set_cons_succ, List.map_cons, List.map_nil, List.cons_append, List.nil_append, List.append_nil, List.replicate_succ, List.replicate_zero, Nat.reduceSub, List.length_cons, List.length_nil, Nat.reduceAdd, v_var0, v_varS, v_con, v_add, v_sub, v_mul, v_div, v_mod, v_pow, v_shl, v_lt, v_le, v_gt, v_ge, v_eq, v_ne, v_in, v_nin, v_ix, v_plus, v_cat, v_rep, v_isN, v_notN, v_len, v_neg, v_isi, v_list, v_tuple, v_tupleL, v_fld, v_fldI, v_all, v_any, v_sum, v_max2, v_min2, v_i2, v_addI, v_subI, v_mulL, v_mulR, v_divI, v_modI, v_ltI, v_leI, v_gtI, v_geI, v_negD, v_eqI, v_neI, v_eqB, v_neB, v_lenL, v_lenC, v_lenT, v_listL, v_listC, v_listT, v_tupL, v_tupC, v_tupT, v_tupLL, v_plusI, v_plusL, v_plusT, v_catL, v_slc, v_slcL, v_noPart, v_partO, v_asI, v_cutL, v_cutC, v_cutT, v_cutLL, v_cutLC, v_boolT, v_notT, v_andT, v_orT, v_yes, v_andE, v_orE, v_notE, v_ifE, v_andOk, v_orOk, v_andOkE, v_orOkE, v_isB, v_isI, v_isIB, v_eqS, v_neS, v_asB, v_args0, v_args1, v_tup, v_lst, v_call, v_callB, v_meth, v_methB, v_scal, v_scalI, v_scalB, v_scalS, v_scalN, v_rng1, v_rng2, v_rngD1, v_rngD2, v_seqI, v_tupI, v_seqL, v_seqC, v_seqT, v_seqQ, v_lenQ, v_tupQ, v_tupID, v_zipI, v_zipL, v_zipT, v_enumI, v_enumL, v_enumC, v_revI, v_revL, v_revT, v_comp, v_wipe0, v_wipe1, v_assoc, v_nx, v_end, v_asg, v_drop, v_ret, v_retN, v_raise, v_brk, v_cnt, v_if, v_iteT, v_iteF, v_asgG, v_nameG, v_consG, v_nilG, v_app, v_varP0, v_varPS, v_lstOf, v_set, v_for, v_outR, v_outX, v_outN, v_newF, v_outI, v_outIX, v_try, v_tryN, v_tryRt, v_divmod, v_dvm, v_tupRev, v_trev, v_lrev, v_lrevL, v_dnew, v_dnewT, v_din, v_dget, v_scalE, v_dlen, v_dlenT, v_dlenD, v_dlenTD, v_dgetI, v_dgetS, v_dput, divOk_of, smallI_of, intSz_of, lenSz_of, ok_bind, ex_bind, no_bind, bindS_ok, bindS_ex, ↓reduceIte, Option.bind_some, Int.reduceLT, Int.reduceLE, Nat.reduceLeDiff, Int.reduceNeg, Int.reduceEq, Bool.or_true, Bool.true_or, Bool.and_true, Bool.true_and, Bool.false_or, Bool.or_false, Bool.and_false, Bool.false_and, decide_true, decide_false, Bool.not_true, Bool.not_false, Bool.false_eq_true, e0, e1, v_rngD1 (intSz_of (a := n) (by omega) (by omega))]
  refine wp_for (fun t ρ => ∃ (ps : List (List Pk)) (x y : Option Dt), ps.length = t ∧ ps.all passB = true ∧ prodN ps ≤ most ∧ ρ = [some (.lst (cs.map .int)), some (.int most), some (.lst (ps.map pkLD)), some (.int (prodN ps : Nat)), x, y, none]) ⟨[], none, none, rfl, rfl, hm, rfl⟩ ?_ ?_
  · rintro t d ρ hd ⟨ps, x, y, hl, hp, hq, rfl⟩
    obtain ⟨ht, rfl⟩ := rangeL0_at hd
    have ht : t < 6 := by omega
    refine ⟨_, v_nameG, ?_⟩
    obtain ⟨c1, e1⟩ := at_ (1 + 7 * t) (by omega)
    obtain ⟨m, hm, em⟩ := ix_ints (vs := [1, 2, 3, 2, 3, 2, 4, 6]) (k := c1 / 5 % 8) (by omega) (by simp; omega)
    have hm2 : 1 ≤ m ∧ m ≤ 6 := by
      simp only [List.mem_cons, List.not_mem_nil, or_false] at hm
      omega
    have e2 : ixD (.lst [.int 1, .int 2, .int 3, .int 2, .int 3, .int 2, .int 4, .int 6]) (.int (c1 / 5 % 8)) = .ok (.int m) := v_ixL em
    rw [Int.natCast_add, Int.natCast_mul] at e1
    have e1 : ixD (.lst (cs.map .int)) (.int (1 + 7 * (t : Int))) = .ok (.int c1) := e1
    simp (decide := true) (implicitDefEqProofs := false) only [List.set_cons_zero, List.set_cons_succ, List.map_cons, List.map_nil, List.cons_append, List.nil_append, List.append_nil, List.replicate_succ, List.replicate_zero, Nat.reduceSub, List.length_cons, List.length_nil, Nat.reduceAdd, v_var0, v_varS, v_con, v_add, v_sub, v_mul, v_div, v_mod, v_pow, v_shl, v_lt, v_le, v_gt, v_ge, v_eq, v_ne, v_in, v_nin, v_ix, v_plus, v_cat, v_rep, v_isN, v_notN, v_len, v_neg, v_isi, v_list, v_tuple, v_tupleL, v_fld, v_fldI, v_all, v_any, v_sum, v_max2, v_min2, v_i2, v_addI, v_subI, v_mulL, v_mulR, v_divI, v_modI, v_ltI, v_leI, v_gtI, v_geI, v_negD, v_eqI, v_neI, v_eqB, v_neB, v_lenL, v_lenC, v_lenT, v_listL, v_listC, v_listT, v_tupL, v_tupC, v_tupT, v_tupLL, v_plusI, v_plusL, v_plusT, v_catL, v_slc, v_slcL, v_noPart, v_partO, v_asI, v_cutL, v_cutC, v_cutT, v_cutLL, v_cutLC, v_boolT, v_notT, v_andT, v_orT, v_yes, v_andE, v_orE, v_notE, v_ifE, v_andOk, v_orOk, v_andOkE, v_orOkE, v_isB, v_isI, v_isIB, v_eqS, v_neS, v_asB, v_args0, v_args1, v_tup, v_lst, v_call, v_callB, v_meth, v_methB, v_scal, v_scalI, v_scalB, v_scalS, v_scalN, v_rng1, v_rng2, v_rngD1, v_rngD2, v_seqI, v_tupI, v_seqL, v_seqC, v_seqT, v_seqQ, v_lenQ, v_tupQ, v_tupID, v_zipI, v_zipL, v_zipT, v_enumI, v_enumL, v_enumC, v_revI, v_revL, v_revT, v_comp, v_wipe0, v_wipe1, v_assoc, v_nx, v_end, v_asg, v_drop, v_ret, v_retN, v_raise, v_brk, v_cnt, v_if, v_iteT, v_iteF, v_asgG, v_nameG, v_consG, v_nilG, v_app, v_varP0, v_varPS, v_lstOf, v_set, v_for, v_outR, v_outX, v_outN, v_newF, v_outI, v_outIX, v_try, v_tryN, v_tryRt, v_divmod, v_dvm, v_tupRev, v_trev, v_lrev, v_lrevL, v_dnew, v_dnewT, v_din, v_dget, v_scalE, v_dlen, v_dlenT, v_dlenD, v_dlenTD, v_dgetI, v_dgetS, v_dput, divOk_of, smallI_of, intSz_of, lenSz_of, ok_bind, ex_bind, no_bind, bindS_ok, bindS_ex, ↓reduceIte, Option.bind_some, Int.reduceLT, Int.reduceLE, Nat.reduceLeDiff, Int.reduceNeg, Int.reduceEq, Bool.or_true, Bool.true_or, Bool.and_true, Bool.true_and, Bool.false_or, Bool.or_false, Bool.and_false, Bool.false_and, decide_true, decide_false, Bool.not_true, Bool.not_false, Bool.false_eq_true, e1, e2, v_mulR (smallI_of (a := m) (by omega) (by omega))]
    refine wp_join (fun ρ' => ∃ m : Int, 1 ≤ m ∧ m ≤ 6 ∧ (prodN ps : Int) * m ≤ most ∧ ρ' = [some (.lst (cs.map .int)), some (.int most), some (.lst (ps.map pkLD)), some (.int (prodN ps : Nat)), some (.int (t : Nat)), some (.int m), none]) (fun h => ?_) (fun h => ?_) ?_
    · simp (implicitDefEqProofs := false) only [List.set_cons_zero, List.set_cons_succ, List.map_cons, List.map_nil, List.cons_append, List.nil_append, List.append_nil, List.replicate_succ, List.replicate_zero, Nat.reduceSub, List.length_cons, List.length_nil, Nat.reduceAdd, v_var0, v_varS, v_con, v_add, v_sub, v_mul, v_div, v_mod, v_pow, v_shl, v_lt, v_le, v_gt, v_ge, v_eq, v_ne, v_in, v_nin, v_ix, v_plus, v_cat, v_rep, v_isN, v_notN, v_len, v_neg, v_isi, v_list, v_tuple, v_tupleL, v_fld, v_fldI, v_all, v_any, v_sum, v_max2, v_min2, v_i2, v_addI, v_subI, v_mulL, v_mulR, v_divI, v_modI, v_ltI, v_leI, v_gtI, v_geI, v_negD, v_eqI, v_neI, v_eqB, v_neB, v_lenL, v_lenC, v_lenT, v_listL, v_listC, v_listT, v_tupL, v_tupC, v_tupT, v_tupLL, v_plusI, v_plusL, v_plusT, v_catL, v_slc, v_slcL, v_noPart, v_partO, v_asI, v_cutL, v_cutC, v_cutT, v_cutLL, v_cutLC, v_boolT, v_notT, v_andT, v_orT, v_yes, v_andE, v_orE, v_notE, v_ifE, v_andOk, v_orOk, v_andOkE, v_orOkE, v_isB, v_isI, v_isIB, v_eqS, v_neS, v_asB, v_args0, v_args1, v_tup, v_lst, v_call, v_callB, v_meth, v_methB, v_scal, v_scalI, v_scalB, v_scalS, v_scalN, v_rng1, v_rng2, v_rngD1, v_rngD2, v_seqI, v_tupI, v_seqL, v_seqC, v_seqT, v_seqQ, v_lenQ, v_tupQ, v_tupID, v_zipI, v_zipL, v_zipT, v_enumI, v_enumL, v_enumC, v_revI, v_revL, v_revT, v_comp, v_wipe0, v_wipe1, v_assoc, v_nx, v_end, v_asg, v_drop, v_ret, v_retN, v_raise, v_brk, v_cnt, v_if, v_iteT, v_iteF, v_asgG, v_nameG, v_consG, v_nilG, v_app, v_varP0, v_varPS, v_lstOf, v_set, v_for, v_outR, v_outX, v_outN, v_newF, v_outI, v_outIX, v_try, v_tryN, v_tryRt, v_divmod, v_dvm, v_tupRev, v_trev, v_lrev, v_lrevL, v_dnew, v_dnewT, v_din, v_dget, v_scalE, v_dlen, v_dlenT, v_dlenD, v_dlenTD, v_dgetI, v_dgetS, v_dput, divOk_of, smallI_of, intSz_of, lenSz_of, ok_bind, ex_bind, no_bind, bindS_ok, bindS_ex, ↓reduceIte, Option.bind_some, Int.reduceLT, Int.reduceLE, Nat.reduceLeDiff, Int.reduceNeg, Int.reduceEq, Bool.or_true, Bool.true_or, Bool.and_true, Bool.true_and, Bool.false_or, Bool.or_false, Bool.and_false, Bool.false_and, decide_true, decide_false, Bool.not_true, Bool.not_false, Bool.false_eq_true]
      exact ⟨1, by decide, by decide, by rw [Int.mul_one]; exact Int.ofNat_le.mpr hq, rfl⟩
    · simp (implicitDefEqProofs := false) only [List.set_cons_zero, List.set_cons_succ, List.map_cons, List.map_nil, List.cons_append, List.nil_append, List.append_nil, List.replicate_succ, List.replicate_zero, Nat.reduceSub, List.length_cons, List.length_nil, Nat.reduceAdd, v_var0, v_varS, v_con, v_add, v_sub, v_mul, v_div, v_mod, v_pow, v_shl, v_lt, v_le, v_gt, v_ge, v_eq, v_ne, v_in, v_nin, v_ix, v_plus, v_cat, v_rep, v_isN, v_notN, v_len, v_neg, v_isi, v_list, v_tuple, v_tupleL, v_fld, v_fldI, v_all, v_any, v_sum, v_max2, v_min2, v_i2, v_addI, v_subI, v_mulL, v_mulR, v_divI, v_modI, v_ltI, v_leI, v_gtI, v_geI, v_negD, v_eqI, v_neI, v_eqB, v_neB, v_lenL, v_lenC, v_lenT, v_listL, v_listC, v_listT, v_tupL, v_tupC, v_tupT, v_tupLL, v_plusI, v_plusL, v_plusT, v_catL, v_slc, v_slcL, v_noPart, v_partO, v_asI, v_cutL, v_cutC, v_cutT, v_cutLL, v_cutLC, v_boolT, v_notT, v_andT, v_orT, v_yes, v_andE, v_orE, v_notE, v_ifE, v_andOk, v_orOk, v_andOkE, v_orOkE, v_isB, v_isI, v_isIB, v_eqS, v_neS, v_asB, v_args0, v_args1, v_tup, v_lst, v_call, v_callB, v_meth, v_methB, v_scal, v_scalI, v_scalB, v_scalS, v_scalN, v_rng1, v_rng2, v_rngD1, v_rngD2, v_seqI, v_tupI, v_seqL, v_seqC, v_seqT, v_seqQ, v_lenQ, v_tupQ, v_tupID, v_zipI, v_zipL, v_zipT, v_enumI, v_enumL, v_enumC, v_revI, v_revL, v_revT, v_comp, v_wipe0, v_wipe1, v_assoc, v_nx, v_end, v_asg, v_drop, v_ret, v_retN, v_raise, v_brk, v_cnt, v_if, v_iteT, v_iteF, v_asgG, v_nameG, v_consG, v_nilG, v_app, v_varP0, v_varPS, v_lstOf, v_set, v_for, v_outR, v_outX, v_outN, v_newF, v_outI, v_outIX, v_try, v_tryN, v_tryRt, v_divmod, v_dvm, v_tupRev, v_trev, v_lrev, v_lrevL, v_dnew, v_dnewT, v_din, v_dget, v_scalE, v_dlen, v_dlenT, v_dlenD, v_dlenTD, v_dgetI, v_dgetS, v_dput, divOk_of, smallI_of, intSz_of, lenSz_of, ok_bind, ex_bind, no_bind, bindS_ok, bindS_ex, ↓reduceIte, Option.bind_some, Int.reduceLT, Int.reduceLE, Nat.reduceLeDiff, Int.reduceNeg, Int.reduceEq, Bool.or_true, Bool.true_or, Bool.and_true, Bool.true_and, Bool.false_or, Bool.or_false, Bool.and_false, Bool.false_and, decide_true, decide_false, Bool.not_true, Bool.not_false, Bool.false_eq_true]
      exact ⟨m, hm2.1, hm2.2, Int.not_lt.mp (of_decide_eq_false h), rfl⟩
    · rintro ρ' ⟨m, h1, h6, hmul, rfl⟩
      have h0 : 0 ≤ m := Int.le_trans (by decide) h1
      have hx := Int.eq_ofNat_of_zero_le h0
      revert hx
      rintro ⟨mn, hmn⟩
      subst hmn
      simp (decide := true) (implicitDefEqProofs := false) only [List.set_cons_zero, List.set_cons_succ, List.map_cons, List.map_nil, List.cons_append, List.nil_append, List.append_nil, List.replicate_succ, List.replicate_zero, Nat.reduceSub, List.length_cons, List.length_nil, Nat.reduceAdd, v_var0, v_varS, v_con, v_add, v_sub, v_mul, v_div, v_mod, v_pow, v_shl, v_lt, v_le, v_gt, v_ge, v_eq, v_ne, v_in, v_nin, v_ix, v_plus, v_cat, v_rep, v_isN, v_notN, v_len, v_neg, v_isi, v_list, v_tuple, v_tupleL, v_fld, v_fldI, v_all, v_any, v_sum, v_max2, v_min2, v_i2, v_addI, v_subI, v_mulL, v_mulR, v_divI, v_modI, v_ltI, v_leI, v_gtI, v_geI, v_negD, v_eqI, v_neI, v_eqB, v_neB, v_lenL, v_lenC, v_lenT, v_listL, v_listC, v_listT, v_tupL, v_tupC, v_tupT, v_tupLL, v_plusI, v_plusL, v_plusT, v_catL, v_slc, v_slcL, v_noPart, v_partO, v_asI, v_cutL, v_cutC, v_cutT, v_cutLL, v_cutLC, v_boolT, v_notT, v_andT, v_orT, v_yes, v_andE, v_orE, v_notE, v_ifE, v_andOk, v_orOk, v_andOkE, v_orOkE, v_isB, v_isI, v_isIB, v_eqS, v_neS, v_asB, v_args0, v_args1, v_tup, v_lst, v_call, v_callB, v_meth, v_methB, v_scal, v_scalI, v_scalB, v_scalS, v_scalN, v_rng1, v_rng2, v_rngD1, v_rngD2, v_seqI, v_tupI, v_seqL, v_seqC, v_seqT, v_seqQ, v_lenQ, v_tupQ, v_tupID, v_zipI, v_zipL, v_zipT, v_enumI, v_enumL, v_enumC, v_revI, v_revL, v_revT, v_comp, v_wipe0, v_wipe1, v_assoc, v_nx, v_end, v_asg, v_drop, v_ret, v_retN, v_raise, v_brk, v_cnt, v_if, v_iteT, v_iteF, v_asgG, v_nameG, v_consG, v_nilG, v_app, v_varP0, v_varPS, v_lstOf, v_set, v_for, v_outR, v_outX, v_outN, v_newF, v_outI, v_outIX, v_try, v_tryN, v_tryRt, v_divmod, v_dvm, v_tupRev, v_trev, v_lrev, v_lrevL, v_dnew, v_dnewT, v_din, v_dget, v_scalE, v_dlen, v_dlenT, v_dlenD, v_dlenTD, v_dgetI, v_dgetS, v_dput, divOk_of, smallI_of, intSz_of, lenSz_of, ok_bind, ex_bind, no_bind, bindS_ok, bindS_ex, ↓reduceIte, Option.bind_some, Int.reduceLT, Int.reduceLE, Nat.reduceLeDiff, Int.reduceNeg, Int.reduceEq, Bool.or_true, Bool.true_or, Bool.and_true, Bool.true_and, Bool.false_or, Bool.or_false, Bool.and_false, Bool.false_and, decide_true, decide_false, Bool.not_true, Bool.not_false, Bool.false_eq_true, v_mulR (smallI_of (a := (mn : Int)) (by omega) (by omega)), v_rngD1 (intSz_of (a := (mn : Int)) (by omega) (by omega))]
      refine wp_comp1 (List.range mn) _ pkD (fun _ q => pkB q = true) rangeL0_map (lenSz_of (by rw [List.length_range]; omega)) (fun j hj => ?_) fun p q1 q2 => ?_
      · have hj : j < mn := by simpa using hj
        obtain ⟨c2, e2⟩ := at_ (2 + 7 * t + j) (by omega)
        obtain ⟨q, hq, eq⟩ := pocket_run c2
        rw [Int.natCast_add, Int.natCast_add, Int.natCast_mul] at e2
        have e2 : ixD (.lst (cs.map .int)) (.int (2 + 7 * (t : Int) + (j : Int))) = .ok (.int c2) := e2
        refine ⟨_, q, v_nameG, ?_, hq⟩
        simp (decide := true) (implicitDefEqProofs := false) only [List.set_cons_zero, List.set_cons_succ, List.map_cons, List.map_nil, List.cons_append, List.nil_append, List.append_nil, List.replicate_succ, List.replicate_zero, Nat.reduceSub, List.length_cons, List.length_nil, Nat.reduceAdd, v_var0, v_varS, v_con, v_add, v_sub, v_mul, v_div, v_mod, v_pow, v_shl, v_lt, v_le, v_gt, v_ge, v_eq, v_ne, v_in, v_nin, v_ix, v_plus, v_cat, v_rep, v_isN, v_notN, v_len, v_neg, v_isi, v_list, v_tuple, v_tupleL, v_fld, v_fldI, v_all, v_any, v_sum, v_max2, v_min2, v_i2, v_addI, v_subI, v_mulL, v_mulR, v_divI, v_modI, v_ltI, v_leI, v_gtI, v_geI, v_negD, v_eqI, v_neI, v_eqB, v_neB, v_lenL, v_lenC, v_lenT, v_listL, v_listC, v_listT, v_tupL, v_tupC, v_tupT, v_tupLL, v_plusI, v_plusL, v_plusT, v_catL, v_slc, v_slcL, v_noPart, v_partO, v_asI, v_cutL, v_cutC, v_cutT, v_cutLL, v_cutLC, v_boolT, v_notT, v_andT, v_orT, v_yes, v_andE, v_orE, v_notE, v_ifE, v_andOk, v_orOk, v_andOkE, v_orOkE, v_isB, v_isI, v_isIB, v_eqS, v_neS, v_asB, v_args0, v_args1, v_tup, v_lst, v_call, v_callB, v_meth, v_methB, v_scal, v_scalI, v_scalB, v_scalS, v_scalN, v_rng1, v_rng2, v_rngD1, v_rngD2, v_seqI, v_tupI, v_seqL, v_seqC, v_seqT, v_seqQ, v_lenQ, v_tupQ, v_tupID, v_zipI, v_zipL, v_zipT, v_enumI, v_enumL, v_enumC, v_revI, v_revL, v_revT, v_comp, v_wipe0, v_wipe1, v_assoc, v_nx, v_end, v_asg, v_drop, v_ret, v_retN, v_raise, v_brk, v_cnt, v_if, v_iteT, v_iteF, v_asgG, v_nameG, v_consG, v_nilG, v_app, v_varP0, v_varPS, v_lstOf, v_set, v_for, v_outR, v_outX, v_outN, v_newF, v_outI, v_outIX, v_try, v_tryN, v_tryRt, v_divmod, v_dvm, v_tupRev, v_trev, v_lrev, v_lrevL, v_dnew, v_dnewT, v_din, v_dget, v_scalE, v_dlen, v_dlenT, v_dlenD, v_dlenTD, v_dgetI, v_dgetS, v_dput, divOk_of, smallI_of, intSz_of, lenSz_of, ok_bind, ex_bind, no_bind, bindS_ok, bindS_ex, ↓reduceIte, Option.bind_some, Int.reduceLT, Int.reduceLE, Nat.reduceLeDiff, Int.reduceNeg, Int.reduceEq, Bool.or_true, Bool.true_or, Bool.and_true, Bool.true_and, Bool.false_or, Bool.or_false, Bool.and_false, Bool.false_and, decide_true, decide_false, Bool.not_true, Bool.not_false, Bool.false_eq_true, e2, eq]
      · have pl : p.length = mn := by rw [q1, List.length_range]
        have pb : passB p = true := by
          unfold passB
          rw [decide_eq_true (show 1 ≤ p.length by omega), decide_eq_true (show p.length ≤ 6 by omega), List.all_eq_true.mpr (all_of q1 q2 fun _ _ q => q)]
          rfl
        simp (implicitDefEqProofs := false) only [List.set_cons_zero, List.set_cons_succ, List.map_cons, List.map_nil, List.cons_append, List.nil_append, List.append_nil, List.replicate_succ, List.replicate_zero, Nat.reduceSub, List.length_cons, List.length_nil, Nat.reduceAdd, v_var0, v_varS, v_con, v_add, v_sub, v_mul, v_div, v_mod, v_pow, v_shl, v_lt, v_le, v_gt, v_ge, v_eq, v_ne, v_in, v_nin, v_ix, v_plus, v_cat, v_rep, v_isN, v_notN, v_len, v_neg, v_isi, v_list, v_tuple, v_tupleL, v_fld, v_fldI, v_all, v_any, v_sum, v_max2, v_min2, v_i2, v_addI, v_subI, v_mulL, v_mulR, v_divI, v_modI, v_ltI, v_leI, v_gtI, v_geI, v_negD, v_eqI, v_neI, v_eqB, v_neB, v_lenL, v_lenC, v_lenT, v_listL, v_listC, v_listT, v_tupL, v_tupC, v_tupT, v_tupLL, v_plusI, v_plusL, v_plusT, v_catL, v_slc, v_slcL, v_noPart, v_partO, v_asI, v_cutL, v_cutC, v_cutT, v_cutLL, v_cutLC, v_boolT, v_notT, v_andT, v_orT, v_yes, v_andE, v_orE, v_notE, v_ifE, v_andOk, v_orOk, v_andOkE, v_orOkE, v_isB, v_isI, v_isIB, v_eqS, v_neS, v_asB, v_args0, v_args1, v_tup, v_lst, v_call, v_callB, v_meth, v_methB, v_scal, v_scalI, v_scalB, v_scalS, v_scalN, v_rng1, v_rng2, v_rngD1, v_rngD2, v_seqI, v_tupI, v_seqL, v_seqC, v_seqT, v_seqQ, v_lenQ, v_tupQ, v_tupID, v_zipI, v_zipL, v_zipT, v_enumI, v_enumL, v_enumC, v_revI, v_revL, v_revT, v_comp, v_wipe0, v_wipe1, v_assoc, v_nx, v_end, v_asg, v_drop, v_ret, v_retN, v_raise, v_brk, v_cnt, v_if, v_iteT, v_iteF, v_asgG, v_nameG, v_consG, v_nilG, v_app, v_varP0, v_varPS, v_lstOf, v_set, v_for, v_outR, v_outX, v_outN, v_newF, v_outI, v_outIX, v_try, v_tryN, v_tryRt, v_divmod, v_dvm, v_tupRev, v_trev, v_lrev, v_lrevL, v_dnew, v_dnewT, v_din, v_dget, v_scalE, v_dlen, v_dlenT, v_dlenD, v_dlenTD, v_dgetI, v_dgetS, v_dput, divOk_of, smallI_of, intSz_of, lenSz_of, ok_bind, ex_bind, no_bind, bindS_ok, bindS_ex, ↓reduceIte, Option.bind_some, Int.reduceLT, Int.reduceLE, Nat.reduceLeDiff, Int.reduceNeg, Int.reduceEq, Bool.or_true, Bool.true_or, Bool.and_true, Bool.true_and, Bool.false_or, Bool.or_false, Bool.and_false, Bool.false_and, decide_true, decide_false, Bool.not_true, Bool.not_false, Bool.false_eq_true, v_appR (ds := ps.map pkLD) (lenSz_of (by rw [List.length_map]; omega))]
        refine ⟨ps ++ [p], some (.int (t : Nat)), some (.int (mn : Nat)), by rw [List.length_append, hl]; rfl, by rw [List.all_append, hp]; simp [pb], by rw [prodN_snoc, pl]; exact Int.ofNat_le.mp (by rw [Int.natCast_mul]; exact hmul), ?_⟩
        rw [prodN_snoc, pl, Int.natCast_mul, List.map_append]
        rfl
  · rintro ρ ⟨ps, x, y, hl, hp, hq, rfl⟩
    rw [rangeL_len] at hl
    simp (implicitDefEqProofs := false) only [List.set_cons_zero, List.set_cons_succ, List.map_cons, List.map_nil, List.cons_append, List.nil_append, List.append_nil, List.replicate_succ, List.replicate_zero, Nat.reduceSub, List.length_cons, List.length_nil, Nat.reduceAdd, v_var0, v_varS, v_con, v_add, v_sub, v_mul, v_div, v_mod, v_pow, v_shl, v_lt, v_le, v_gt, v_ge, v_eq, v_ne, v_in, v_nin, v_ix, v_plus, v_cat, v_rep, v_isN, v_notN, v_len, v_neg, v_isi, v_list, v_tuple, v_tupleL, v_fld, v_fldI, v_all, v_any, v_sum, v_max2, v_min2, v_i2, v_addI, v_subI, v_mulL, v_mulR, v_divI, v_modI, v_ltI, v_leI, v_gtI, v_geI, v_negD, v_eqI, v_neI, v_eqB, v_neB, v_lenL, v_lenC, v_lenT, v_listL, v_listC, v_listT, v_tupL, v_tupC, v_tupT, v_tupLL, v_plusI, v_plusL, v_plusT, v_catL, v_slc, v_slcL, v_noPart, v_partO, v_asI, v_cutL, v_cutC, v_cutT, v_cutLL, v_cutLC, v_boolT, v_notT, v_andT, v_orT, v_yes, v_andE, v_orE, v_notE, v_ifE, v_andOk, v_orOk, v_andOkE, v_orOkE, v_isB, v_isI, v_isIB, v_eqS, v_neS, v_asB, v_args0, v_args1, v_tup, v_lst, v_call, v_callB, v_meth, v_methB, v_scal, v_scalI, v_scalB, v_scalS, v_scalN, v_rng1, v_rng2, v_rngD1, v_rngD2, v_seqI, v_tupI, v_seqL, v_seqC, v_seqT, v_seqQ, v_lenQ, v_tupQ, v_tupID, v_zipI, v_zipL, v_zipT, v_enumI, v_enumL, v_enumC, v_revI, v_revL, v_revT, v_comp, v_wipe0, v_wipe1, v_assoc, v_nx, v_end, v_asg, v_drop, v_ret, v_retN, v_raise, v_brk, v_cnt, v_if, v_iteT, v_iteF, v_asgG, v_nameG, v_consG, v_nilG, v_app, v_varP0, v_varPS, v_lstOf, v_set, v_for, v_outR, v_outX, v_outN, v_newF, v_outI, v_outIX, v_try, v_tryN, v_tryRt, v_divmod, v_dvm, v_tupRev, v_trev, v_lrev, v_lrevL, v_dnew, v_dnewT, v_din, v_dget, v_scalE, v_dlen, v_dlenT, v_dlenD, v_dlenTD, v_dgetI, v_dgetS, v_dput, divOk_of, smallI_of, intSz_of, lenSz_of, ok_bind, ex_bind, no_bind, bindS_ok, bindS_ex, ↓reduceIte, Option.bind_some, Int.reduceLT, Int.reduceLE, Nat.reduceLeDiff, Int.reduceNeg, Int.reduceEq, Bool.or_true, Bool.true_or, Bool.and_true, Bool.true_and, Bool.false_or, Bool.or_false, Bool.and_false, Bool.false_and, decide_true, decide_false, Bool.not_true, Bool.not_false, Bool.false_eq_true]
    exact ⟨ps, by omega, hp, hq, rfl⟩
/-! codes -/
def isPile (q : Int × List Pk) : Bool := decide ((q.2.getD q.1.toNat ("", 0)).1 = "pile")
def codeStep (s : Nat × Int) (q : Int × List Pk) : Nat × Int := (s.1 * q.2.length, q.1 * s.1 + (if isPile q = true then (s.1 : Int) - 1 - s.2 else s.2))
def codeL (s : Nat × Int) (qs : List (Int × List Pk)) : Nat × Int := qs.foldl codeStep s
theorem codeL_snoc (s : Nat × Int) (qs : List (Int × List Pk)) (q : Int × List Pk) : codeL s (qs ++ [q]) = codeStep (codeL s qs) q := by
  unfold codeL
  rw [List.foldl_append]
  rfl
def code0 (ps : List (List Pk)) (k : Nat) : Nat × Int := (prodN (ps.take k), (prodN (ps.take k) : Int) - 1)
def codeOf (ps : List (List Pk)) (k : Nat) (ws : List Int) : Int := (codeL (code0 ps k) (ws.zip (ps.drop k))).2
def faceL (f : Int) (qs : List (Int × List Pk)) : Int := qs.foldl (fun f q => if isPile q = true then -f else f) f
def faceOf (ps : List (List Pk)) (k : Nat) (ws : List Int) : Int := faceL 1 (ws.zip (ps.drop k))
theorem faceL_snoc (f : Int) (qs : List (Int × List Pk)) (q : Int × List Pk) : faceL f (qs ++ [q]) = if isPile q = true then -(faceL f qs) else faceL f qs := by
  unfold faceL
  rw [List.foldl_append]
  rfl
theorem kind_eq {x : Str} (h : kindB x = true) : eqD (.str x) (.str "pile") = .ok (.bl (decide (x = "pile"))) := by
  unfold kindB at h
  rw [Bool.or_eq_true, decide_eq_true_eq, decide_eq_true_eq] at h
  refine v_eqS ?_ (by decide +kernel)
  rcases h with rfl | rfl <;> decide +kernel
/-- the kind of a word's pocket -/
theorem kind_at {w : Int} {p : List Pk} (hp : passB p = true) (h0 : 0 ≤ w) (h1 : w < p.length) : ∃ q : Pk, ixD (pkTD p) (.int w) = .ok (pkD q) ∧ ixD (pkLD p) (.int w) = .ok (pkD q) ∧ ixD (pkD q) (.int 0) = .ok (.str q.1) ∧ ixD (pkD q) (.int 1) = .ok (.int q.2) ∧ isPile (w, p) = decide (q.1 = "pile") ∧ q ∈ p ∧ eqD (.str q.1) (.str "pile") = .ok (.bl (isPile (w, p))) := by
  obtain ⟨q, hq, hm⟩ := at_of_lt (xs := p) (k := w.toNat) (by omega)
  have e : isPile (w, p) = decide (q.1 = "pile") := by
    unfold isPile
    show decide ((p.getD w.toNat ("", 0)).1 = "pile") = _
    rw [List.getD, hq]
    rfl
  have hk : kindB q.1 = true := by
    unfold passB at hp
    simp only [Bool.and_eq_true] at hp
    have := List.all_eq_true.mp hp.2.2 q hm
    unfold pkB at this
    simp only [Bool.and_eq_true] at this
    exact this.1
  exact ⟨q, v_ixT (atI_int h0 (at_map (f := pkD) hq)), v_ixL (atI_int h0 (at_map (f := pkD) hq)), v_ixT (atI_nat (k := 0) rfl), v_ixT (atI_nat (k := 1) rfl), e, hm, by rw [e]; exact kind_eq hk⟩
/-- the pairs of a word and its passes -/
theorem pair_at {ps : List (List Pk)} {k : Nat} {ws : List Int} (hp : ps.all passB = true) (hw : wordB (ps.drop k) ws = true) {n : Nat} {w : Int} {p : List Pk} (h : (ws.zip (ps.drop k))[n]? = some (w, p)) : 0 ≤ w ∧ w < p.length ∧ 1 ≤ p.length ∧ p.length ≤ 6 ∧ passB p = true := by
  obtain ⟨h1, h2⟩ := List.getElem?_zip_eq_some.mp h
  obtain ⟨a, b⟩ := (wordB_iff.mp hw).2 n w p h1 h2
  have pb := List.all_eq_true.mp hp p (List.mem_of_mem_drop (List.mem_of_getElem? h2))
  have pl := passB_len pb
  exact ⟨a, b, pl.1, pl.2, pb⟩
theorem word_code_run (ps : List (List Pk)) (k : Nat) (ws : List Int) (hk : k ≤ ps.length) (hp : ps.all passB = true) (hw : wordB (ps.drop k) ws = true) : F_word_code [millD ps, .int k, wdD ws] = .ok (.int (codeOf ps k ws)) := by
  rw [R_word_code]
  unfold Fb_word_code
  have e : F_look_at_word [millD ps, .int k, wdD ws] = .ok .non := by rw [look_at_word_run, if_neg (by omega), Int.toNat_natCast, if_pos hw]
  have hs : ∀ p ∈ ps, p.length ≤ 1000 := fun p q => by
    have := (passB_len (List.all_eq_true.mp hp p q)).2
    omega
  simp (implicitDefEqProofs := false) only [List.set_cons_zero, List.set_cons_succ, List.map_cons, List.map_nil, List.cons_append, List.nil_append, List.append_nil, List.replicate_succ, List.replicate_zero, Nat.reduceSub, List.length_cons, List.length_nil, Nat.reduceAdd, v_var0, v_varS, v_con, v_add, v_sub, v_mul, v_div, v_mod, v_pow, v_shl, v_lt, v_le, v_gt, v_ge, v_eq, v_ne, v_in, v_nin, v_ix, v_plus, v_cat, v_rep, v_isN, v_notN, v_len, v_neg, v_isi, v_list, v_tuple, v_tupleL, v_fld, v_fldI, v_all, v_any, v_sum, v_max2, v_min2, v_i2, v_addI, v_subI, v_mulL, v_mulR, v_divI, v_modI, v_ltI, v_leI, v_gtI, v_geI, v_negD, v_eqI, v_neI, v_eqB, v_neB, v_lenL, v_lenC, v_lenT, v_listL, v_listC, v_listT, v_tupL, v_tupC, v_tupT, v_tupLL, v_plusI, v_plusL, v_plusT, v_catL, v_slc, v_slcL, v_noPart, v_partO, v_asI, v_cutL, v_cutC, v_cutT, v_cutLL, v_cutLC, v_boolT, v_notT, v_andT, v_orT, v_yes, v_andE, v_orE, v_notE, v_ifE, v_andOk, v_orOk, v_andOkE, v_orOkE, v_isB, v_isI, v_isIB, v_eqS, v_neS, v_asB, v_args0, v_args1, v_tup, v_lst, v_call, v_callB, v_meth, v_methB, v_scal, v_scalI, v_scalB, v_scalS, v_scalN, v_rng1, v_rng2, v_rngD1, v_rngD2, v_seqI, v_tupI, v_seqL, v_seqC, v_seqT, v_seqQ, v_lenQ, v_tupQ, v_tupID, v_zipI, v_zipL, v_zipT, v_enumI, v_enumL, v_enumC, v_revI, v_revL, v_revT, v_comp, v_wipe0, v_wipe1, v_assoc, v_nx, v_end, v_asg, v_drop, v_ret, v_retN, v_raise, v_brk, v_cnt, v_if, v_iteT, v_iteF, v_asgG, v_nameG, v_consG, v_nilG, v_app, v_varP0, v_varPS, v_lstOf, v_set, v_for, v_outR, v_outX, v_outN, v_newF, v_outI, v_outIX, v_try, v_tryN, v_tryRt, v_divmod, v_dvm, v_tupRev, v_trev, v_lrev, v_lrevL, v_dnew, v_dnewT, v_din, v_dget, v_scalE, v_dlen, v_dlenT, v_dlenD, v_dlenTD, v_dgetI, v_dgetS, v_dput, divOk_of, smallI_of, intSz_of, lenSz_of, ok_bind, ex_bind, no_bind, bindS_ok, bindS_ex, ↓reduceIte, Option.bind_some, Int.reduceLT, Int.reduceLE, Nat.reduceLeDiff, Int.reduceNeg, Int.reduceEq, Bool.or_true, Bool.true_or, Bool.and_true, Bool.true_and, Bool.false_or, Bool.or_false, Bool.and_false, Bool.false_and, decide_true, decide_false, Bool.not_true, Bool.not_false, Bool.false_eq_true, e, codes_ahead_run _ _ hs, fld_mill, cut_drop, ← List.map_drop]
  unfold wdD
  simp (implicitDefEqProofs := false) only [List.set_cons_zero, List.set_cons_succ, List.map_cons, List.map_nil, List.cons_append, List.nil_append, List.append_nil, List.replicate_succ, List.replicate_zero, Nat.reduceSub, List.length_cons, List.length_nil, Nat.reduceAdd, v_var0, v_varS, v_con, v_add, v_sub, v_mul, v_div, v_mod, v_pow, v_shl, v_lt, v_le, v_gt, v_ge, v_eq, v_ne, v_in, v_nin, v_ix, v_plus, v_cat, v_rep, v_isN, v_notN, v_len, v_neg, v_isi, v_list, v_tuple, v_tupleL, v_fld, v_fldI, v_all, v_any, v_sum, v_max2, v_min2, v_i2, v_addI, v_subI, v_mulL, v_mulR, v_divI, v_modI, v_ltI, v_leI, v_gtI, v_geI, v_negD, v_eqI, v_neI, v_eqB, v_neB, v_lenL, v_lenC, v_lenT, v_listL, v_listC, v_listT, v_tupL, v_tupC, v_tupT, v_tupLL, v_plusI, v_plusL, v_plusT, v_catL, v_slc, v_slcL, v_noPart, v_partO, v_asI, v_cutL, v_cutC, v_cutT, v_cutLL, v_cutLC, v_boolT, v_notT, v_andT, v_orT, v_yes, v_andE, v_orE, v_notE, v_ifE, v_andOk, v_orOk, v_andOkE, v_orOkE, v_isB, v_isI, v_isIB, v_eqS, v_neS, v_asB, v_args0, v_args1, v_tup, v_lst, v_call, v_callB, v_meth, v_methB, v_scal, v_scalI, v_scalB, v_scalS, v_scalN, v_rng1, v_rng2, v_rngD1, v_rngD2, v_seqI, v_tupI, v_seqL, v_seqC, v_seqT, v_seqQ, v_lenQ, v_tupQ, v_tupID, v_zipI, v_zipL, v_zipT, v_enumI, v_enumL, v_enumC, v_revI, v_revL, v_revT, v_comp, v_wipe0, v_wipe1, v_assoc, v_nx, v_end, v_asg, v_drop, v_ret, v_retN, v_raise, v_brk, v_cnt, v_if, v_iteT, v_iteF, v_asgG, v_nameG, v_consG, v_nilG, v_app, v_varP0, v_varPS, v_lstOf, v_set, v_for, v_outR, v_outX, v_outN, v_newF, v_outI, v_outIX, v_try, v_tryN, v_tryRt, v_divmod, v_dvm, v_tupRev, v_trev, v_lrev, v_lrevL, v_dnew, v_dnewT, v_din, v_dget, v_scalE, v_dlen, v_dlenT, v_dlenD, v_dlenTD, v_dgetI, v_dgetS, v_dput, divOk_of, smallI_of, intSz_of, lenSz_of, ok_bind, ex_bind, no_bind, bindS_ok, bindS_ex, ↓reduceIte, Option.bind_some, Int.reduceLT, Int.reduceLE, Nat.reduceLeDiff, Int.reduceNeg, Int.reduceEq, Bool.or_true, Bool.true_or, Bool.and_true, Bool.true_and, Bool.false_or, Bool.or_false, Bool.and_false, Bool.false_and, decide_true, decide_false, Bool.not_true, Bool.not_false, Bool.false_eq_true, zipL_map]
  refine wp_for (Post := fun o => outF .F o = _) (fun n ρ => ∃ x y, ρ = [some (millD ps), some (.int k), some (.tup (ws.map Dt.int)), some (.int (codeL (code0 ps k) ((ws.zip (ps.drop k)).take n)).1), some (.int (codeL (code0 ps k) ((ws.zip (ps.drop k)).take n)).2), x, y]) ⟨none, none, rfl⟩ ?_ ?_
  · rintro n d ρ hd ⟨x, y, rfl⟩
    obtain ⟨⟨w, p⟩, hq, rfl⟩ := of_at_map hd
    obtain ⟨b0, b1, b2, b3, b4⟩ := pair_at hp hw hq
    obtain ⟨q, e1, _, e2, _, _, _, e3⟩ := kind_at b4 b0 b1
    have tk : (ws.zip (ps.drop k)).take (n + 1) = (ws.zip (ps.drop k)).take n ++ [(w, p)] := by rw [List.take_add_one, hq]; rfl
    refine ⟨[some (millD ps), some (.int k), some (.tup (ws.map Dt.int)), some (.int (codeL (code0 ps k) ((ws.zip (ps.drop k)).take n)).1), some (.int (codeL (code0 ps k) ((ws.zip (ps.drop k)).take n)).2), some (.int w), some (pkTD p)], rfl, ?_⟩
    rw [tk, codeL_snoc]
    generalize codeL (code0 ps k) ((ws.zip (ps.drop k)).take n) = s
    obtain ⟨m, c⟩ := s
    simp (implicitDefEqProofs := false) only [List.set_cons_zero, List.set_cons_succ, List.map_cons, List.map_nil, List.cons_append, List.nil_append, List.append_nil, List.replicate_succ, List.replicate_zero, Nat.reduceSub, List.length_cons, List.length_nil, Nat.reduceAdd, v_var0, v_varS, v_con, v_add, v_sub, v_mul, v_div, v_mod, v_pow, v_shl, v_lt, v_le, v_gt, v_ge, v_eq, v_ne, v_in, v_nin, v_ix, v_plus, v_cat, v_rep, v_isN, v_notN, v_len, v_neg, v_isi, v_list, v_tuple, v_tupleL, v_fld, v_fldI, v_all, v_any, v_sum, v_max2, v_min2, v_i2, v_addI, v_subI, v_mulL, v_mulR, v_divI, v_modI, v_ltI, v_leI, v_gtI, v_geI, v_negD, v_eqI, v_neI, v_eqB, v_neB, v_lenL, v_lenC, v_lenT, v_listL, v_listC, v_listT, v_tupL, v_tupC, v_tupT, v_tupLL, v_plusI, v_plusL, v_plusT, v_catL, v_slc, v_slcL, v_noPart, v_partO, v_asI, v_cutL, v_cutC, v_cutT, v_cutLL, v_cutLC, v_boolT, v_notT, v_andT, v_orT, v_yes, v_andE, v_orE, v_notE, v_ifE, v_andOk, v_orOk, v_andOkE, v_orOkE, v_isB, v_isI, v_isIB, v_eqS, v_neS, v_asB, v_args0, v_args1, v_tup, v_lst, v_call, v_callB, v_meth, v_methB, v_scal, v_scalI, v_scalB, v_scalS, v_scalN, v_rng1, v_rng2, v_rngD1, v_rngD2, v_seqI, v_tupI, v_seqL, v_seqC, v_seqT, v_seqQ, v_lenQ, v_tupQ, v_tupID, v_zipI, v_zipL, v_zipT, v_enumI, v_enumL, v_enumC, v_revI, v_revL, v_revT, v_comp, v_wipe0, v_wipe1, v_assoc, v_nx, v_end, v_asg, v_drop, v_ret, v_retN, v_raise, v_brk, v_cnt, v_if, v_iteT, v_iteF, v_asgG, v_nameG, v_consG, v_nilG, v_app, v_varP0, v_varPS, v_lstOf, v_set, v_for, v_outR, v_outX, v_outN, v_newF, v_outI, v_outIX, v_try, v_tryN, v_tryRt, v_divmod, v_dvm, v_tupRev, v_trev, v_lrev, v_lrevL, v_dnew, v_dnewT, v_din, v_dget, v_scalE, v_dlen, v_dlenT, v_dlenD, v_dlenTD, v_dgetI, v_dgetS, v_dput, divOk_of, smallI_of, intSz_of, lenSz_of, ok_bind, ex_bind, no_bind, bindS_ok, bindS_ex, ↓reduceIte, Option.bind_some, Int.reduceLT, Int.reduceLE, Nat.reduceLeDiff, Int.reduceNeg, Int.reduceEq, Bool.or_true, Bool.true_or, Bool.and_true, Bool.true_and, Bool.false_or, Bool.or_false, Bool.and_false, Bool.false_and, decide_true, decide_false, Bool.not_true, Bool.not_false, Bool.false_eq_true, e1, e2, e3]
    refine wp_join (fun ρ' => ρ' = [some (millD ps), some (.int k), some (.tup (ws.map Dt.int)), some (.int m), some (.int (if isPile (w, p) = true then (m : Int) - 1 - c else c)), some (.int w), some (pkTD p)]) (fun h => ?_) (fun h => ?_) ?_
    · rw [h]
      simp (implicitDefEqProofs := false) only [List.set_cons_zero, List.set_cons_succ, List.map_cons, List.map_nil, List.cons_append, List.nil_append, List.append_nil, List.replicate_succ, List.replicate_zero, Nat.reduceSub, List.length_cons, List.length_nil, Nat.reduceAdd, v_var0, v_varS, v_con, v_add, v_sub, v_mul, v_div, v_mod, v_pow, v_shl, v_lt, v_le, v_gt, v_ge, v_eq, v_ne, v_in, v_nin, v_ix, v_plus, v_cat, v_rep, v_isN, v_notN, v_len, v_neg, v_isi, v_list, v_tuple, v_tupleL, v_fld, v_fldI, v_all, v_any, v_sum, v_max2, v_min2, v_i2, v_addI, v_subI, v_mulL, v_mulR, v_divI, v_modI, v_ltI, v_leI, v_gtI, v_geI, v_negD, v_eqI, v_neI, v_eqB, v_neB, v_lenL, v_lenC, v_lenT, v_listL, v_listC, v_listT, v_tupL, v_tupC, v_tupT, v_tupLL, v_plusI, v_plusL, v_plusT, v_catL, v_slc, v_slcL, v_noPart, v_partO, v_asI, v_cutL, v_cutC, v_cutT, v_cutLL, v_cutLC, v_boolT, v_notT, v_andT, v_orT, v_yes, v_andE, v_orE, v_notE, v_ifE, v_andOk, v_orOk, v_andOkE, v_orOkE, v_isB, v_isI, v_isIB, v_eqS, v_neS, v_asB, v_args0, v_args1, v_tup, v_lst, v_call, v_callB, v_meth, v_methB, v_scal, v_scalI, v_scalB, v_scalS, v_scalN, v_rng1, v_rng2, v_rngD1, v_rngD2, v_seqI, v_tupI, v_seqL, v_seqC, v_seqT, v_seqQ, v_lenQ, v_tupQ, v_tupID, v_zipI, v_zipL, v_zipT, v_enumI, v_enumL, v_enumC, v_revI, v_revL, v_revT, v_comp, v_wipe0, v_wipe1, v_assoc, v_nx, v_end, v_asg, v_drop, v_ret, v_retN, v_raise, v_brk, v_cnt, v_if, v_iteT, v_iteF, v_asgG, v_nameG, v_consG, v_nilG, v_app, v_varP0, v_varPS, v_lstOf, v_set, v_for, v_outR, v_outX, v_outN, v_newF, v_outI, v_outIX, v_try, v_tryN, v_tryRt, v_divmod, v_dvm, v_tupRev, v_trev, v_lrev, v_lrevL, v_dnew, v_dnewT, v_din, v_dget, v_scalE, v_dlen, v_dlenT, v_dlenD, v_dlenTD, v_dgetI, v_dgetS, v_dput, divOk_of, smallI_of, intSz_of, lenSz_of, ok_bind, ex_bind, no_bind, bindS_ok, bindS_ex, ↓reduceIte, Option.bind_some, Int.reduceLT, Int.reduceLE, Nat.reduceLeDiff, Int.reduceNeg, Int.reduceEq, Bool.or_true, Bool.true_or, Bool.and_true, Bool.true_and, Bool.false_or, Bool.or_false, Bool.and_false, Bool.false_and, decide_true, decide_false, Bool.not_true, Bool.not_false, Bool.false_eq_true]
      rfl
    · rw [h]
      simp (implicitDefEqProofs := false) only [List.set_cons_zero, List.set_cons_succ, List.map_cons, List.map_nil, List.cons_append, List.nil_append, List.append_nil, List.replicate_succ, List.replicate_zero, Nat.reduceSub, List.length_cons, List.length_nil, Nat.reduceAdd, v_var0, v_varS, v_con, v_add, v_sub, v_mul, v_div, v_mod, v_pow, v_shl, v_lt, v_le, v_gt, v_ge, v_eq, v_ne, v_in, v_nin, v_ix, v_plus, v_cat, v_rep, v_isN, v_notN, v_len, v_neg, v_isi, v_list, v_tuple, v_tupleL, v_fld, v_fldI, v_all, v_any, v_sum, v_max2, v_min2, v_i2, v_addI, v_subI, v_mulL, v_mulR, v_divI, v_modI, v_ltI, v_leI, v_gtI, v_geI, v_negD, v_eqI, v_neI, v_eqB, v_neB, v_lenL, v_lenC, v_lenT, v_listL, v_listC, v_listT, v_tupL, v_tupC, v_tupT, v_tupLL, v_plusI, v_plusL, v_plusT, v_catL, v_slc, v_slcL, v_noPart, v_partO, v_asI, v_cutL, v_cutC, v_cutT, v_cutLL, v_cutLC, v_boolT, v_notT, v_andT, v_orT, v_yes, v_andE, v_orE, v_notE, v_ifE, v_andOk, v_orOk, v_andOkE, v_orOkE, v_isB, v_isI, v_isIB, v_eqS, v_neS, v_asB, v_args0, v_args1, v_tup, v_lst, v_call, v_callB, v_meth, v_methB, v_scal, v_scalI, v_scalB, v_scalS, v_scalN, v_rng1, v_rng2, v_rngD1, v_rngD2, v_seqI, v_tupI, v_seqL, v_seqC, v_seqT, v_seqQ, v_lenQ, v_tupQ, v_tupID, v_zipI, v_zipL, v_zipT, v_enumI, v_enumL, v_enumC, v_revI, v_revL, v_revT, v_comp, v_wipe0, v_wipe1, v_assoc, v_nx, v_end, v_asg, v_drop, v_ret, v_retN, v_raise, v_brk, v_cnt, v_if, v_iteT, v_iteF, v_asgG, v_nameG, v_consG, v_nilG, v_app, v_varP0, v_varPS, v_lstOf, v_set, v_for, v_outR, v_outX, v_outN, v_newF, v_outI, v_outIX, v_try, v_tryN, v_tryRt, v_divmod, v_dvm, v_tupRev, v_trev, v_lrev, v_lrevL, v_dnew, v_dnewT, v_din, v_dget, v_scalE, v_dlen, v_dlenT, v_dlenD, v_dlenTD, v_dgetI, v_dgetS, v_dput, divOk_of, smallI_of, intSz_of, lenSz_of, ok_bind, ex_bind, no_bind, bindS_ok, bindS_ex, ↓reduceIte, Option.bind_some, Int.reduceLT, Int.reduceLE, Nat.reduceLeDiff, Int.reduceNeg, Int.reduceEq, Bool.or_true, Bool.true_or, Bool.and_true, Bool.true_and, Bool.false_or, Bool.or_false, Bool.and_false, Bool.false_and, decide_true, decide_false, Bool.not_true, Bool.not_false, Bool.false_eq_true]
      rfl
    rintro ρ' rfl
    simp (implicitDefEqProofs := false) only [List.set_cons_zero, List.set_cons_succ, List.map_cons, List.map_nil, List.cons_append, List.nil_append, List.append_nil, List.replicate_succ, List.replicate_zero, Nat.reduceSub, List.length_cons, List.length_nil, Nat.reduceAdd, v_var0, v_varS, v_con, v_add, v_sub, v_mul, v_div, v_mod, v_pow, v_shl, v_lt, v_le, v_gt, v_ge, v_eq, v_ne, v_in, v_nin, v_ix, v_plus, v_cat, v_rep, v_isN, v_notN, v_len, v_neg, v_isi, v_list, v_tuple, v_tupleL, v_fld, v_fldI, v_all, v_any, v_sum, v_max2, v_min2, v_i2, v_addI, v_subI, v_mulL, v_mulR, v_divI, v_modI, v_ltI, v_leI, v_gtI, v_geI, v_negD, v_eqI, v_neI, v_eqB, v_neB, v_lenL, v_lenC, v_lenT, v_listL, v_listC, v_listT, v_tupL, v_tupC, v_tupT, v_tupLL, v_plusI, v_plusL, v_plusT, v_catL, v_slc, v_slcL, v_noPart, v_partO, v_asI, v_cutL, v_cutC, v_cutT, v_cutLL, v_cutLC, v_boolT, v_notT, v_andT, v_orT, v_yes, v_andE, v_orE, v_notE, v_ifE, v_andOk, v_orOk, v_andOkE, v_orOkE, v_isB, v_isI, v_isIB, v_eqS, v_neS, v_asB, v_args0, v_args1, v_tup, v_lst, v_call, v_callB, v_meth, v_methB, v_scal, v_scalI, v_scalB, v_scalS, v_scalN, v_rng1, v_rng2, v_rngD1, v_rngD2, v_seqI, v_tupI, v_seqL, v_seqC, v_seqT, v_seqQ, v_lenQ, v_tupQ, v_tupID, v_zipI, v_zipL, v_zipT, v_enumI, v_enumL, v_enumC, v_revI, v_revL, v_revT, v_comp, v_wipe0, v_wipe1, v_assoc, v_nx, v_end, v_asg, v_drop, v_ret, v_retN, v_raise, v_brk, v_cnt, v_if, v_iteT, v_iteF, v_asgG, v_nameG, v_consG, v_nilG, v_app, v_varP0, v_varPS, v_lstOf, v_set, v_for, v_outR, v_outX, v_outN, v_newF, v_outI, v_outIX, v_try, v_tryN, v_tryRt, v_divmod, v_dvm, v_tupRev, v_trev, v_lrev, v_lrevL, v_dnew, v_dnewT, v_din, v_dget, v_scalE, v_dlen, v_dlenT, v_dlenD, v_dlenTD, v_dgetI, v_dgetS, v_dput, divOk_of, smallI_of, intSz_of, lenSz_of, ok_bind, ex_bind, no_bind, bindS_ok, bindS_ex, ↓reduceIte, Option.bind_some, Int.reduceLT, Int.reduceLE, Nat.reduceLeDiff, Int.reduceNeg, Int.reduceEq, Bool.or_true, Bool.true_or, Bool.and_true, Bool.true_and, Bool.false_or, Bool.or_false, Bool.and_false, Bool.false_and, decide_true, decide_false, Bool.not_true, Bool.not_false, Bool.false_eq_true, v_mulL (smallI_of (a := w) (by omega) (by omega)), lenD_pk, v_mulR (smallI_of (a := (p.length : Int)) (by omega) (by omega))]
    refine ⟨some (.int w), some (pkTD p), ?_⟩
    unfold codeStep
    rw [Int.natCast_mul, Int.add_comm (w * (m : Int))]
  · rintro ρ ⟨x, y, rfl⟩
    rw [List.length_map, List.take_length]
    simp (implicitDefEqProofs := false) only [List.set_cons_zero, List.set_cons_succ, List.map_cons, List.map_nil, List.cons_append, List.nil_append, List.append_nil, List.replicate_succ, List.replicate_zero, Nat.reduceSub, List.length_cons, List.length_nil, Nat.reduceAdd, v_var0, v_varS, v_con, v_add, v_sub, v_mul, v_div, v_mod, v_pow, v_shl, v_lt, v_le, v_gt, v_ge, v_eq, v_ne, v_in, v_nin, v_ix, v_plus, v_cat, v_rep, v_isN, v_notN, v_len, v_neg, v_isi, v_list, v_tuple, v_tupleL, v_fld, v_fldI, v_all, v_any, v_sum, v_max2, v_min2, v_i2, v_addI, v_subI, v_mulL, v_mulR, v_divI, v_modI, v_ltI, v_leI, v_gtI, v_geI, v_negD, v_eqI, v_neI, v_eqB, v_neB, v_lenL, v_lenC, v_lenT, v_listL, v_listC, v_listT, v_tupL, v_tupC, v_tupT, v_tupLL, v_plusI, v_plusL, v_plusT, v_catL, v_slc, v_slcL, v_noPart, v_partO, v_asI, v_cutL, v_cutC, v_cutT, v_cutLL, v_cutLC, v_boolT, v_notT, v_andT, v_orT, v_yes, v_andE, v_orE, v_notE, v_ifE, v_andOk, v_orOk, v_andOkE, v_orOkE, v_isB, v_isI, v_isIB, v_eqS, v_neS, v_asB, v_args0, v_args1, v_tup, v_lst, v_call, v_callB, v_meth, v_methB, v_scal, v_scalI, v_scalB, v_scalS, v_scalN, v_rng1, v_rng2, v_rngD1, v_rngD2, v_seqI, v_tupI, v_seqL, v_seqC, v_seqT, v_seqQ, v_lenQ, v_tupQ, v_tupID, v_zipI, v_zipL, v_zipT, v_enumI, v_enumL, v_enumC, v_revI, v_revL, v_revT, v_comp, v_wipe0, v_wipe1, v_assoc, v_nx, v_end, v_asg, v_drop, v_ret, v_retN, v_raise, v_brk, v_cnt, v_if, v_iteT, v_iteF, v_asgG, v_nameG, v_consG, v_nilG, v_app, v_varP0, v_varPS, v_lstOf, v_set, v_for, v_outR, v_outX, v_outN, v_newF, v_outI, v_outIX, v_try, v_tryN, v_tryRt, v_divmod, v_dvm, v_tupRev, v_trev, v_lrev, v_lrevL, v_dnew, v_dnewT, v_din, v_dget, v_scalE, v_dlen, v_dlenT, v_dlenD, v_dlenTD, v_dgetI, v_dgetS, v_dput, divOk_of, smallI_of, intSz_of, lenSz_of, ok_bind, ex_bind, no_bind, bindS_ok, bindS_ex, ↓reduceIte, Option.bind_some, Int.reduceLT, Int.reduceLE, Nat.reduceLeDiff, Int.reduceNeg, Int.reduceEq, Bool.or_true, Bool.true_or, Bool.and_true, Bool.true_and, Bool.false_or, Bool.or_false, Bool.and_false, Bool.false_and, decide_true, decide_false, Bool.not_true, Bool.not_false, Bool.false_eq_true]
    rfl
/-! from a code back to a word -/
def prodLen (rs : List (List Pk)) : Nat := rs.foldr (fun p n => n * p.length) 1
def decR (p : List Pk) (m c : Nat) : Nat := if isPile (((c / m : Nat) : Int), p) = true then m - 1 - c % m else c % m
/-- the code at the joining -/
def dec0 : List (List Pk) → Nat → Nat → Nat
  | [], _, c => c
  | p :: rs, n, c => dec0 rs (n / p.length) (decR p (n / p.length) c)
/-- the pockets, the last pass first -/
def decW : List (List Pk) → Nat → Nat → List Int
  | [], _, _ => []
  | p :: rs, n, c => ((c / (n / p.length) : Nat) : Int) :: decW rs (n / p.length) (decR p (n / p.length) c)
theorem decR_lt {p : List Pk} {m c : Nat} (hm : 0 < m) : decR p m c < m := by
  have := Nat.mod_lt c hm
  unfold decR
  split <;> omega
theorem prodLen_cons (p : List Pk) (rs : List (List Pk)) : prodLen (p :: rs) = prodLen rs * p.length := rfl
theorem dec_spec (n0 : Nat) (h0 : 0 < n0) : ∀ (rs : List (List Pk)) (c : Nat), (∀ p ∈ rs, 1 ≤ p.length) → c < n0 * prodLen rs →
    dec0 rs (n0 * prodLen rs) c < n0 ∧ wordB rs.reverse (decW rs (n0 * prodLen rs) c).reverse = true ∧ codeL (n0, ((dec0 rs (n0 * prodLen rs) c : Nat) : Int)) ((decW rs (n0 * prodLen rs) c).reverse.zip rs.reverse) = (n0 * prodLen rs, (c : Int))
  | [], c, _, hc => by
    have e : n0 * prodLen [] = n0 := Nat.mul_one n0
    rw [e] at hc ⊢
    exact ⟨hc, rfl, rfl⟩
  | p :: rs, c, hp, hc => by
    have hl := hp p List.mem_cons_self
    have ep : n0 * prodLen (p :: rs) = n0 * prodLen rs * p.length := by rw [prodLen_cons, Nat.mul_assoc]
    rw [ep] at hc ⊢
    have pp : ∀ rs : List (List Pk), (∀ p ∈ rs, 1 ≤ p.length) → 0 < prodLen rs := fun rs => by
      induction rs with
      | nil => exact fun _ => Nat.zero_lt_one
      | cons q qs ih => exact fun h => Nat.mul_pos (ih fun x hx => h x (List.mem_cons_of_mem _ hx)) (h q List.mem_cons_self)
    have hm : 0 < n0 * prodLen rs := Nat.mul_pos h0 (pp rs fun x hx => hp x (List.mem_cons_of_mem _ hx))
    generalize hM : n0 * prodLen rs = m at *
    have ed : m * p.length / p.length = m := Nat.mul_div_cancel _ (by omega)
    unfold dec0 decW
    rw [ed]
    have ih := dec_spec n0 h0 rs (decR p m c) (fun x hx => hp x (List.mem_cons_of_mem _ hx)) (by rw [hM]; exact decR_lt hm)
    rw [hM] at ih
    obtain ⟨i1, i2, i3⟩ := ih
    obtain ⟨l1, l2⟩ := wordB_iff.mp i2
    have hpk : c / m < p.length := by
      rw [Nat.div_lt_iff_lt_mul hm, Nat.mul_comm]
      exact hc
    refine ⟨i1, wordB_iff.mpr ⟨?_, fun i w q h1 h2 => ?_⟩, ?_⟩
    · rw [List.reverse_cons, List.reverse_cons, List.length_append, List.length_append, l1]; rfl
    · rw [List.reverse_cons] at h1 h2
      by_cases hi : i < (decW rs m (decR p m c)).reverse.length
      · rw [List.getElem?_append_left hi] at h1
        rw [List.getElem?_append_left (by rw [← l1]; exact hi)] at h2
        exact l2 i w q h1 h2
      · have hi2 : i = (decW rs m (decR p m c)).reverse.length := by
          have := lt_of_at h1
          rw [List.length_append, List.length_singleton] at this
          omega
        rw [hi2, List.getElem?_append_right (Nat.le_refl _), Nat.sub_self] at h1
        rw [hi2, l1, List.getElem?_append_right (Nat.le_refl _), Nat.sub_self] at h2
        cases h1
        cases h2
        exact ⟨Int.natCast_nonneg _, Int.ofNat_lt.mpr hpk⟩
    · rw [List.reverse_cons, List.reverse_cons, List.zip_append l1]
      show codeL _ (_ ++ [(((c / m : Nat) : Int), p)]) = _
      rw [codeL_snoc, i3]
      unfold codeStep
      have hr := Nat.mod_lt c hm
      have hdm := Nat.div_add_mod c m
      refine Prod.ext rfl ?_
      show ((c / m : Nat) : Int) * (m : Int) + (if isPile (((c / m : Nat) : Int), p) = true then (m : Int) - 1 - ((decR p m c : Nat) : Int) else ((decR p m c : Nat) : Int)) = (c : Int)
      have hmul : ((c / m : Nat) : Int) * (m : Int) = ((m * (c / m) : Nat) : Int) := by rw [Int.natCast_mul, Int.mul_comm]
      rw [hmul]
      unfold decR
      split <;> omega
/-- as many codes lead to the joining code n0 - 1 as there are words -/
theorem count_rev (m : Nat) (f : Nat → Bool) : (List.range m).countP (fun r => f (m - 1 - r)) = (List.range m).countP f := by
  have e : (List.range m).map (fun r => m - 1 - r) = (List.range m).reverse := by
    refine List.ext_getElem? fun i => ?_
    by_cases hi : i < m
    · rw [List.getElem?_map, List.getElem?_range hi, List.getElem?_reverse (by simpa using hi), List.length_range, List.getElem?_range (by omega)]
      rfl
    · rw [List.getElem?_eq_none (by simpa using hi), List.getElem?_eq_none (by simpa using hi)]
  have := List.countP_map (p := f) (f := fun r => m - 1 - r) (l := List.range m)
  rw [e] at this
  rw [List.countP_reverse] at this
  exact this.symm
theorem count_mul (m : Nat) (hm : 0 < m) (f : Nat → Bool) (q : Nat) : ∀ L : Nat, (∀ a, a < L → (List.range m).countP (fun r => f (a * m + r)) = q) → (List.range (m * L)).countP f = q * L
  | 0, _ => rfl
  | L + 1, h => by
    rw [Nat.mul_succ, List.range_add, List.countP_append, count_mul m hm f q L fun a ha => h a (by omega), List.countP_map]
    have := h L (by omega)
    rw [Nat.mul_succ]
    congr 1
    rw [← this]
    congr 1
    funext r
    show f (m * L + r) = f (L * m + r)
    rw [Nat.mul_comm]
theorem dec_count (n0 : Nat) (h0 : 0 < n0) : ∀ rs : List (List Pk), (∀ p ∈ rs, 1 ≤ p.length) → (List.range (n0 * prodLen rs)).countP (fun c => decide (dec0 rs (n0 * prodLen rs) c = n0 - 1)) = prodLen rs
  | [], _ => by
    have e : n0 * prodLen [] = n0 := Nat.mul_one n0
    rw [e]
    show (List.range n0).countP (fun c => decide (c = n0 - 1)) = 1
    obtain ⟨k, rfl⟩ : ∃ k, n0 = k + 1 := ⟨n0 - 1, by omega⟩
    rw [List.range_succ, List.countP_append]
    have z : (List.range k).countP (fun c => decide (c = k + 1 - 1)) = 0 := by
      rw [List.countP_eq_zero]
      intro a ha
      have := List.mem_range.mp ha
      simp
      omega
    rw [z]
    simp
  | p :: rs, hp => by
    have hl := hp p List.mem_cons_self
    have ep : n0 * prodLen (p :: rs) = n0 * prodLen rs * p.length := by rw [prodLen_cons, Nat.mul_assoc]
    have ih := dec_count n0 h0 rs fun x hx => hp x (List.mem_cons_of_mem _ hx)
    have pp : ∀ rs : List (List Pk), (∀ p ∈ rs, 1 ≤ p.length) → 0 < prodLen rs := fun rs => by
      induction rs with
      | nil => exact fun _ => Nat.zero_lt_one
      | cons q qs ih => exact fun h => Nat.mul_pos (ih fun x hx => h x (List.mem_cons_of_mem _ hx)) (h q List.mem_cons_self)
    have hm : 0 < n0 * prodLen rs := Nat.mul_pos h0 (pp rs fun x hx => hp x (List.mem_cons_of_mem _ hx))
    rw [ep]
    generalize hM : n0 * prodLen rs = m at *
    have ed : m * p.length / p.length = m := Nat.mul_div_cancel _ (by omega)
    rw [prodLen_cons]
    refine count_mul m hm _ (prodLen rs) p.length fun a ha => ?_
    have e : ∀ r ∈ List.range m, decide (dec0 (p :: rs) (m * p.length) (a * m + r) = n0 - 1) = true ↔ (decide (dec0 rs m (if isPile ((a : Nat), p) = true then m - 1 - r else r) = n0 - 1)) = true := fun r hr => by
      have hr := List.mem_range.mp hr
      have e1 : (a * m + r) / m = a := by
        rw [Nat.add_comm, Nat.add_mul_div_right _ _ hm, Nat.div_eq_of_lt hr, Nat.zero_add]
      have e2 : (a * m + r) % m = r := by
        rw [Nat.add_comm, Nat.add_mul_mod_self_right, Nat.mod_eq_of_lt hr]
      show decide (dec0 rs (m * p.length / p.length) (decR p (m * p.length / p.length) (a * m + r)) = n0 - 1) = true ↔ _
      rw [ed]
      unfold decR
      rw [e1, e2]
    rw [List.countP_congr e]
    by_cases hpile : isPile (((a : Nat) : Int), p) = true
    · simp only [hpile, if_true]
      rw [count_rev m fun r => decide (dec0 rs m r = n0 - 1)]
      exact ih
    · simp only [hpile]
      exact ih
theorem prodN_split (as rs : List (List Pk)) : prodN (as ++ rs.reverse) = prodN as * prodLen rs := by
  induction rs with
  | nil => rw [List.reverse_nil, List.append_nil]; exact (Nat.mul_one _).symm
  | cons p rs ih => rw [List.reverse_cons, ← List.append_assoc, prodN_snoc, ih, prodLen_cons, Nat.mul_assoc]
theorem prodN_drop (ps : List (List Pk)) (k : Nat) : prodN ps = prodN (ps.take k) * prodLen (ps.drop k).reverse := by
  have := prodN_split (ps.take k) (ps.drop k).reverse
  rw [List.reverse_reverse, List.take_append_drop] at this
  exact this
theorem prodLen_pos : ∀ rs : List (List Pk), (∀ p ∈ rs, 1 ≤ p.length) → 0 < prodLen rs
  | [], _ => Nat.zero_lt_one
  | q :: qs, h => Nat.mul_pos (prodLen_pos qs fun x hx => h x (List.mem_cons_of_mem _ hx)) (h q List.mem_cons_self)
theorem prodN_pos (ps : List (List Pk)) (h : ∀ p ∈ ps, 1 ≤ p.length) : 0 < prodN ps := by
  have := prodN_split [] ps.reverse
  rw [List.reverse_reverse, List.nil_append] at this
  rw [this]
  exact Nat.mul_pos Nat.zero_lt_one (prodLen_pos _ fun p hp => h p (List.mem_reverse.mp hp))
def decWord (ps : List (List Pk)) (k c : Nat) : List Int := (decW (ps.drop k).reverse (prodN ps) c).reverse
def decJoin (ps : List (List Pk)) (k c : Nat) : Nat := dec0 (ps.drop k).reverse (prodN ps) c
theorem decWord_spec (ps : List (List Pk)) (k c : Nat) (hp : ps.all passB = true) (hc : c < prodN ps) : decJoin ps k c < prodN (ps.take k) ∧ wordB (ps.drop k) (decWord ps k c) = true ∧ (decJoin ps k c = prodN (ps.take k) - 1 → codeOf ps k (decWord ps k c) = c) := by
  have hl : ∀ p ∈ (ps.drop k).reverse, 1 ≤ p.length := fun p hq => (passB_len (List.all_eq_true.mp hp p (List.mem_of_mem_drop (List.mem_reverse.mp hq)))).1
  have h0 : 0 < prodN (ps.take k) := prodN_pos _ fun p hq => (passB_len (List.all_eq_true.mp hp p (List.mem_of_mem_take hq))).1
  have e := prodN_drop ps k
  obtain ⟨h1, h2, h3⟩ := dec_spec (prodN (ps.take k)) h0 (ps.drop k).reverse c hl (by rw [← e]; exact hc)
  rw [← e, List.reverse_reverse] at h2 h3
  rw [← e] at h1
  refine ⟨h1, h2, fun hj => ?_⟩
  unfold codeOf code0
  have hj2 : dec0 (ps.drop k).reverse (prodN ps) c = prodN (ps.take k) - 1 := hj
  rw [hj2] at h3
  have ec : ((prodN (ps.take k) - 1 : Nat) : Int) = (prodN (ps.take k) : Int) - 1 := by omega
  rw [ec] at h3
  show (codeL _ ((decW (ps.drop k).reverse (prodN ps) c).reverse.zip (ps.drop k))).2 = _
  rw [h3]
theorem code_word_run (ps : List (List Pk)) (k c : Nat) (hk : k ≤ ps.length) (hl6 : ps.length ≤ 6) (hp : ps.all passB = true) (hN : prodN ps ≤ 1000) (hc : c < prodN ps) : F_code_word [millD ps, .int k, .int c] = .ok (if decJoin ps k c = prodN (ps.take k) - 1 then wdD (decWord ps k c) else .non) := by
  rw [R_code_word]
  unfold Fb_code_word
  have hs : ∀ p ∈ ps, p.length ≤ 1000 := fun p q => by
    have := (passB_len (List.all_eq_true.mp hp p q)).2
    omega
  have el : F_look_at_late [millD ps, .int k] = .ok .non := by rw [look_at_late_run, if_pos (by omega)]
  have c1 : ¬ ((c : Int) < 0) := by omega
  have c2 : ¬ ((prodN ps : Int) ≤ (c : Int)) := by omega
  have h0 : 0 < prodN (ps.take k) := prodN_pos _ fun p hq => (passB_len (List.all_eq_true.mp hp p (List.mem_of_mem_take hq))).1
  simp (decide := true) (implicitDefEqProofs := false) only [List.set_cons_zero, List.set_cons_succ, List.map_cons, List.map_nil, List.cons_append, List.nil_append, List.append_nil, List.replicate_succ, List.replicate_zero, Nat.reduceSub, List.length_cons, List.length_nil, Nat.reduceAdd, v_var0, v_varS, v_con, v_add, v_sub, v_mul, v_div, v_mod, v_pow, v_shl, v_lt, v_le, v_gt, v_ge, v_eq, v_ne, v_in, v_nin, v_ix, v_plus, v_cat, v_rep, v_isN, v_notN, v_len, v_neg, v_isi, v_list, v_tuple, v_tupleL, v_fld, v_fldI, v_all, v_any, v_sum, v_max2, v_min2, v_i2, v_addI, v_subI, v_mulL, v_mulR, v_divI, v_modI, v_ltI, v_leI, v_gtI, v_geI, v_negD, v_eqI, v_neI, v_eqB, v_neB, v_lenL, v_lenC, v_lenT, v_listL, v_listC, v_listT, v_tupL, v_tupC, v_tupT, v_tupLL, v_plusI, v_plusL, v_plusT, v_catL, v_slc, v_slcL, v_noPart, v_partO, v_asI, v_cutL, v_cutC, v_cutT, v_cutLL, v_cutLC, v_boolT, v_notT, v_andT, v_orT, v_yes, v_andE, v_orE, v_notE, v_ifE, v_andOk, v_orOk, v_andOkE, v_orOkE, v_isB, v_isI, v_isIB, v_eqS, v_neS, v_asB, v_args0, v_args1, v_tup, v_lst, v_call, v_callB, v_meth, v_methB, v_scal, v_scalI, v_scalB, v_scalS, v_scalN, v_rng1, v_rng2, v_rngD1, v_rngD2, v_seqI, v_tupI, v_seqL, v_seqC, v_seqT, v_seqQ, v_lenQ, v_tupQ, v_tupID, v_zipI, v_zipL, v_zipT, v_enumI, v_enumL, v_enumC, v_revI, v_revL, v_revT, v_comp, v_wipe0, v_wipe1, v_assoc, v_nx, v_end, v_asg, v_drop, v_ret, v_retN, v_raise, v_brk, v_cnt, v_if, v_iteT, v_iteF, v_asgG, v_nameG, v_consG, v_nilG, v_app, v_varP0, v_varPS, v_lstOf, v_set, v_for, v_outR, v_outX, v_outN, v_newF, v_outI, v_outIX, v_try, v_tryN, v_tryRt, v_divmod, v_dvm, v_tupRev, v_trev, v_lrev, v_lrevL, v_dnew, v_dnewT, v_din, v_dget, v_scalE, v_dlen, v_dlenT, v_dlenD, v_dlenTD, v_dgetI, v_dgetS, v_dput, divOk_of, smallI_of, intSz_of, lenSz_of, ok_bind, ex_bind, no_bind, bindS_ok, bindS_ex, ↓reduceIte, Option.bind_some, Int.reduceLT, Int.reduceLE, Nat.reduceLeDiff, Int.reduceNeg, Int.reduceEq, Bool.or_true, Bool.true_or, Bool.and_true, Bool.true_and, Bool.false_or, Bool.or_false, Bool.and_false, Bool.false_and, decide_true, decide_false, Bool.not_true, Bool.not_false, Bool.false_eq_true, el, nom_codes, codes_run ps hs, c1, c2, fld_mill, cut_drop, ← List.map_drop, ← List.map_reverse]
  have hrs : ∀ p ∈ (ps.drop k).reverse, passB p = true := fun p hq => List.all_eq_true.mp hp p (List.mem_of_mem_drop (List.mem_reverse.mp hq))
  have eN := prodN_drop ps k
  generalize hrsd : (ps.drop k).reverse = rs at *
  refine wp_for (Post := fun o => outF .F o = _) (fun n ρ => ∃ (c' : Nat) (acc : List Int) (x y : Option Dt), c' < prodN (ps.take k) * prodLen (rs.drop n) ∧ acc.length = n ∧ dec0 rs (prodN ps) c = dec0 (rs.drop n) (prodN (ps.take k) * prodLen (rs.drop n)) c' ∧ decW rs (prodN ps) c = acc ++ decW (rs.drop n) (prodN (ps.take k) * prodLen (rs.drop n)) c' ∧
    ρ = [some (millD ps), some (.int k), some (.int c'), some (.int (prodN (ps.take k) * prodLen (rs.drop n) : Nat)), some (.lst (acc.map Dt.int)), x, y]) ⟨c, [], none, none, by rw [List.drop_zero, ← eN]; exact hc, rfl, by rw [List.drop_zero, ← eN], by rw [List.drop_zero, ← eN]; rfl, by rw [List.drop_zero, ← eN]; rfl⟩ ?_ ?_
  · rintro n d ρ hd ⟨c', acc, x, y, b1, b2, b3, b4, rfl⟩
    obtain ⟨p, hp1, rfl⟩ := of_at_map hd
    have hn := lt_of_at hp1
    have hpb := hrs p (List.mem_of_getElem? hp1)
    have pl := passB_len hpb
    have hdrop : rs.drop n = p :: rs.drop (n + 1) := by
      rw [List.drop_eq_getElem_cons hn]
      congr 1
      exact (List.getElem?_eq_some_iff.mp hp1).2
    refine ⟨_, v_nameG, ?_⟩
    show LoopP _ _ (fun ρ => ∃ (c' : Nat) (acc : List Int) (x y : Option Dt), c' < prodN (ps.take k) * prodLen (rs.drop (n + 1)) ∧ acc.length = n + 1 ∧ dec0 rs (prodN ps) c = dec0 (rs.drop (n + 1)) (prodN (ps.take k) * prodLen (rs.drop (n + 1))) c' ∧ decW rs (prodN ps) c = acc ++ decW (rs.drop (n + 1)) (prodN (ps.take k) * prodLen (rs.drop (n + 1))) c' ∧
      ρ = [some (millD ps), some (.int k), some (.int c'), some (.int (prodN (ps.take k) * prodLen (rs.drop (n + 1)) : Nat)), some (.lst (acc.map Dt.int)), x, y]) _
    rw [hdrop, prodLen_cons, ← Nat.mul_assoc] at b1 b3 b4
    rw [hdrop, prodLen_cons, ← Nat.mul_assoc]
    have hm : 0 < prodN (ps.take k) * prodLen (rs.drop (n + 1)) := Nat.mul_pos h0 (prodLen_pos _ fun q hq => (passB_len (hrs q (List.mem_of_mem_drop hq))).1)
    have hm2 : prodN (ps.take k) * prodLen (rs.drop (n + 1)) ≤ 1000 := by
      have : prodLen (rs.drop (n + 1)) ≤ prodLen rs := by
        have : ∀ (l : List (List Pk)) (j : Nat), (∀ q ∈ l, 1 ≤ q.length) → prodLen (l.drop j) ≤ prodLen l := fun l => by
          induction l with
          | nil => intro j _; rw [List.drop_nil]; exact Nat.le_refl _
          | cons a l ih =>
            intro j h
            cases j with
            | zero => exact Nat.le_refl _
            | succ j =>
              rw [List.drop_succ_cons, prodLen_cons]
              exact Nat.le_trans (ih j fun q hq => h q (List.mem_cons_of_mem _ hq)) (Nat.le_mul_of_pos_right _ (h a List.mem_cons_self))
        exact this rs (n + 1) fun q hq => (passB_len (hrs q hq)).1
      have := Nat.mul_le_mul_left (prodN (ps.take k)) this
      omega
    generalize hM : prodN (ps.take k) * prodLen (rs.drop (n + 1)) = m at *
    have ed : m * p.length / p.length = m := Nat.mul_div_cancel _ (by omega)
    have ed2 : ((m * p.length : Nat) : Int) / (p.length : Int) = (m : Int) := by rw [← Int.natCast_ediv, ed]
    have hpk : c' / m < p.length := by
      rw [Nat.div_lt_iff_lt_mul hm, Nat.mul_comm]
      exact b1
    obtain ⟨q, e1, _, e2, _, _, _, e3⟩ := kind_at hpb (w := ((c' / m : Nat) : Int)) (Int.natCast_nonneg _) (Int.ofNat_lt.mpr hpk)
    have q1 : (c' : Int) / (m : Int) = ((c' / m : Nat) : Int) := (Int.natCast_ediv c' m).symm
    have q2 : (c' : Int) % (m : Int) = ((c' % m : Nat) : Int) := (Int.natCast_emod c' m).symm
    simp (decide := true) (implicitDefEqProofs := false) only [List.set_cons_zero, List.set_cons_succ, List.map_cons, List.map_nil, List.cons_append, List.nil_append, List.append_nil, List.replicate_succ, List.replicate_zero, Nat.reduceSub, List.length_cons, List.length_nil, Nat.reduceAdd, v_var0, v_varS, v_con, v_add, v_sub, v_mul, v_div, v_mod, v_pow, v_shl, v_lt, v_le, v_gt, v_ge, v_eq, v_ne, v_in, v_nin, v_ix, v_plus, v_cat, v_rep, v_isN, v_notN, v_len, v_neg, v_isi, v_list, v_tuple, v_tupleL, v_fld, v_fldI, v_all, v_any, v_sum, v_max2, v_min2, v_i2, v_addI, v_subI, v_mulL, v_mulR, v_divI, v_modI, v_ltI, v_leI, v_gtI, v_geI, v_negD, v_eqI, v_neI, v_eqB, v_neB, v_lenL, v_lenC, v_lenT, v_listL, v_listC, v_listT, v_tupL, v_tupC, v_tupT, v_tupLL, v_plusI, v_plusL, v_plusT, v_catL, v_slc, v_slcL, v_noPart, v_partO, v_asI, v_cutL, v_cutC, v_cutT, v_cutLL, v_cutLC, v_boolT, v_notT, v_andT, v_orT, v_yes, v_andE, v_orE, v_notE, v_ifE, v_andOk, v_orOk, v_andOkE, v_orOkE, v_isB, v_isI, v_isIB, v_eqS, v_neS, v_asB, v_args0, v_args1, v_tup, v_lst, v_call, v_callB, v_meth, v_methB, v_scal, v_scalI, v_scalB, v_scalS, v_scalN, v_rng1, v_rng2, v_rngD1, v_rngD2, v_seqI, v_tupI, v_seqL, v_seqC, v_seqT, v_seqQ, v_lenQ, v_tupQ, v_tupID, v_zipI, v_zipL, v_zipT, v_enumI, v_enumL, v_enumC, v_revI, v_revL, v_revT, v_comp, v_wipe0, v_wipe1, v_assoc, v_nx, v_end, v_asg, v_drop, v_ret, v_retN, v_raise, v_brk, v_cnt, v_if, v_iteT, v_iteF, v_asgG, v_nameG, v_consG, v_nilG, v_app, v_varP0, v_varPS, v_lstOf, v_set, v_for, v_outR, v_outX, v_outN, v_newF, v_outI, v_outIX, v_try, v_tryN, v_tryRt, v_divmod, v_dvm, v_tupRev, v_trev, v_lrev, v_lrevL, v_dnew, v_dnewT, v_din, v_dget, v_scalE, v_dlen, v_dlenT, v_dlenD, v_dlenTD, v_dgetI, v_dgetS, v_dput, divOk_of, smallI_of, intSz_of, lenSz_of, ok_bind, ex_bind, no_bind, bindS_ok, bindS_ex, ↓reduceIte, Option.bind_some, Int.reduceLT, Int.reduceLE, Nat.reduceLeDiff, Int.reduceNeg, Int.reduceEq, Bool.or_true, Bool.true_or, Bool.and_true, Bool.true_and, Bool.false_or, Bool.or_false, Bool.and_false, Bool.false_and, decide_true, decide_false, Bool.not_true, Bool.not_false, Bool.false_eq_true, lenD_pk, v_divI (divOk_of (b := (p.length : Int)) (by omega) (by omega)), ed2, v_dvm (divOk_of (b := (m : Int)) (by omega) (by omega)), q1, q2]
    rw [v_asgR (ρ' := [some (millD ps), some (.int k), some (.int ((c' % m : Nat) : Int)), some (.int (m : Nat)), some (.lst (acc.map Dt.int)), some (pkTD p), some (.int ((c' / m : Nat) : Int))]) rfl]
    simp (decide := true) (implicitDefEqProofs := false) only [List.set_cons_zero, List.set_cons_succ, List.map_cons, List.map_nil, List.cons_append, List.nil_append, List.append_nil, List.replicate_succ, List.replicate_zero, Nat.reduceSub, List.length_cons, List.length_nil, Nat.reduceAdd, v_var0, v_varS, v_con, v_add, v_sub, v_mul, v_div, v_mod, v_pow, v_shl, v_lt, v_le, v_gt, v_ge, v_eq, v_ne, v_in, v_nin, v_ix, v_plus, v_cat, v_rep, v_isN, v_notN, v_len, v_neg, v_isi, v_list, v_tuple, v_tupleL, v_fld, v_fldI, v_all, v_any, v_sum, v_max2, v_min2, v_i2, v_addI, v_subI, v_mulL, v_mulR, v_divI, v_modI, v_ltI, v_leI, v_gtI, v_geI, v_negD, v_eqI, v_neI, v_eqB, v_neB, v_lenL, v_lenC, v_lenT, v_listL, v_listC, v_listT, v_tupL, v_tupC, v_tupT, v_tupLL, v_plusI, v_plusL, v_plusT, v_catL, v_slc, v_slcL, v_noPart, v_partO, v_asI, v_cutL, v_cutC, v_cutT, v_cutLL, v_cutLC, v_boolT, v_notT, v_andT, v_orT, v_yes, v_andE, v_orE, v_notE, v_ifE, v_andOk, v_orOk, v_andOkE, v_orOkE, v_isB, v_isI, v_isIB, v_eqS, v_neS, v_asB, v_args0, v_args1, v_tup, v_lst, v_call, v_callB, v_meth, v_methB, v_scal, v_scalI, v_scalB, v_scalS, v_scalN, v_rng1, v_rng2, v_rngD1, v_rngD2, v_seqI, v_tupI, v_seqL, v_seqC, v_seqT, v_seqQ, v_lenQ, v_tupQ, v_tupID, v_zipI, v_zipL, v_zipT, v_enumI, v_enumL, v_enumC, v_revI, v_revL, v_revT, v_comp, v_wipe0, v_wipe1, v_assoc, v_nx, v_end, v_asg, v_drop, v_ret, v_retN, v_raise, v_brk, v_cnt, v_if, v_iteT, v_iteF, v_asgG, v_nameG, v_consG, v_nilG, v_app, v_varP0, v_varPS, v_lstOf, v_set, v_for, v_outR, v_outX, v_outN, v_newF, v_outI, v_outIX, v_try, v_tryN, v_tryRt, v_divmod, v_dvm, v_tupRev, v_trev, v_lrev, v_lrevL, v_dnew, v_dnewT, v_din, v_dget, v_scalE, v_dlen, v_dlenT, v_dlenD, v_dlenTD, v_dgetI, v_dgetS, v_dput, divOk_of, smallI_of, intSz_of, lenSz_of, ok_bind, ex_bind, no_bind, bindS_ok, bindS_ex, ↓reduceIte, Option.bind_some, Int.reduceLT, Int.reduceLE, Nat.reduceLeDiff, Int.reduceNeg, Int.reduceEq, Bool.or_true, Bool.true_or, Bool.and_true, Bool.true_and, Bool.false_or, Bool.or_false, Bool.and_false, Bool.false_and, decide_true, decide_false, Bool.not_true, Bool.not_false, Bool.false_eq_true, e1, e2, e3]
    have hlt := Nat.mod_lt c' hm
    refine wp_join (fun ρ' => ρ' = [some (millD ps), some (.int k), some (.int (decR p m c' : Nat)), some (.int (m : Nat)), some (.lst (acc.map Dt.int)), some (pkTD p), some (.int ((c' / m : Nat) : Int))]) (fun h => ?_) (fun h => ?_) ?_
    · simp (decide := true) (implicitDefEqProofs := false) only [List.set_cons_zero, List.set_cons_succ, List.map_cons, List.map_nil, List.cons_append, List.nil_append, List.append_nil, List.replicate_succ, List.replicate_zero, Nat.reduceSub, List.length_cons, List.length_nil, Nat.reduceAdd, v_var0, v_varS, v_con, v_add, v_sub, v_mul, v_div, v_mod, v_pow, v_shl, v_lt, v_le, v_gt, v_ge, v_eq, v_ne, v_in, v_nin, v_ix, v_plus, v_cat, v_rep, v_isN, v_notN, v_len, v_neg, v_isi, v_list, v_tuple, v_tupleL, v_fld, v_fldI, v_all, v_any, v_sum, v_max2, v_min2, v_i2, v_addI, v_subI, v_mulL, v_mulR, v_divI, v_modI, v_ltI, v_leI, v_gtI, v_geI, v_negD, v_eqI, v_neI, v_eqB, v_neB, v_lenL, v_lenC, v_lenT, v_listL, v_listC, v_listT, v_tupL, v_tupC, v_tupT, v_tupLL, v_plusI, v_plusL, v_plusT, v_catL, v_slc, v_slcL, v_noPart, v_partO, v_asI, v_cutL, v_cutC, v_cutT, v_cutLL, v_cutLC, v_boolT, v_notT, v_andT, v_orT, v_yes, v_andE, v_orE, v_notE, v_ifE, v_andOk, v_orOk, v_andOkE, v_orOkE, v_isB, v_isI, v_isIB, v_eqS, v_neS, v_asB, v_args0, v_args1, v_tup, v_lst, v_call, v_callB, v_meth, v_methB, v_scal, v_scalI, v_scalB, v_scalS, v_scalN, v_rng1, v_rng2, v_rngD1, v_rngD2, v_seqI, v_tupI, v_seqL, v_seqC, v_seqT, v_seqQ, v_lenQ, v_tupQ, v_tupID, v_zipI, v_zipL, v_zipT, v_enumI, v_enumL, v_enumC, v_revI, v_revL, v_revT, v_comp, v_wipe0, v_wipe1, v_assoc, v_nx, v_end, v_asg, v_drop, v_ret, v_retN, v_raise, v_brk, v_cnt, v_if, v_iteT, v_iteF, v_asgG, v_nameG, v_consG, v_nilG, v_app, v_varP0, v_varPS, v_lstOf, v_set, v_for, v_outR, v_outX, v_outN, v_newF, v_outI, v_outIX, v_try, v_tryN, v_tryRt, v_divmod, v_dvm, v_tupRev, v_trev, v_lrev, v_lrevL, v_dnew, v_dnewT, v_din, v_dget, v_scalE, v_dlen, v_dlenT, v_dlenD, v_dlenTD, v_dgetI, v_dgetS, v_dput, divOk_of, smallI_of, intSz_of, lenSz_of, ok_bind, ex_bind, no_bind, bindS_ok, bindS_ex, ↓reduceIte, Option.bind_some, Int.reduceLT, Int.reduceLE, Nat.reduceLeDiff, Int.reduceNeg, Int.reduceEq, Bool.or_true, Bool.true_or, Bool.and_true, Bool.true_and, Bool.false_or, Bool.or_false, Bool.and_false, Bool.false_and, decide_true, decide_false, Bool.not_true, Bool.not_false, Bool.false_eq_true]
      unfold decR
      rw [h, if_pos rfl, show (m : Int) - 1 - ((c' % m : Nat) : Int) = ((m - 1 - c' % m : Nat) : Int) by omega]
      rfl
    · simp (decide := true) (implicitDefEqProofs := false) only [List.set_cons_zero, List.set_cons_succ, List.map_cons, List.map_nil, List.cons_append, List.nil_append, List.append_nil, List.replicate_succ, List.replicate_zero, Nat.reduceSub, List.length_cons, List.length_nil, Nat.reduceAdd, v_var0, v_varS, v_con, v_add, v_sub, v_mul, v_div, v_mod, v_pow, v_shl, v_lt, v_le, v_gt, v_ge, v_eq, v_ne, v_in, v_nin, v_ix, v_plus, v_cat, v_rep, v_isN, v_notN, v_len, v_neg, v_isi, v_list, v_tuple, v_tupleL, v_fld, v_fldI, v_all, v_any, v_sum, v_max2, v_min2, v_i2, v_addI, v_subI, v_mulL, v_mulR, v_divI, v_modI, v_ltI, v_leI, v_gtI, v_geI, v_negD, v_eqI, v_neI, v_eqB, v_neB, v_lenL, v_lenC, v_lenT, v_listL, v_listC, v_listT, v_tupL, v_tupC, v_tupT, v_tupLL, v_plusI, v_plusL, v_plusT, v_catL, v_slc, v_slcL, v_noPart, v_partO, v_asI, v_cutL, v_cutC, v_cutT, v_cutLL, v_cutLC, v_boolT, v_notT, v_andT, v_orT, v_yes, v_andE, v_orE, v_notE, v_ifE, v_andOk, v_orOk, v_andOkE, v_orOkE, v_isB, v_isI, v_isIB, v_eqS, v_neS, v_asB, v_args0, v_args1, v_tup, v_lst, v_call, v_callB, v_meth, v_methB, v_scal, v_scalI, v_scalB, v_scalS, v_scalN, v_rng1, v_rng2, v_rngD1, v_rngD2, v_seqI, v_tupI, v_seqL, v_seqC, v_seqT, v_seqQ, v_lenQ, v_tupQ, v_tupID, v_zipI, v_zipL, v_zipT, v_enumI, v_enumL, v_enumC, v_revI, v_revL, v_revT, v_comp, v_wipe0, v_wipe1, v_assoc, v_nx, v_end, v_asg, v_drop, v_ret, v_retN, v_raise, v_brk, v_cnt, v_if, v_iteT, v_iteF, v_asgG, v_nameG, v_consG, v_nilG, v_app, v_varP0, v_varPS, v_lstOf, v_set, v_for, v_outR, v_outX, v_outN, v_newF, v_outI, v_outIX, v_try, v_tryN, v_tryRt, v_divmod, v_dvm, v_tupRev, v_trev, v_lrev, v_lrevL, v_dnew, v_dnewT, v_din, v_dget, v_scalE, v_dlen, v_dlenT, v_dlenD, v_dlenTD, v_dgetI, v_dgetS, v_dput, divOk_of, smallI_of, intSz_of, lenSz_of, ok_bind, ex_bind, no_bind, bindS_ok, bindS_ex, ↓reduceIte, Option.bind_some, Int.reduceLT, Int.reduceLE, Nat.reduceLeDiff, Int.reduceNeg, Int.reduceEq, Bool.or_true, Bool.true_or, Bool.and_true, Bool.true_and, Bool.false_or, Bool.or_false, Bool.and_false, Bool.false_and, decide_true, decide_false, Bool.not_true, Bool.not_false, Bool.false_eq_true]
      unfold decR
      rw [h]
      rfl
    rintro ρ' rfl
    have hacc : acc.length ≤ 6 := by
      rw [b2]
      have : rs.length ≤ ps.length := by rw [← hrsd, List.length_reverse, List.length_drop]; omega
      omega
    simp (decide := true) (implicitDefEqProofs := false) only [List.set_cons_zero, List.set_cons_succ, List.map_cons, List.map_nil, List.cons_append, List.nil_append, List.append_nil, List.replicate_succ, List.replicate_zero, Nat.reduceSub, List.length_cons, List.length_nil, Nat.reduceAdd, v_var0, v_varS, v_con, v_add, v_sub, v_mul, v_div, v_mod, v_pow, v_shl, v_lt, v_le, v_gt, v_ge, v_eq, v_ne, v_in, v_nin, v_ix, v_plus, v_cat, v_rep, v_isN, v_notN, v_len, v_neg, v_isi, v_list, v_tuple, v_tupleL, v_fld, v_fldI, v_all, v_any, v_sum, v_max2, v_min2, v_i2, v_addI, v_subI, v_mulL, v_mulR, v_divI, v_modI, v_ltI, v_leI, v_gtI, v_geI, v_negD, v_eqI, v_neI, v_eqB, v_neB, v_lenL, v_lenC, v_lenT, v_listL, v_listC, v_listT, v_tupL, v_tupC, v_tupT, v_tupLL, v_plusI, v_plusL, v_plusT, v_catL, v_slc, v_slcL, v_noPart, v_partO, v_asI, v_cutL, v_cutC, v_cutT, v_cutLL, v_cutLC, v_boolT, v_notT, v_andT, v_orT, v_yes, v_andE, v_orE, v_notE, v_ifE, v_andOk, v_orOk, v_andOkE, v_orOkE, v_isB, v_isI, v_isIB, v_eqS, v_neS, v_asB, v_args0, v_args1, v_tup, v_lst, v_call, v_callB, v_meth, v_methB, v_scal, v_scalI, v_scalB, v_scalS, v_scalN, v_rng1, v_rng2, v_rngD1, v_rngD2, v_seqI, v_tupI, v_seqL, v_seqC, v_seqT, v_seqQ, v_lenQ, v_tupQ, v_tupID, v_zipI, v_zipL, v_zipT, v_enumI, v_enumL, v_enumC, v_revI, v_revL, v_revT, v_comp, v_wipe0, v_wipe1, v_assoc, v_nx, v_end, v_asg, v_drop, v_ret, v_retN, v_raise, v_brk, v_cnt, v_if, v_iteT, v_iteF, v_asgG, v_nameG, v_consG, v_nilG, v_app, v_varP0, v_varPS, v_lstOf, v_set, v_for, v_outR, v_outX, v_outN, v_newF, v_outI, v_outIX, v_try, v_tryN, v_tryRt, v_divmod, v_dvm, v_tupRev, v_trev, v_lrev, v_lrevL, v_dnew, v_dnewT, v_din, v_dget, v_scalE, v_dlen, v_dlenT, v_dlenD, v_dlenTD, v_dgetI, v_dgetS, v_dput, divOk_of, smallI_of, intSz_of, lenSz_of, ok_bind, ex_bind, no_bind, bindS_ok, bindS_ex, ↓reduceIte, Option.bind_some, Int.reduceLT, Int.reduceLE, Nat.reduceLeDiff, Int.reduceNeg, Int.reduceEq, Bool.or_true, Bool.true_or, Bool.and_true, Bool.true_and, Bool.false_or, Bool.or_false, Bool.and_false, Bool.false_and, decide_true, decide_false, Bool.not_true, Bool.not_false, Bool.false_eq_true, v_appR (ds := acc.map Dt.int) (lenSz_of (by rw [List.length_map]; omega))]
    refine ⟨decR p m c', acc ++ [((c' / m : Nat) : Int)], some (pkTD p), some (.int ((c' / m : Nat) : Int)), decR_lt hm, by rw [List.length_append, b2]; rfl, ?_, ?_, by rw [List.map_append]; rfl⟩
    · rw [b3]
      show dec0 (rs.drop (n + 1)) (m * p.length / p.length) (decR p (m * p.length / p.length) c') = _
      rw [ed]
    · rw [b4, List.append_assoc]
      show acc ++ (((c' / (m * p.length / p.length) : Nat) : Int) :: decW (rs.drop (n + 1)) (m * p.length / p.length) (decR p (m * p.length / p.length) c')) = _
      rw [ed]
      rfl
  · rintro ρ ⟨c', acc, x, y, b1, b2, b3, b4, rfl⟩
    rw [List.length_map, List.drop_length] at b1 b3 b4
    rw [List.length_map, List.drop_length]
    have e1 : prodN (ps.take k) * prodLen [] = prodN (ps.take k) := Nat.mul_one _
    rw [e1] at b1 b3 b4 ⊢
    have b3 : decJoin ps k c = c' := by unfold decJoin; rw [hrsd]; exact b3
    have b4 : decWord ps k c = acc.reverse := by
      unfold decWord
      rw [hrsd, b4]
      show (acc ++ []).reverse = _
      rw [List.append_nil]
    simp (decide := true) (implicitDefEqProofs := false) only [List.set_cons_zero, List.set_cons_succ, List.map_cons, List.map_nil, List.cons_append, List.nil_append, List.append_nil, List.replicate_succ, List.replicate_zero, Nat.reduceSub, List.length_cons, List.length_nil, Nat.reduceAdd, v_var0, v_varS, v_con, v_add, v_sub, v_mul, v_div, v_mod, v_pow, v_shl, v_lt, v_le, v_gt, v_ge, v_eq, v_ne, v_in, v_nin, v_ix, v_plus, v_cat, v_rep, v_isN, v_notN, v_len, v_neg, v_isi, v_list, v_tuple, v_tupleL, v_fld, v_fldI, v_all, v_any, v_sum, v_max2, v_min2, v_i2, v_addI, v_subI, v_mulL, v_mulR, v_divI, v_modI, v_ltI, v_leI, v_gtI, v_geI, v_negD, v_eqI, v_neI, v_eqB, v_neB, v_lenL, v_lenC, v_lenT, v_listL, v_listC, v_listT, v_tupL, v_tupC, v_tupT, v_tupLL, v_plusI, v_plusL, v_plusT, v_catL, v_slc, v_slcL, v_noPart, v_partO, v_asI, v_cutL, v_cutC, v_cutT, v_cutLL, v_cutLC, v_boolT, v_notT, v_andT, v_orT, v_yes, v_andE, v_orE, v_notE, v_ifE, v_andOk, v_orOk, v_andOkE, v_orOkE, v_isB, v_isI, v_isIB, v_eqS, v_neS, v_asB, v_args0, v_args1, v_tup, v_lst, v_call, v_callB, v_meth, v_methB, v_scal, v_scalI, v_scalB, v_scalS, v_scalN, v_rng1, v_rng2, v_rngD1, v_rngD2, v_seqI, v_tupI, v_seqL, v_seqC, v_seqT, v_seqQ, v_lenQ, v_tupQ, v_tupID, v_zipI, v_zipL, v_zipT, v_enumI, v_enumL, v_enumC, v_revI, v_revL, v_revT, v_comp, v_wipe0, v_wipe1, v_assoc, v_nx, v_end, v_asg, v_drop, v_ret, v_retN, v_raise, v_brk, v_cnt, v_if, v_iteT, v_iteF, v_asgG, v_nameG, v_consG, v_nilG, v_app, v_varP0, v_varPS, v_lstOf, v_set, v_for, v_outR, v_outX, v_outN, v_newF, v_outI, v_outIX, v_try, v_tryN, v_tryRt, v_divmod, v_dvm, v_tupRev, v_trev, v_lrev, v_lrevL, v_dnew, v_dnewT, v_din, v_dget, v_scalE, v_dlen, v_dlenT, v_dlenD, v_dlenTD, v_dgetI, v_dgetS, v_dput, divOk_of, smallI_of, intSz_of, lenSz_of, ok_bind, ex_bind, no_bind, bindS_ok, bindS_ex, ↓reduceIte, Option.bind_some, Int.reduceLT, Int.reduceLE, Nat.reduceLeDiff, Int.reduceNeg, Int.reduceEq, Bool.or_true, Bool.true_or, Bool.and_true, Bool.true_and, Bool.false_or, Bool.or_false, Bool.and_false, Bool.false_and, decide_true, decide_false, Bool.not_true, Bool.not_false, Bool.false_eq_true]
    rw [b3, b4]
    by_cases hj : c' = prodN (ps.take k) - 1
    · have e2 : ((c' : Int) = (prodN (ps.take k) : Int) - 1) := by omega
      rw [if_pos hj]
      simp (decide := true) (implicitDefEqProofs := false) only [List.set_cons_zero, List.set_cons_succ, List.map_cons, List.map_nil, List.cons_append, List.nil_append, List.append_nil, List.replicate_succ, List.replicate_zero, Nat.reduceSub, List.length_cons, List.length_nil, Nat.reduceAdd, v_var0, v_varS, v_con, v_add, v_sub, v_mul, v_div, v_mod, v_pow, v_shl, v_lt, v_le, v_gt, v_ge, v_eq, v_ne, v_in, v_nin, v_ix, v_plus, v_cat, v_rep, v_isN, v_notN, v_len, v_neg, v_isi, v_list, v_tuple, v_tupleL, v_fld, v_fldI, v_all, v_any, v_sum, v_max2, v_min2, v_i2, v_addI, v_subI, v_mulL, v_mulR, v_divI, v_modI, v_ltI, v_leI, v_gtI, v_geI, v_negD, v_eqI, v_neI, v_eqB, v_neB, v_lenL, v_lenC, v_lenT, v_listL, v_listC, v_listT, v_tupL, v_tupC, v_tupT, v_tupLL, v_plusI, v_plusL, v_plusT, v_catL, v_slc, v_slcL, v_noPart, v_partO, v_asI, v_cutL, v_cutC, v_cutT, v_cutLL, v_cutLC, v_boolT, v_notT, v_andT, v_orT, v_yes, v_andE, v_orE, v_notE, v_ifE, v_andOk, v_orOk, v_andOkE, v_orOkE, v_isB, v_isI, v_isIB, v_eqS, v_neS, v_asB, v_args0, v_args1, v_tup, v_lst, v_call, v_callB, v_meth, v_methB, v_scal, v_scalI, v_scalB, v_scalS, v_scalN, v_rng1, v_rng2, v_rngD1, v_rngD2, v_seqI, v_tupI, v_seqL, v_seqC, v_seqT, v_seqQ, v_lenQ, v_tupQ, v_tupID, v_zipI, v_zipL, v_zipT, v_enumI, v_enumL, v_enumC, v_revI, v_revL, v_revT, v_comp, v_wipe0, v_wipe1, v_assoc, v_nx, v_end, v_asg, v_drop, v_ret, v_retN, v_raise, v_brk, v_cnt, v_if, v_iteT, v_iteF, v_asgG, v_nameG, v_consG, v_nilG, v_app, v_varP0, v_varPS, v_lstOf, v_set, v_for, v_outR, v_outX, v_outN, v_newF, v_outI, v_outIX, v_try, v_tryN, v_tryRt, v_divmod, v_dvm, v_tupRev, v_trev, v_lrev, v_lrevL, v_dnew, v_dnewT, v_din, v_dget, v_scalE, v_dlen, v_dlenT, v_dlenD, v_dlenTD, v_dgetI, v_dgetS, v_dput, divOk_of, smallI_of, intSz_of, lenSz_of, ok_bind, ex_bind, no_bind, bindS_ok, bindS_ex, ↓reduceIte, Option.bind_some, Int.reduceLT, Int.reduceLE, Nat.reduceLeDiff, Int.reduceNeg, Int.reduceEq, Bool.or_true, Bool.true_or, Bool.and_true, Bool.true_and, Bool.false_or, Bool.or_false, Bool.and_false, Bool.false_and, decide_true, decide_false, Bool.not_true, Bool.not_false, Bool.false_eq_true, e2]
      unfold wdD
      rw [List.map_reverse]
    · have e2 : ¬ ((c' : Int) = (prodN (ps.take k) : Int) - 1) := by omega
      rw [if_neg hj]
      simp (decide := true) (implicitDefEqProofs := false) only [List.set_cons_zero, List.set_cons_succ, List.map_cons, List.map_nil, List.cons_append, List.nil_append, List.append_nil, List.replicate_succ, List.replicate_zero, Nat.reduceSub, List.length_cons, List.length_nil, Nat.reduceAdd, v_var0, v_varS, v_con, v_add, v_sub, v_mul, v_div, v_mod, v_pow, v_shl, v_lt, v_le, v_gt, v_ge, v_eq, v_ne, v_in, v_nin, v_ix, v_plus, v_cat, v_rep, v_isN, v_notN, v_len, v_neg, v_isi, v_list, v_tuple, v_tupleL, v_fld, v_fldI, v_all, v_any, v_sum, v_max2, v_min2, v_i2, v_addI, v_subI, v_mulL, v_mulR, v_divI, v_modI, v_ltI, v_leI, v_gtI, v_geI, v_negD, v_eqI, v_neI, v_eqB, v_neB, v_lenL, v_lenC, v_lenT, v_listL, v_listC, v_listT, v_tupL, v_tupC, v_tupT, v_tupLL, v_plusI, v_plusL, v_plusT, v_catL, v_slc, v_slcL, v_noPart, v_partO, v_asI, v_cutL, v_cutC, v_cutT, v_cutLL, v_cutLC, v_boolT, v_notT, v_andT, v_orT, v_yes, v_andE, v_orE, v_notE, v_ifE, v_andOk, v_orOk, v_andOkE, v_orOkE, v_isB, v_isI, v_isIB, v_eqS, v_neS, v_asB, v_args0, v_args1, v_tup, v_lst, v_call, v_callB, v_meth, v_methB, v_scal, v_scalI, v_scalB, v_scalS, v_scalN, v_rng1, v_rng2, v_rngD1, v_rngD2, v_seqI, v_tupI, v_seqL, v_seqC, v_seqT, v_seqQ, v_lenQ, v_tupQ, v_tupID, v_zipI, v_zipL, v_zipT, v_enumI, v_enumL, v_enumC, v_revI, v_revL, v_revT, v_comp, v_wipe0, v_wipe1, v_assoc, v_nx, v_end, v_asg, v_drop, v_ret, v_retN, v_raise, v_brk, v_cnt, v_if, v_iteT, v_iteF, v_asgG, v_nameG, v_consG, v_nilG, v_app, v_varP0, v_varPS, v_lstOf, v_set, v_for, v_outR, v_outX, v_outN, v_newF, v_outI, v_outIX, v_try, v_tryN, v_tryRt, v_divmod, v_dvm, v_tupRev, v_trev, v_lrev, v_lrevL, v_dnew, v_dnewT, v_din, v_dget, v_scalE, v_dlen, v_dlenT, v_dlenD, v_dlenTD, v_dgetI, v_dgetS, v_dput, divOk_of, smallI_of, intSz_of, lenSz_of, ok_bind, ex_bind, no_bind, bindS_ok, bindS_ex, ↓reduceIte, Option.bind_some, Int.reduceLT, Int.reduceLE, Nat.reduceLeDiff, Int.reduceNeg, Int.reduceEq, Bool.or_true, Bool.true_or, Bool.and_true, Bool.true_and, Bool.false_or, Bool.or_false, Bool.and_false, Bool.false_and, decide_true, decide_false, Bool.not_true, Bool.not_false, Bool.false_eq_true, e2]
theorem ixP_at {ps : List (List Pk)} {n : Nat} {p : List Pk} (h : ps[n]? = some p) : ixD (.lst (ps.map pkLD)) (.int (n : Nat)) = .ok (pkLD p) := v_ixL (atI_nat (at_map (f := pkLD) h))
theorem lenD_pkL (p : List Pk) : lenD (pkLD p) = .ok (.int p.length) := by
  show Rs.ok (Dt.int ((p.map pkD).length)) = _
  rw [List.length_map]
theorem lenD_wd (ws : List Int) : lenD (wdD ws) = .ok (.int ws.length) := by
  show Rs.ok (Dt.int ((ws.map Dt.int).length)) = _
  rw [List.length_map]
theorem isi_wd (ws : List Int) : isiD .tuple (wdD ws) = .ok (.bl true) := rfl
def LawP (o : Ot) : Prop := outF .F o = .ok (.bl true)
theorem word_good_run (ps : List (List Pk)) (k : Nat) (ws : List Int) (hk : k ≤ ps.length) (hl : ps.length ≤ 6) (hw : wordB (ps.drop k) ws = true) : F__law_word_good [wdD ws, .lst (ps.map pkLD), .int k] = .ok (.bl true) := by
  rw [R__law_word_good]
  unfold Fb__law_word_good
  show LawP _
  obtain ⟨hwl, hwp⟩ := wordB_iff.mp hw
  rw [List.length_drop] at hwl
  have e0 : ((ws.length : Int) = (ps.length : Int) - (k : Int)) := by omega
  simp (decide := true) (implicitDefEqProofs := false) only [List.set_cons_zero, List.set_cons_succ, List.map_cons, List.map_nil, List.cons_append, List.nil_append, List.append_nil, List.replicate_succ, List.replicate_zero, Nat.reduceSub, List.length_cons, List.length_nil, Nat.reduceAdd, v_var0, v_varS, v_con, v_add, v_sub, v_mul, v_div, v_mod, v_pow, v_shl, v_lt, v_le, v_gt, v_ge, v_eq, v_ne, v_in, v_nin, v_ix, v_plus, v_cat, v_rep, v_isN, v_notN, v_len, v_neg, v_isi, v_list, v_tuple, v_tupleL, v_fld, v_fldI, v_all, v_any, v_sum, v_max2, v_min2, v_i2, v_addI, v_subI, v_mulL, v_mulR, v_divI, v_modI, v_ltI, v_leI, v_gtI, v_geI, v_negD, v_eqI, v_neI, v_eqB, v_neB, v_lenL, v_lenC, v_lenT, v_listL, v_listC, v_listT, v_tupL, v_tupC, v_tupT, v_tupLL, v_plusI, v_plusL, v_plusT, v_catL, v_slc, v_slcL, v_noPart, v_partO, v_asI, v_cutL, v_cutC, v_cutT, v_cutLL, v_cutLC, v_boolT, v_notT, v_andT, v_orT, v_yes, v_andE, v_orE, v_notE, v_ifE, v_andOk, v_orOk, v_andOkE, v_orOkE, v_isB, v_isI, v_isIB, v_eqS, v_neS, v_asB, v_args0, v_args1, v_tup, v_lst, v_call, v_callB, v_meth, v_methB, v_scal, v_scalI, v_scalB, v_scalS, v_scalN, v_rng1, v_rng2, v_rngD1, v_rngD2, v_seqI, v_tupI, v_seqL, v_seqC, v_seqT, v_seqQ, v_lenQ, v_tupQ, v_tupID, v_zipI, v_zipL, v_zipT, v_enumI, v_enumL, v_enumC, v_revI, v_revL, v_revT, v_comp, v_wipe0, v_wipe1, v_assoc, v_nx, v_end, v_asg, v_drop, v_ret, v_retN, v_raise, v_brk, v_cnt, v_if, v_iteT, v_iteF, v_asgG, v_nameG, v_consG, v_nilG, v_app, v_varP0, v_varPS, v_lstOf, v_set, v_for, v_outR, v_outX, v_outN, v_newF, v_outI, v_outIX, v_try, v_tryN, v_tryRt, v_divmod, v_dvm, v_tupRev, v_trev, v_lrev, v_lrevL, v_dnew, v_dnewT, v_din, v_dget, v_scalE, v_dlen, v_dlenT, v_dlenD, v_dlenTD, v_dgetI, v_dgetS, v_dput, divOk_of, smallI_of, intSz_of, lenSz_of, ok_bind, ex_bind, no_bind, bindS_ok, bindS_ex, ↓reduceIte, Option.bind_some, Int.reduceLT, Int.reduceLE, Nat.reduceLeDiff, Int.reduceNeg, Int.reduceEq, Bool.or_true, Bool.true_or, Bool.and_true, Bool.true_and, Bool.false_or, Bool.or_false, Bool.and_false, Bool.false_and, decide_true, decide_false, Bool.not_true, Bool.not_false, Bool.false_eq_true, isi_wd, lenD_wd, List.length_map, e0]
  rw [← e0]
  simp (decide := true) (implicitDefEqProofs := false) only [List.set_cons_zero, List.set_cons_succ, List.map_cons, List.map_nil, List.cons_append, List.nil_append, List.append_nil, List.replicate_succ, List.replicate_zero, Nat.reduceSub, List.length_cons, List.length_nil, Nat.reduceAdd, v_var0, v_varS, v_con, v_add, v_sub, v_mul, v_div, v_mod, v_pow, v_shl, v_lt, v_le, v_gt, v_ge, v_eq, v_ne, v_in, v_nin, v_ix, v_plus, v_cat, v_rep, v_isN, v_notN, v_len, v_neg, v_isi, v_list, v_tuple, v_tupleL, v_fld, v_fldI, v_all, v_any, v_sum, v_max2, v_min2, v_i2, v_addI, v_subI, v_mulL, v_mulR, v_divI, v_modI, v_ltI, v_leI, v_gtI, v_geI, v_negD, v_eqI, v_neI, v_eqB, v_neB, v_lenL, v_lenC, v_lenT, v_listL, v_listC, v_listT, v_tupL, v_tupC, v_tupT, v_tupLL, v_plusI, v_plusL, v_plusT, v_catL, v_slc, v_slcL, v_noPart, v_partO, v_asI, v_cutL, v_cutC, v_cutT, v_cutLL, v_cutLC, v_boolT, v_notT, v_andT, v_orT, v_yes, v_andE, v_orE, v_notE, v_ifE, v_andOk, v_orOk, v_andOkE, v_orOkE, v_isB, v_isI, v_isIB, v_eqS, v_neS, v_asB, v_args0, v_args1, v_tup, v_lst, v_call, v_callB, v_meth, v_methB, v_scal, v_scalI, v_scalB, v_scalS, v_scalN, v_rng1, v_rng2, v_rngD1, v_rngD2, v_seqI, v_tupI, v_seqL, v_seqC, v_seqT, v_seqQ, v_lenQ, v_tupQ, v_tupID, v_zipI, v_zipL, v_zipT, v_enumI, v_enumL, v_enumC, v_revI, v_revL, v_revT, v_comp, v_wipe0, v_wipe1, v_assoc, v_nx, v_end, v_asg, v_drop, v_ret, v_retN, v_raise, v_brk, v_cnt, v_if, v_iteT, v_iteF, v_asgG, v_nameG, v_consG, v_nilG, v_app, v_varP0, v_varPS, v_lstOf, v_set, v_for, v_outR, v_outX, v_outN, v_newF, v_outI, v_outIX, v_try, v_tryN, v_tryRt, v_divmod, v_dvm, v_tupRev, v_trev, v_lrev, v_lrevL, v_dnew, v_dnewT, v_din, v_dget, v_scalE, v_dlen, v_dlenT, v_dlenD, v_dlenTD, v_dgetI, v_dgetS, v_dput, divOk_of, smallI_of, intSz_of, lenSz_of, ok_bind, ex_bind, no_bind, bindS_ok, bindS_ex, ↓reduceIte, Option.bind_some, Int.reduceLT, Int.reduceLE, Nat.reduceLeDiff, Int.reduceNeg, Int.reduceEq, Bool.or_true, Bool.true_or, Bool.and_true, Bool.true_and, Bool.false_or, Bool.or_false, Bool.and_false, Bool.false_and, decide_true, decide_false, Bool.not_true, Bool.not_false, Bool.false_eq_true, v_rngD1 (intSz_of (a := (ws.length : Int)) (by omega) (by omega))]
  refine wp_for (fun n ρ => ∃ x, ρ = [some (wdD ws), some (.lst (ps.map pkLD)), some (.int k), x]) ⟨none, rfl⟩ ?_ ?_
  · rintro n d ρ hd ⟨x, rfl⟩
    obtain ⟨hn, rfl⟩ := rangeL0_at hd
    have hn : n < ws.length := by omega
    refine ⟨_, v_nameG, ?_⟩
    obtain ⟨w, hw1, _⟩ := at_of_lt (xs := ws) (k := n) hn
    obtain ⟨p, hp1, _⟩ := at_of_lt (xs := ps) (k := k + n) (by omega)
    obtain ⟨b1, b2⟩ := hwp n w p hw1 (by rw [List.getElem?_drop]; exact hp1)
    have e1 : ixD (wdD ws) (.int (n : Nat)) = .ok (.int w) := v_ixT (atI_nat (at_map (f := Dt.int) hw1))
    have e2 : ((k : Int) + (n : Int)) = ((k + n : Nat) : Int) := by omega
    have c1 : ¬ (w < 0) := by omega
    have c2 : ¬ ((p.length : Int) ≤ w) := by omega
    simp (decide := true) (implicitDefEqProofs := false) only [List.set_cons_zero, List.set_cons_succ, List.map_cons, List.map_nil, List.cons_append, List.nil_append, List.append_nil, List.replicate_succ, List.replicate_zero, Nat.reduceSub, List.length_cons, List.length_nil, Nat.reduceAdd, v_var0, v_varS, v_con, v_add, v_sub, v_mul, v_div, v_mod, v_pow, v_shl, v_lt, v_le, v_gt, v_ge, v_eq, v_ne, v_in, v_nin, v_ix, v_plus, v_cat, v_rep, v_isN, v_notN, v_len, v_neg, v_isi, v_list, v_tuple, v_tupleL, v_fld, v_fldI, v_all, v_any, v_sum, v_max2, v_min2, v_i2, v_addI, v_subI, v_mulL, v_mulR, v_divI, v_modI, v_ltI, v_leI, v_gtI, v_geI, v_negD, v_eqI, v_neI, v_eqB, v_neB, v_lenL, v_lenC, v_lenT, v_listL, v_listC, v_listT, v_tupL, v_tupC, v_tupT, v_tupLL, v_plusI, v_plusL, v_plusT, v_catL, v_slc, v_slcL, v_noPart, v_partO, v_asI, v_cutL, v_cutC, v_cutT, v_cutLL, v_cutLC, v_boolT, v_notT, v_andT, v_orT, v_yes, v_andE, v_orE, v_notE, v_ifE, v_andOk, v_orOk, v_andOkE, v_orOkE, v_isB, v_isI, v_isIB, v_eqS, v_neS, v_asB, v_args0, v_args1, v_tup, v_lst, v_call, v_callB, v_meth, v_methB, v_scal, v_scalI, v_scalB, v_scalS, v_scalN, v_rng1, v_rng2, v_rngD1, v_rngD2, v_seqI, v_tupI, v_seqL, v_seqC, v_seqT, v_seqQ, v_lenQ, v_tupQ, v_tupID, v_zipI, v_zipL, v_zipT, v_enumI, v_enumL, v_enumC, v_revI, v_revL, v_revT, v_comp, v_wipe0, v_wipe1, v_assoc, v_nx, v_end, v_asg, v_drop, v_ret, v_retN, v_raise, v_brk, v_cnt, v_if, v_iteT, v_iteF, v_asgG, v_nameG, v_consG, v_nilG, v_app, v_varP0, v_varPS, v_lstOf, v_set, v_for, v_outR, v_outX, v_outN, v_newF, v_outI, v_outIX, v_try, v_tryN, v_tryRt, v_divmod, v_dvm, v_tupRev, v_trev, v_lrev, v_lrevL, v_dnew, v_dnewT, v_din, v_dget, v_scalE, v_dlen, v_dlenT, v_dlenD, v_dlenTD, v_dgetI, v_dgetS, v_dput, divOk_of, smallI_of, intSz_of, lenSz_of, ok_bind, ex_bind, no_bind, bindS_ok, bindS_ex, ↓reduceIte, Option.bind_some, Int.reduceLT, Int.reduceLE, Nat.reduceLeDiff, Int.reduceNeg, Int.reduceEq, Bool.or_true, Bool.true_or, Bool.and_true, Bool.true_and, Bool.false_or, Bool.or_false, Bool.and_false, Bool.false_and, decide_true, decide_false, Bool.not_true, Bool.not_false, Bool.false_eq_true, e1, v_plusI, e2, ixP_at hp1, lenD_pkL, c1, c2]
    exact ⟨_, rfl⟩
  · rintro ρ ⟨x, rfl⟩
    simp (implicitDefEqProofs := false) only [List.set_cons_zero, List.set_cons_succ, List.map_cons, List.map_nil, List.cons_append, List.nil_append, List.append_nil, List.replicate_succ, List.replicate_zero, Nat.reduceSub, List.length_cons, List.length_nil, Nat.reduceAdd, v_var0, v_varS, v_con, v_add, v_sub, v_mul, v_div, v_mod, v_pow, v_shl, v_lt, v_le, v_gt, v_ge, v_eq, v_ne, v_in, v_nin, v_ix, v_plus, v_cat, v_rep, v_isN, v_notN, v_len, v_neg, v_isi, v_list, v_tuple, v_tupleL, v_fld, v_fldI, v_all, v_any, v_sum, v_max2, v_min2, v_i2, v_addI, v_subI, v_mulL, v_mulR, v_divI, v_modI, v_ltI, v_leI, v_gtI, v_geI, v_negD, v_eqI, v_neI, v_eqB, v_neB, v_lenL, v_lenC, v_lenT, v_listL, v_listC, v_listT, v_tupL, v_tupC, v_tupT, v_tupLL, v_plusI, v_plusL, v_plusT, v_catL, v_slc, v_slcL, v_noPart, v_partO, v_asI, v_cutL, v_cutC, v_cutT, v_cutLL, v_cutLC, v_boolT, v_notT, v_andT, v_orT, v_yes, v_andE, v_orE, v_notE, v_ifE, v_andOk, v_orOk, v_andOkE, v_orOkE, v_isB, v_isI, v_isIB, v_eqS, v_neS, v_asB, v_args0, v_args1, v_tup, v_lst, v_call, v_callB, v_meth, v_methB, v_scal, v_scalI, v_scalB, v_scalS, v_scalN, v_rng1, v_rng2, v_rngD1, v_rngD2, v_seqI, v_tupI, v_seqL, v_seqC, v_seqT, v_seqQ, v_lenQ, v_tupQ, v_tupID, v_zipI, v_zipL, v_zipT, v_enumI, v_enumL, v_enumC, v_revI, v_revL, v_revT, v_comp, v_wipe0, v_wipe1, v_assoc, v_nx, v_end, v_asg, v_drop, v_ret, v_retN, v_raise, v_brk, v_cnt, v_if, v_iteT, v_iteF, v_asgG, v_nameG, v_consG, v_nilG, v_app, v_varP0, v_varPS, v_lstOf, v_set, v_for, v_outR, v_outX, v_outN, v_newF, v_outI, v_outIX, v_try, v_tryN, v_tryRt, v_divmod, v_dvm, v_tupRev, v_trev, v_lrev, v_lrevL, v_dnew, v_dnewT, v_din, v_dget, v_scalE, v_dlen, v_dlenT, v_dlenD, v_dlenTD, v_dgetI, v_dgetS, v_dput, divOk_of, smallI_of, intSz_of, lenSz_of, ok_bind, ex_bind, no_bind, bindS_ok, bindS_ex, ↓reduceIte, Option.bind_some, Int.reduceLT, Int.reduceLE, Nat.reduceLeDiff, Int.reduceNeg, Int.reduceEq, Bool.or_true, Bool.true_or, Bool.and_true, Bool.true_and, Bool.false_or, Bool.or_false, Bool.and_false, Bool.false_and, decide_true, decide_false, Bool.not_true, Bool.not_false, Bool.false_eq_true]
    rfl
/-! the words of all codes -/
def goodC (ps : List (List Pk)) (k c : Nat) : Bool := decide (decJoin ps k c = prodN (ps.take k) - 1)
def keyC (ps : List (List Pk)) (k c : Nat) : List Key := (decWord ps k c).map Sum.inl
def upto (ps : List (List Pk)) (k n : Nat) : List Nat := (List.range n).filter (goodC ps k)
def toldD (ps : List (List Pk)) (k n : Nat) : Dt := .dit ((upto ps k n).map (keyC ps k)) ((upto ps k n).map fun c => Dt.int (c : Nat))
theorem inl_inj : ∀ {as bs : List Int}, as.map (Sum.inl : Int → Key) = bs.map Sum.inl → as = bs
  | [], [], _ => rfl
  | [], _ :: _, h => by cases h
  | _ :: _, [], h => by cases h
  | a :: as, b :: bs, h => by
    rw [List.map_cons, List.map_cons] at h
    injection h with h1 h2
    injection h1 with h1
    rw [h1, inl_inj h2]
theorem upto_succ (ps : List (List Pk)) (k n : Nat) : upto ps k (n + 1) = upto ps k n ++ (if goodC ps k n = true then [n] else []) := by
  unfold upto
  rw [List.range_succ, List.filter_append]
  congr 1
  cases h : goodC ps k n with
  | true => rw [List.filter_cons_of_pos h]; rfl
  | false => rw [List.filter_cons_of_neg (by simp [h])]; rfl
theorem fresh_key (ps : List (List Pk)) (k n : Nat) (hp : ps.all passB = true) (hn : n < prodN ps) (hg : goodC ps k n = true) : hasK ((upto ps k n).map (keyC ps k)) (keyC ps k n) = false := by
  unfold hasK
  rw [List.any_eq_false]
  intro x hx
  obtain ⟨c, hc, rfl⟩ := List.mem_map.mp hx
  obtain ⟨hc1, hc2⟩ := List.mem_filter.mp hc
  have hc1 := List.mem_range.mp hc1
  intro h
  have h := inl_inj (of_decide_eq_true h)
  have a := (decWord_spec ps k c hp (by omega)).2.2 (of_decide_eq_true hc2)
  have b := (decWord_spec ps k n hp hn).2.2 (of_decide_eq_true hg)
  rw [h, b] at a
  omega
theorem notN_ (ws : List Int) : isNonD (wdD ws) = false := rfl
def WordsP (ps : List (List Pk)) (k : Nat) (o : Ot) : Prop := outF .F o = .ok (toldD ps k (prodN ps))
theorem words_run (ps : List (List Pk)) (k : Nat) (hk : k ≤ ps.length) (hl : ps.length ≤ 6) (hp : ps.all passB = true) (hN : prodN ps ≤ 1000) : F__law_words [millD ps, .lst (ps.map pkLD), .int k] = .ok (toldD ps k (prodN ps)) := by
  rw [R__law_words]
  unfold Fb__law_words
  show WordsP ps k _
  simp (decide := true) (implicitDefEqProofs := false) only [List.set_cons_zero, List.set_cons_succ, List.map_cons, List.map_nil, List.cons_append, List.nil_append, List.append_nil, List.replicate_succ, List.replicate_zero, Nat.reduceSub, List.length_cons, List.length_nil, Nat.reduceAdd, v_var0, v_varS, v_con, v_add, v_sub, v_mul, v_div, v_mod, v_pow, v_shl, v_lt, v_le, v_gt, v_ge, v_eq, v_ne, v_in, v_nin, v_ix, v_plus, v_cat, v_rep, v_isN, v_notN, v_len, v_neg, v_isi, v_list, v_tuple, v_tupleL, v_fld, v_fldI, v_all, v_any, v_sum, v_max2, v_min2, v_i2, v_addI, v_subI, v_mulL, v_mulR, v_divI, v_modI, v_ltI, v_leI, v_gtI, v_geI, v_negD, v_eqI, v_neI, v_eqB, v_neB, v_lenL, v_lenC, v_lenT, v_listL, v_listC, v_listT, v_tupL, v_tupC, v_tupT, v_tupLL, v_plusI, v_plusL, v_plusT, v_catL, v_slc, v_slcL, v_noPart, v_partO, v_asI, v_cutL, v_cutC, v_cutT, v_cutLL, v_cutLC, v_boolT, v_notT, v_andT, v_orT, v_yes, v_andE, v_orE, v_notE, v_ifE, v_andOk, v_orOk, v_andOkE, v_orOkE, v_isB, v_isI, v_isIB, v_eqS, v_neS, v_asB, v_args0, v_args1, v_tup, v_lst, v_call, v_callB, v_meth, v_methB, v_scal, v_scalI, v_scalB, v_scalS, v_scalN, v_rng1, v_rng2, v_rngD1, v_rngD2, v_seqI, v_tupI, v_seqL, v_seqC, v_seqT, v_seqQ, v_lenQ, v_tupQ, v_tupID, v_zipI, v_zipL, v_zipT, v_enumI, v_enumL, v_enumC, v_revI, v_revL, v_revT, v_comp, v_wipe0, v_wipe1, v_assoc, v_nx, v_end, v_asg, v_drop, v_ret, v_retN, v_raise, v_brk, v_cnt, v_if, v_iteT, v_iteF, v_asgG, v_nameG, v_consG, v_nilG, v_app, v_varP0, v_varPS, v_lstOf, v_set, v_for, v_outR, v_outX, v_outN, v_newF, v_outI, v_outIX, v_try, v_tryN, v_tryRt, v_divmod, v_dvm, v_tupRev, v_trev, v_lrev, v_lrevL, v_dnew, v_dnewT, v_din, v_dget, v_scalE, v_dlen, v_dlenT, v_dlenD, v_dlenTD, v_dgetI, v_dgetS, v_dput, divOk_of, smallI_of, intSz_of, lenSz_of, ok_bind, ex_bind, no_bind, bindS_ok, bindS_ex, ↓reduceIte, Option.bind_some, Int.reduceLT, Int.reduceLE, Nat.reduceLeDiff, Int.reduceNeg, Int.reduceEq, Bool.or_true, Bool.true_or, Bool.and_true, Bool.true_and, Bool.false_or, Bool.or_false, Bool.and_false, Bool.false_and, decide_true, decide_false, Bool.not_true, Bool.not_false, Bool.false_eq_true]
  refine wp_for (fun n ρ => ∃ x, ρ = [some (millD ps), some (.lst (ps.map pkLD)), some (.int k), some (.dit [] []), some (.int (prodN (ps.take n) : Nat)), x, none, none]) ⟨none, rfl⟩ ?_ ?_
  · rintro n d ρ hd ⟨x, rfl⟩
    obtain ⟨p, hp1, rfl⟩ := of_at_map hd
    have pl := passB_len (List.all_eq_true.mp hp p (List.mem_of_getElem? hp1))
    refine ⟨_, v_nameG, ?_⟩
    simp (decide := true) (implicitDefEqProofs := false) only [List.set_cons_zero, List.set_cons_succ, List.map_cons, List.map_nil, List.cons_append, List.nil_append, List.append_nil, List.replicate_succ, List.replicate_zero, Nat.reduceSub, List.length_cons, List.length_nil, Nat.reduceAdd, v_var0, v_varS, v_con, v_add, v_sub, v_mul, v_div, v_mod, v_pow, v_shl, v_lt, v_le, v_gt, v_ge, v_eq, v_ne, v_in, v_nin, v_ix, v_plus, v_cat, v_rep, v_isN, v_notN, v_len, v_neg, v_isi, v_list, v_tuple, v_tupleL, v_fld, v_fldI, v_all, v_any, v_sum, v_max2, v_min2, v_i2, v_addI, v_subI, v_mulL, v_mulR, v_divI, v_modI, v_ltI, v_leI, v_gtI, v_geI, v_negD, v_eqI, v_neI, v_eqB, v_neB, v_lenL, v_lenC, v_lenT, v_listL, v_listC, v_listT, v_tupL, v_tupC, v_tupT, v_tupLL, v_plusI, v_plusL, v_plusT, v_catL, v_slc, v_slcL, v_noPart, v_partO, v_asI, v_cutL, v_cutC, v_cutT, v_cutLL, v_cutLC, v_boolT, v_notT, v_andT, v_orT, v_yes, v_andE, v_orE, v_notE, v_ifE, v_andOk, v_orOk, v_andOkE, v_orOkE, v_isB, v_isI, v_isIB, v_eqS, v_neS, v_asB, v_args0, v_args1, v_tup, v_lst, v_call, v_callB, v_meth, v_methB, v_scal, v_scalI, v_scalB, v_scalS, v_scalN, v_rng1, v_rng2, v_rngD1, v_rngD2, v_seqI, v_tupI, v_seqL, v_seqC, v_seqT, v_seqQ, v_lenQ, v_tupQ, v_tupID, v_zipI, v_zipL, v_zipT, v_enumI, v_enumL, v_enumC, v_revI, v_revL, v_revT, v_comp, v_wipe0, v_wipe1, v_assoc, v_nx, v_end, v_asg, v_drop, v_ret, v_retN, v_raise, v_brk, v_cnt, v_if, v_iteT, v_iteF, v_asgG, v_nameG, v_consG, v_nilG, v_app, v_varP0, v_varPS, v_lstOf, v_set, v_for, v_outR, v_outX, v_outN, v_newF, v_outI, v_outIX, v_try, v_tryN, v_tryRt, v_divmod, v_dvm, v_tupRev, v_trev, v_lrev, v_lrevL, v_dnew, v_dnewT, v_din, v_dget, v_scalE, v_dlen, v_dlenT, v_dlenD, v_dlenTD, v_dgetI, v_dgetS, v_dput, divOk_of, smallI_of, intSz_of, lenSz_of, ok_bind, ex_bind, no_bind, bindS_ok, bindS_ex, ↓reduceIte, Option.bind_some, Int.reduceLT, Int.reduceLE, Nat.reduceLeDiff, Int.reduceNeg, Int.reduceEq, Bool.or_true, Bool.true_or, Bool.and_true, Bool.true_and, Bool.false_or, Bool.or_false, Bool.and_false, Bool.false_and, decide_true, decide_false, Bool.not_true, Bool.not_false, Bool.false_eq_true, lenD_pkL, v_mulR (smallI_of (a := (p.length : Int)) (by omega) (by omega))]
    refine ⟨some (pkLD p), ?_⟩
    rw [List.take_add_one, hp1]
    show _ = [_, _, _, _, some (Dt.int ((prodN (ps.take n ++ [p]) : Nat) : Int)), _, _, _]
    rw [prodN_snoc, Int.natCast_mul]
  rintro ρ ⟨x, rfl⟩
  rw [List.length_map, List.take_length]
  simp (decide := true) (implicitDefEqProofs := false) only [List.set_cons_zero, List.set_cons_succ, List.map_cons, List.map_nil, List.cons_append, List.nil_append, List.append_nil, List.replicate_succ, List.replicate_zero, Nat.reduceSub, List.length_cons, List.length_nil, Nat.reduceAdd, v_var0, v_varS, v_con, v_add, v_sub, v_mul, v_div, v_mod, v_pow, v_shl, v_lt, v_le, v_gt, v_ge, v_eq, v_ne, v_in, v_nin, v_ix, v_plus, v_cat, v_rep, v_isN, v_notN, v_len, v_neg, v_isi, v_list, v_tuple, v_tupleL, v_fld, v_fldI, v_all, v_any, v_sum, v_max2, v_min2, v_i2, v_addI, v_subI, v_mulL, v_mulR, v_divI, v_modI, v_ltI, v_leI, v_gtI, v_geI, v_negD, v_eqI, v_neI, v_eqB, v_neB, v_lenL, v_lenC, v_lenT, v_listL, v_listC, v_listT, v_tupL, v_tupC, v_tupT, v_tupLL, v_plusI, v_plusL, v_plusT, v_catL, v_slc, v_slcL, v_noPart, v_partO, v_asI, v_cutL, v_cutC, v_cutT, v_cutLL, v_cutLC, v_boolT, v_notT, v_andT, v_orT, v_yes, v_andE, v_orE, v_notE, v_ifE, v_andOk, v_orOk, v_andOkE, v_orOkE, v_isB, v_isI, v_isIB, v_eqS, v_neS, v_asB, v_args0, v_args1, v_tup, v_lst, v_call, v_callB, v_meth, v_methB, v_scal, v_scalI, v_scalB, v_scalS, v_scalN, v_rng1, v_rng2, v_rngD1, v_rngD2, v_seqI, v_tupI, v_seqL, v_seqC, v_seqT, v_seqQ, v_lenQ, v_tupQ, v_tupID, v_zipI, v_zipL, v_zipT, v_enumI, v_enumL, v_enumC, v_revI, v_revL, v_revT, v_comp, v_wipe0, v_wipe1, v_assoc, v_nx, v_end, v_asg, v_drop, v_ret, v_retN, v_raise, v_brk, v_cnt, v_if, v_iteT, v_iteF, v_asgG, v_nameG, v_consG, v_nilG, v_app, v_varP0, v_varPS, v_lstOf, v_set, v_for, v_outR, v_outX, v_outN, v_newF, v_outI, v_outIX, v_try, v_tryN, v_tryRt, v_divmod, v_dvm, v_tupRev, v_trev, v_lrev, v_lrevL, v_dnew, v_dnewT, v_din, v_dget, v_scalE, v_dlen, v_dlenT, v_dlenD, v_dlenTD, v_dgetI, v_dgetS, v_dput, divOk_of, smallI_of, intSz_of, lenSz_of, ok_bind, ex_bind, no_bind, bindS_ok, bindS_ex, ↓reduceIte, Option.bind_some, Int.reduceLT, Int.reduceLE, Nat.reduceLeDiff, Int.reduceNeg, Int.reduceEq, Bool.or_true, Bool.true_or, Bool.and_true, Bool.true_and, Bool.false_or, Bool.or_false, Bool.and_false, Bool.false_and, decide_true, decide_false, Bool.not_true, Bool.not_false, Bool.false_eq_true, v_rngD1 (intSz_of (a := (prodN ps : Int)) (by omega) (by omega))]
  refine wp_for (fun n ρ => n ≤ prodN ps ∧ ∃ y z, ρ = [some (millD ps), some (.lst (ps.map pkLD)), some (.int k), some (toldD ps k n), some (.int (prodN ps : Nat)), x, y, z]) ⟨Nat.zero_le _, none, none, rfl⟩ ?_ ?_
  · rintro n d ρ hd ⟨hn0, y, z, rfl⟩
    obtain ⟨hn, rfl⟩ := rangeL0_at hd
    have hn : n < prodN ps := by omega
    refine ⟨_, v_nameG, ?_⟩
    have ec := code_word_run ps k n hk hl hp hN hn
    obtain ⟨_, hw, hcode⟩ := decWord_spec ps k n hp hn
    by_cases hj : decJoin ps k n = prodN (ps.take k) - 1
    · rw [if_pos hj] at ec
      have hg : goodC ps k n = true := decide_eq_true hj
      have hfresh := fresh_key ps k n hp hn hg
      have eg := word_good_run ps k (decWord ps k n) hk hl hw
      have ew := word_code_run ps k (decWord ps k n) hk hp hw
      rw [hcode hj] at ew
      have hkey : keyD (wdD (decWord ps k n)) = some (.inr (keyC ps k n)) := keyD_ints _
      have eget : dgetD (toldD ps k n) (wdD (decWord ps k n)) = .ok none := by
        unfold toldD
        rw [v_dgetT hkey, lookK_none hfresh]
      have hsz : lenSz ((upto ps k n).map (keyC ps k)).length = true := by
        refine lenSz_of ?_
        rw [List.length_map]
        have := List.length_filter_le (goodC ps k) (List.range n)
        rw [List.length_range] at this
        unfold upto
        omega
      have eput : ∀ (rest : Ev → Ot) (p : Dt → Ev), dputR rest (.int (n : Nat)) (toldD ps k n, p) (wdD (decWord ps k n)) = rest (p (toldD ps k (n + 1))) := fun rest p => by
        unfold toldD
        rw [v_dputT hkey hsz]
        unfold putKs putDs
        rw [hfresh, upto_succ, hg]
        simp only [if_true, Bool.false_eq_true, if_false, List.map_append, List.map_cons, List.map_nil]
      simp (decide := true) (implicitDefEqProofs := false) only [List.set_cons_zero, List.set_cons_succ, List.map_cons, List.map_nil, List.cons_append, List.nil_append, List.append_nil, List.replicate_succ, List.replicate_zero, Nat.reduceSub, List.length_cons, List.length_nil, Nat.reduceAdd, v_var0, v_varS, v_con, v_add, v_sub, v_mul, v_div, v_mod, v_pow, v_shl, v_lt, v_le, v_gt, v_ge, v_eq, v_ne, v_in, v_nin, v_ix, v_plus, v_cat, v_rep, v_isN, v_notN, v_len, v_neg, v_isi, v_list, v_tuple, v_tupleL, v_fld, v_fldI, v_all, v_any, v_sum, v_max2, v_min2, v_i2, v_addI, v_subI, v_mulL, v_mulR, v_divI, v_modI, v_ltI, v_leI, v_gtI, v_geI, v_negD, v_eqI, v_neI, v_eqB, v_neB, v_lenL, v_lenC, v_lenT, v_listL, v_listC, v_listT, v_tupL, v_tupC, v_tupT, v_tupLL, v_plusI, v_plusL, v_plusT, v_catL, v_slc, v_slcL, v_noPart, v_partO, v_asI, v_cutL, v_cutC, v_cutT, v_cutLL, v_cutLC, v_boolT, v_notT, v_andT, v_orT, v_yes, v_andE, v_orE, v_notE, v_ifE, v_andOk, v_orOk, v_andOkE, v_orOkE, v_isB, v_isI, v_isIB, v_eqS, v_neS, v_asB, v_args0, v_args1, v_tup, v_lst, v_call, v_callB, v_meth, v_methB, v_scal, v_scalI, v_scalB, v_scalS, v_scalN, v_rng1, v_rng2, v_rngD1, v_rngD2, v_seqI, v_tupI, v_seqL, v_seqC, v_seqT, v_seqQ, v_lenQ, v_tupQ, v_tupID, v_zipI, v_zipL, v_zipT, v_enumI, v_enumL, v_enumC, v_revI, v_revL, v_revT, v_comp, v_wipe0, v_wipe1, v_assoc, v_nx, v_end, v_asg, v_drop, v_ret, v_retN, v_raise, v_brk, v_cnt, v_if, v_iteT, v_iteF, v_asgG, v_nameG, v_consG, v_nilG, v_app, v_varP0, v_varPS, v_lstOf, v_set, v_for, v_outR, v_outX, v_outN, v_newF, v_outI, v_outIX, v_try, v_tryN, v_tryRt, v_divmod, v_dvm, v_tupRev, v_trev, v_lrev, v_lrevL, v_dnew, v_dnewT, v_din, v_dget, v_scalE, v_dlen, v_dlenT, v_dlenD, v_dlenTD, v_dgetI, v_dgetS, v_dput, divOk_of, smallI_of, intSz_of, lenSz_of, ok_bind, ex_bind, no_bind, bindS_ok, bindS_ex, ↓reduceIte, Option.bind_some, Int.reduceLT, Int.reduceLE, Nat.reduceLeDiff, Int.reduceNeg, Int.reduceEq, Bool.or_true, Bool.true_or, Bool.and_true, Bool.true_and, Bool.false_or, Bool.or_false, Bool.and_false, Bool.false_and, decide_true, decide_false, Bool.not_true, Bool.not_false, Bool.false_eq_true, ec, notN_, eg, eget, ew, eput, Option.isSome_none]
      exact ⟨hn, _, _, rfl⟩
    · rw [if_neg hj] at ec
      have hg : goodC ps k n = false := decide_eq_false hj
      simp (decide := true) (implicitDefEqProofs := false) only [List.set_cons_zero, List.set_cons_succ, List.map_cons, List.map_nil, List.cons_append, List.nil_append, List.append_nil, List.replicate_succ, List.replicate_zero, Nat.reduceSub, List.length_cons, List.length_nil, Nat.reduceAdd, v_var0, v_varS, v_con, v_add, v_sub, v_mul, v_div, v_mod, v_pow, v_shl, v_lt, v_le, v_gt, v_ge, v_eq, v_ne, v_in, v_nin, v_ix, v_plus, v_cat, v_rep, v_isN, v_notN, v_len, v_neg, v_isi, v_list, v_tuple, v_tupleL, v_fld, v_fldI, v_all, v_any, v_sum, v_max2, v_min2, v_i2, v_addI, v_subI, v_mulL, v_mulR, v_divI, v_modI, v_ltI, v_leI, v_gtI, v_geI, v_negD, v_eqI, v_neI, v_eqB, v_neB, v_lenL, v_lenC, v_lenT, v_listL, v_listC, v_listT, v_tupL, v_tupC, v_tupT, v_tupLL, v_plusI, v_plusL, v_plusT, v_catL, v_slc, v_slcL, v_noPart, v_partO, v_asI, v_cutL, v_cutC, v_cutT, v_cutLL, v_cutLC, v_boolT, v_notT, v_andT, v_orT, v_yes, v_andE, v_orE, v_notE, v_ifE, v_andOk, v_orOk, v_andOkE, v_orOkE, v_isB, v_isI, v_isIB, v_eqS, v_neS, v_asB, v_args0, v_args1, v_tup, v_lst, v_call, v_callB, v_meth, v_methB, v_scal, v_scalI, v_scalB, v_scalS, v_scalN, v_rng1, v_rng2, v_rngD1, v_rngD2, v_seqI, v_tupI, v_seqL, v_seqC, v_seqT, v_seqQ, v_lenQ, v_tupQ, v_tupID, v_zipI, v_zipL, v_zipT, v_enumI, v_enumL, v_enumC, v_revI, v_revL, v_revT, v_comp, v_wipe0, v_wipe1, v_assoc, v_nx, v_end, v_asg, v_drop, v_ret, v_retN, v_raise, v_brk, v_cnt, v_if, v_iteT, v_iteF, v_asgG, v_nameG, v_consG, v_nilG, v_app, v_varP0, v_varPS, v_lstOf, v_set, v_for, v_outR, v_outX, v_outN, v_newF, v_outI, v_outIX, v_try, v_tryN, v_tryRt, v_divmod, v_dvm, v_tupRev, v_trev, v_lrev, v_lrevL, v_dnew, v_dnewT, v_din, v_dget, v_scalE, v_dlen, v_dlenT, v_dlenD, v_dlenTD, v_dgetI, v_dgetS, v_dput, divOk_of, smallI_of, intSz_of, lenSz_of, ok_bind, ex_bind, no_bind, bindS_ok, bindS_ex, ↓reduceIte, Option.bind_some, Int.reduceLT, Int.reduceLE, Nat.reduceLeDiff, Int.reduceNeg, Int.reduceEq, Bool.or_true, Bool.true_or, Bool.and_true, Bool.true_and, Bool.false_or, Bool.or_false, Bool.and_false, Bool.false_and, decide_true, decide_false, Bool.not_true, Bool.not_false, Bool.false_eq_true, ec, isNonD]
      refine ⟨hn, some (.int (n : Nat)), some .non, ?_⟩
      unfold toldD
      rw [upto_succ, hg]
      simp only [Bool.false_eq_true, if_false, List.append_nil]
  · rintro ρ ⟨hn0, y, z, rfl⟩
    rw [rangeL_len, Int.toNat_natCast]
    simp (implicitDefEqProofs := false) only [List.set_cons_zero, List.set_cons_succ, List.map_cons, List.map_nil, List.cons_append, List.nil_append, List.append_nil, List.replicate_succ, List.replicate_zero, Nat.reduceSub, List.length_cons, List.length_nil, Nat.reduceAdd, v_var0, v_varS, v_con, v_add, v_sub, v_mul, v_div, v_mod, v_pow, v_shl, v_lt, v_le, v_gt, v_ge, v_eq, v_ne, v_in, v_nin, v_ix, v_plus, v_cat, v_rep, v_isN, v_notN, v_len, v_neg, v_isi, v_list, v_tuple, v_tupleL, v_fld, v_fldI, v_all, v_any, v_sum, v_max2, v_min2, v_i2, v_addI, v_subI, v_mulL, v_mulR, v_divI, v_modI, v_ltI, v_leI, v_gtI, v_geI, v_negD, v_eqI, v_neI, v_eqB, v_neB, v_lenL, v_lenC, v_lenT, v_listL, v_listC, v_listT, v_tupL, v_tupC, v_tupT, v_tupLL, v_plusI, v_plusL, v_plusT, v_catL, v_slc, v_slcL, v_noPart, v_partO, v_asI, v_cutL, v_cutC, v_cutT, v_cutLL, v_cutLC, v_boolT, v_notT, v_andT, v_orT, v_yes, v_andE, v_orE, v_notE, v_ifE, v_andOk, v_orOk, v_andOkE, v_orOkE, v_isB, v_isI, v_isIB, v_eqS, v_neS, v_asB, v_args0, v_args1, v_tup, v_lst, v_call, v_callB, v_meth, v_methB, v_scal, v_scalI, v_scalB, v_scalS, v_scalN, v_rng1, v_rng2, v_rngD1, v_rngD2, v_seqI, v_tupI, v_seqL, v_seqC, v_seqT, v_seqQ, v_lenQ, v_tupQ, v_tupID, v_zipI, v_zipL, v_zipT, v_enumI, v_enumL, v_enumC, v_revI, v_revL, v_revT, v_comp, v_wipe0, v_wipe1, v_assoc, v_nx, v_end, v_asg, v_drop, v_ret, v_retN, v_raise, v_brk, v_cnt, v_if, v_iteT, v_iteF, v_asgG, v_nameG, v_consG, v_nilG, v_app, v_varP0, v_varPS, v_lstOf, v_set, v_for, v_outR, v_outX, v_outN, v_newF, v_outI, v_outIX, v_try, v_tryN, v_tryRt, v_divmod, v_dvm, v_tupRev, v_trev, v_lrev, v_lrevL, v_dnew, v_dnewT, v_din, v_dget, v_scalE, v_dlen, v_dlenT, v_dlenD, v_dlenTD, v_dgetI, v_dgetS, v_dput, divOk_of, smallI_of, intSz_of, lenSz_of, ok_bind, ex_bind, no_bind, bindS_ok, bindS_ex, ↓reduceIte, Option.bind_some, Int.reduceLT, Int.reduceLE, Nat.reduceLeDiff, Int.reduceNeg, Int.reduceEq, Bool.or_true, Bool.true_or, Bool.and_true, Bool.true_and, Bool.false_or, Bool.or_false, Bool.and_false, Bool.false_and, decide_true, decide_false, Bool.not_true, Bool.not_false, Bool.false_eq_true]
    rfl
theorem upto_len (ps : List (List Pk)) (k : Nat) (hp : ps.all passB = true) : (upto ps k (prodN ps)).length = prodLen (ps.drop k).reverse := by
  unfold upto
  rw [← List.countP_eq_length_filter]
  have h0 : 0 < prodN (ps.take k) := prodN_pos _ fun p hq => (passB_len (List.all_eq_true.mp hp p (List.mem_of_mem_take hq))).1
  have := dec_count (prodN (ps.take k)) h0 (ps.drop k).reverse fun p hq => (passB_len (List.all_eq_true.mp hp p (List.mem_of_mem_drop (List.mem_reverse.mp hq)))).1
  rw [← prodN_drop] at this
  exact this
theorem prodN_rev (qs : List (List Pk)) : prodN qs = prodLen qs.reverse := by
  have := prodN_split [] qs.reverse
  rw [List.reverse_reverse, List.nil_append] at this
  rw [this]
  exact Nat.one_mul _
theorem pure_law (ns : List Int) (h : ns.length ≤ 63) : F_law [.scr (ns.map Dt.int)] = .ok (.bl true) := by
  rw [R_law]
  unfold Fb_law
  show LawP _
  obtain ⟨cs, c1, c2, ec⟩ := folded_run ns 44 (by decide) (by decide) h
  obtain ⟨ps, p1, p2, p3, ep⟩ := passes_run cs 200 c1 (by decide) (by decide)
  have em := init_run ps p1 p2
  rw [if_pos (by omega)] at em
  have ec : F__law_folded [.scr (ns.map .int), .int 44] = .ok (.lst (cs.map .int)) := ec
  have ep : F__law_passes [.lst (cs.map .int), .int 200] = .ok (.lst (ps.map pkLD)) := ep
  obtain ⟨c43, h43, _⟩ := at_of_lt (xs := cs) (k := 43) (by omega)
  have e43 : ixD (.lst (cs.map Dt.int)) (.int 43) = .ok (.int c43) := v_ixL (atI_nat (at_map (f := Dt.int) h43))
  have h0 : 0 ≤ c43 % ((ps.length : Int) + 1) := Int.emod_nonneg _ (by omega)
  have h1 : c43 % ((ps.length : Int) + 1) < (ps.length : Int) + 1 := Int.emod_lt_of_pos _ (by omega)
  simp (decide := true) (implicitDefEqProofs := false) only [List.set_cons_zero, List.set_cons_succ, List.map_cons, List.map_nil, List.cons_append, List.nil_append, List.append_nil, List.replicate_succ, List.replicate_zero, Nat.reduceSub, List.length_cons, List.length_nil, Nat.reduceAdd, v_var0, v_varS, v_con, v_add, v_sub, v_mul, v_div, v_mod, v_pow, v_shl, v_lt, v_le, v_gt, v_ge, v_eq, v_ne, v_in, v_nin, v_ix, v_plus, v_cat, v_rep, v_isN, v_notN, v_len, v_neg, v_isi, v_list, v_tuple, v_tupleL, v_fld, v_fldI, v_all, v_any, v_sum, v_max2, v_min2, v_i2, v_addI, v_subI, v_mulL, v_mulR, v_divI, v_modI, v_ltI, v_leI, v_gtI, v_geI, v_negD, v_eqI, v_neI, v_eqB, v_neB, v_lenL, v_lenC, v_lenT, v_listL, v_listC, v_listT, v_tupL, v_tupC, v_tupT, v_tupLL, v_plusI, v_plusL, v_plusT, v_catL, v_slc, v_slcL, v_noPart, v_partO, v_asI, v_cutL, v_cutC, v_cutT, v_cutLL, v_cutLC, v_boolT, v_notT, v_andT, v_orT, v_yes, v_andE, v_orE, v_notE, v_ifE, v_andOk, v_orOk, v_andOkE, v_orOkE, v_isB, v_isI, v_isIB, v_eqS, v_neS, v_asB, v_args0, v_args1, v_tup, v_lst, v_call, v_callB, v_meth, v_methB, v_scal, v_scalI, v_scalB, v_scalS, v_scalN, v_rng1, v_rng2, v_rngD1, v_rngD2, v_seqI, v_tupI, v_seqL, v_seqC, v_seqT, v_seqQ, v_lenQ, v_tupQ, v_tupID, v_zipI, v_zipL, v_zipT, v_enumI, v_enumL, v_enumC, v_revI, v_revL, v_revT, v_comp, v_wipe0, v_wipe1, v_assoc, v_nx, v_end, v_asg, v_drop, v_ret, v_retN, v_raise, v_brk, v_cnt, v_if, v_iteT, v_iteF, v_asgG, v_nameG, v_consG, v_nilG, v_app, v_varP0, v_varPS, v_lstOf, v_set, v_for, v_outR, v_outX, v_outN, v_newF, v_outI, v_outIX, v_try, v_tryN, v_tryRt, v_divmod, v_dvm, v_tupRev, v_trev, v_lrev, v_lrevL, v_dnew, v_dnewT, v_din, v_dget, v_scalE, v_dlen, v_dlenT, v_dlenD, v_dlenTD, v_dgetI, v_dgetS, v_dput, divOk_of, smallI_of, intSz_of, lenSz_of, ok_bind, ex_bind, no_bind, bindS_ok, bindS_ex, ↓reduceIte, Option.bind_some, Int.reduceLT, Int.reduceLE, Nat.reduceLeDiff, Int.reduceNeg, Int.reduceEq, Bool.or_true, Bool.true_or, Bool.and_true, Bool.true_and, Bool.false_or, Bool.or_false, Bool.and_false, Bool.false_and, decide_true, decide_false, Bool.not_true, Bool.not_false, Bool.false_eq_true, ec, ep, em, e43, List.length_map, v_modI (b := (ps.length : Int) + 1) (by omega)]
  refine wp_for (fun n ρ => ∃ x4 x5 x6 x7, ρ = [some (.scr (ns.map .int)), some (.lst (cs.map .int)), some (.lst (ps.map pkLD)), some (millD ps), x4, x5, x6, x7]) ⟨_, _, _, _, rfl⟩ ?_ ?_
  case refine_2 =>
    rintro ρ ⟨x4, x5, x6, x7, rfl⟩
    simp (implicitDefEqProofs := false) only [List.set_cons_zero, List.set_cons_succ, List.map_cons, List.map_nil, List.cons_append, List.nil_append, List.append_nil, List.replicate_succ, List.replicate_zero, Nat.reduceSub, List.length_cons, List.length_nil, Nat.reduceAdd, v_var0, v_varS, v_con, v_add, v_sub, v_mul, v_div, v_mod, v_pow, v_shl, v_lt, v_le, v_gt, v_ge, v_eq, v_ne, v_in, v_nin, v_ix, v_plus, v_cat, v_rep, v_isN, v_notN, v_len, v_neg, v_isi, v_list, v_tuple, v_tupleL, v_fld, v_fldI, v_all, v_any, v_sum, v_max2, v_min2, v_i2, v_addI, v_subI, v_mulL, v_mulR, v_divI, v_modI, v_ltI, v_leI, v_gtI, v_geI, v_negD, v_eqI, v_neI, v_eqB, v_neB, v_lenL, v_lenC, v_lenT, v_listL, v_listC, v_listT, v_tupL, v_tupC, v_tupT, v_tupLL, v_plusI, v_plusL, v_plusT, v_catL, v_slc, v_slcL, v_noPart, v_partO, v_asI, v_cutL, v_cutC, v_cutT, v_cutLL, v_cutLC, v_boolT, v_notT, v_andT, v_orT, v_yes, v_andE, v_orE, v_notE, v_ifE, v_andOk, v_orOk, v_andOkE, v_orOkE, v_isB, v_isI, v_isIB, v_eqS, v_neS, v_asB, v_args0, v_args1, v_tup, v_lst, v_call, v_callB, v_meth, v_methB, v_scal, v_scalI, v_scalB, v_scalS, v_scalN, v_rng1, v_rng2, v_rngD1, v_rngD2, v_seqI, v_tupI, v_seqL, v_seqC, v_seqT, v_seqQ, v_lenQ, v_tupQ, v_tupID, v_zipI, v_zipL, v_zipT, v_enumI, v_enumL, v_enumC, v_revI, v_revL, v_revT, v_comp, v_wipe0, v_wipe1, v_assoc, v_nx, v_end, v_asg, v_drop, v_ret, v_retN, v_raise, v_brk, v_cnt, v_if, v_iteT, v_iteF, v_asgG, v_nameG, v_consG, v_nilG, v_app, v_varP0, v_varPS, v_lstOf, v_set, v_for, v_outR, v_outX, v_outN, v_newF, v_outI, v_outIX, v_try, v_tryN, v_tryRt, v_divmod, v_dvm, v_tupRev, v_trev, v_lrev, v_lrevL, v_dnew, v_dnewT, v_din, v_dget, v_scalE, v_dlen, v_dlenT, v_dlenD, v_dlenTD, v_dgetI, v_dgetS, v_dput, divOk_of, smallI_of, intSz_of, lenSz_of, ok_bind, ex_bind, no_bind, bindS_ok, bindS_ex, ↓reduceIte, Option.bind_some, Int.reduceLT, Int.reduceLE, Nat.reduceLeDiff, Int.reduceNeg, Int.reduceEq, Bool.or_true, Bool.true_or, Bool.and_true, Bool.true_and, Bool.false_or, Bool.or_false, Bool.and_false, Bool.false_and, decide_true, decide_false, Bool.not_true, Bool.not_false, Bool.false_eq_true]
    rfl
  rintro n d ρ hd ⟨x4, x5, x6, x7, rfl⟩
  have hd2 : ∃ k : Nat, k ≤ ps.length ∧ d = .int (k : Nat) := by
    have hm := List.mem_of_getElem? hd
    rcases List.mem_cons.mp hm with rfl | hm
    · exact ⟨0, Nat.zero_le _, rfl⟩
    · rw [List.mem_singleton.mp hm]
      exact ⟨(c43 % ((ps.length : Int) + 1)).toNat, by omega, by rw [Int.toNat_of_nonneg h0]⟩
  obtain ⟨k, hk, rfl⟩ := hd2
  refine ⟨_, v_nameG, ?_⟩
  simp (decide := true) (implicitDefEqProofs := false) only [List.set_cons_zero, List.set_cons_succ, List.map_cons, List.map_nil, List.cons_append, List.nil_append, List.append_nil, List.replicate_succ, List.replicate_zero, Nat.reduceSub, List.length_cons, List.length_nil, Nat.reduceAdd, v_var0, v_varS, v_con, v_add, v_sub, v_mul, v_div, v_mod, v_pow, v_shl, v_lt, v_le, v_gt, v_ge, v_eq, v_ne, v_in, v_nin, v_ix, v_plus, v_cat, v_rep, v_isN, v_notN, v_len, v_neg, v_isi, v_list, v_tuple, v_tupleL, v_fld, v_fldI, v_all, v_any, v_sum, v_max2, v_min2, v_i2, v_addI, v_subI, v_mulL, v_mulR, v_divI, v_modI, v_ltI, v_leI, v_gtI, v_geI, v_negD, v_eqI, v_neI, v_eqB, v_neB, v_lenL, v_lenC, v_lenT, v_listL, v_listC, v_listT, v_tupL, v_tupC, v_tupT, v_tupLL, v_plusI, v_plusL, v_plusT, v_catL, v_slc, v_slcL, v_noPart, v_partO, v_asI, v_cutL, v_cutC, v_cutT, v_cutLL, v_cutLC, v_boolT, v_notT, v_andT, v_orT, v_yes, v_andE, v_orE, v_notE, v_ifE, v_andOk, v_orOk, v_andOkE, v_orOkE, v_isB, v_isI, v_isIB, v_eqS, v_neS, v_asB, v_args0, v_args1, v_tup, v_lst, v_call, v_callB, v_meth, v_methB, v_scal, v_scalI, v_scalB, v_scalS, v_scalN, v_rng1, v_rng2, v_rngD1, v_rngD2, v_seqI, v_tupI, v_seqL, v_seqC, v_seqT, v_seqQ, v_lenQ, v_tupQ, v_tupID, v_zipI, v_zipL, v_zipT, v_enumI, v_enumL, v_enumC, v_revI, v_revL, v_revT, v_comp, v_wipe0, v_wipe1, v_assoc, v_nx, v_end, v_asg, v_drop, v_ret, v_retN, v_raise, v_brk, v_cnt, v_if, v_iteT, v_iteF, v_asgG, v_nameG, v_consG, v_nilG, v_app, v_varP0, v_varPS, v_lstOf, v_set, v_for, v_outR, v_outX, v_outN, v_newF, v_outI, v_outIX, v_try, v_tryN, v_tryRt, v_divmod, v_dvm, v_tupRev, v_trev, v_lrev, v_lrevL, v_dnew, v_dnewT, v_din, v_dget, v_scalE, v_dlen, v_dlenT, v_dlenD, v_dlenTD, v_dgetI, v_dgetS, v_dput, divOk_of, smallI_of, intSz_of, lenSz_of, ok_bind, ex_bind, no_bind, bindS_ok, bindS_ex, ↓reduceIte, Option.bind_some, Int.reduceLT, Int.reduceLE, Nat.reduceLeDiff, Int.reduceNeg, Int.reduceEq, Bool.or_true, Bool.true_or, Bool.and_true, Bool.true_and, Bool.false_or, Bool.or_false, Bool.and_false, Bool.false_and, decide_true, decide_false, Bool.not_true, Bool.not_false, Bool.false_eq_true, words_run ps k hk p1 p2 (by omega), cut_drop, ← List.map_drop]
  refine wp_for (fun n ρ => ∃ x7, ρ = [some (.scr (ns.map .int)), some (.lst (cs.map .int)), some (.lst (ps.map pkLD)), some (millD ps), some (.int (k : Nat)), some (toldD ps k (prodN ps)), some (.int (prodN ((ps.drop k).take n) : Nat)), x7]) ⟨x7, rfl⟩ ?_ ?_
  · rintro n d ρ hd ⟨x7, rfl⟩
    obtain ⟨p, hp1, rfl⟩ := of_at_map hd
    have pl := passB_len (List.all_eq_true.mp p2 p (List.mem_of_mem_drop (List.mem_of_getElem? hp1)))
    refine ⟨_, v_nameG, ?_⟩
    simp (decide := true) (implicitDefEqProofs := false) only [List.set_cons_zero, List.set_cons_succ, List.map_cons, List.map_nil, List.cons_append, List.nil_append, List.append_nil, List.replicate_succ, List.replicate_zero, Nat.reduceSub, List.length_cons, List.length_nil, Nat.reduceAdd, v_var0, v_varS, v_con, v_add, v_sub, v_mul, v_div, v_mod, v_pow, v_shl, v_lt, v_le, v_gt, v_ge, v_eq, v_ne, v_in, v_nin, v_ix, v_plus, v_cat, v_rep, v_isN, v_notN, v_len, v_neg, v_isi, v_list, v_tuple, v_tupleL, v_fld, v_fldI, v_all, v_any, v_sum, v_max2, v_min2, v_i2, v_addI, v_subI, v_mulL, v_mulR, v_divI, v_modI, v_ltI, v_leI, v_gtI, v_geI, v_negD, v_eqI, v_neI, v_eqB, v_neB, v_lenL, v_lenC, v_lenT, v_listL, v_listC, v_listT, v_tupL, v_tupC, v_tupT, v_tupLL, v_plusI, v_plusL, v_plusT, v_catL, v_slc, v_slcL, v_noPart, v_partO, v_asI, v_cutL, v_cutC, v_cutT, v_cutLL, v_cutLC, v_boolT, v_notT, v_andT, v_orT, v_yes, v_andE, v_orE, v_notE, v_ifE, v_andOk, v_orOk, v_andOkE, v_orOkE, v_isB, v_isI, v_isIB, v_eqS, v_neS, v_asB, v_args0, v_args1, v_tup, v_lst, v_call, v_callB, v_meth, v_methB, v_scal, v_scalI, v_scalB, v_scalS, v_scalN, v_rng1, v_rng2, v_rngD1, v_rngD2, v_seqI, v_tupI, v_seqL, v_seqC, v_seqT, v_seqQ, v_lenQ, v_tupQ, v_tupID, v_zipI, v_zipL, v_zipT, v_enumI, v_enumL, v_enumC, v_revI, v_revL, v_revT, v_comp, v_wipe0, v_wipe1, v_assoc, v_nx, v_end, v_asg, v_drop, v_ret, v_retN, v_raise, v_brk, v_cnt, v_if, v_iteT, v_iteF, v_asgG, v_nameG, v_consG, v_nilG, v_app, v_varP0, v_varPS, v_lstOf, v_set, v_for, v_outR, v_outX, v_outN, v_newF, v_outI, v_outIX, v_try, v_tryN, v_tryRt, v_divmod, v_dvm, v_tupRev, v_trev, v_lrev, v_lrevL, v_dnew, v_dnewT, v_din, v_dget, v_scalE, v_dlen, v_dlenT, v_dlenD, v_dlenTD, v_dgetI, v_dgetS, v_dput, divOk_of, smallI_of, intSz_of, lenSz_of, ok_bind, ex_bind, no_bind, bindS_ok, bindS_ex, ↓reduceIte, Option.bind_some, Int.reduceLT, Int.reduceLE, Nat.reduceLeDiff, Int.reduceNeg, Int.reduceEq, Bool.or_true, Bool.true_or, Bool.and_true, Bool.true_and, Bool.false_or, Bool.or_false, Bool.and_false, Bool.false_and, decide_true, decide_false, Bool.not_true, Bool.not_false, Bool.false_eq_true, lenD_pkL, v_mulR (smallI_of (a := (p.length : Int)) (by omega) (by omega))]
    refine ⟨some (pkLD p), ?_⟩
    rw [List.take_add_one, hp1]
    show _ = [_, _, _, _, _, _, some (Dt.int ((prodN ((ps.drop k).take n ++ [p]) : Nat) : Int)), _]
    rw [prodN_snoc, Int.natCast_mul]
  · rintro ρ ⟨x7, rfl⟩
    rw [List.length_map, List.take_length]
    have el : dlenTD (toldD ps k (prodN ps)) = .ok (.int (prodN (ps.drop k) : Nat)) := by
      unfold toldD
      rw [v_dlenTD, List.length_map, upto_len ps k p2, prodN_rev]
    have en : isNonD (toldD ps k (prodN ps)) = false := rfl
    simp (decide := true) (implicitDefEqProofs := false) only [List.set_cons_zero, List.set_cons_succ, List.map_cons, List.map_nil, List.cons_append, List.nil_append, List.append_nil, List.replicate_succ, List.replicate_zero, Nat.reduceSub, List.length_cons, List.length_nil, Nat.reduceAdd, v_var0, v_varS, v_con, v_add, v_sub, v_mul, v_div, v_mod, v_pow, v_shl, v_lt, v_le, v_gt, v_ge, v_eq, v_ne, v_in, v_nin, v_ix, v_plus, v_cat, v_rep, v_isN, v_notN, v_len, v_neg, v_isi, v_list, v_tuple, v_tupleL, v_fld, v_fldI, v_all, v_any, v_sum, v_max2, v_min2, v_i2, v_addI, v_subI, v_mulL, v_mulR, v_divI, v_modI, v_ltI, v_leI, v_gtI, v_geI, v_negD, v_eqI, v_neI, v_eqB, v_neB, v_lenL, v_lenC, v_lenT, v_listL, v_listC, v_listT, v_tupL, v_tupC, v_tupT, v_tupLL, v_plusI, v_plusL, v_plusT, v_catL, v_slc, v_slcL, v_noPart, v_partO, v_asI, v_cutL, v_cutC, v_cutT, v_cutLL, v_cutLC, v_boolT, v_notT, v_andT, v_orT, v_yes, v_andE, v_orE, v_notE, v_ifE, v_andOk, v_orOk, v_andOkE, v_orOkE, v_isB, v_isI, v_isIB, v_eqS, v_neS, v_asB, v_args0, v_args1, v_tup, v_lst, v_call, v_callB, v_meth, v_methB, v_scal, v_scalI, v_scalB, v_scalS, v_scalN, v_rng1, v_rng2, v_rngD1, v_rngD2, v_seqI, v_tupI, v_seqL, v_seqC, v_seqT, v_seqQ, v_lenQ, v_tupQ, v_tupID, v_zipI, v_zipL, v_zipT, v_enumI, v_enumL, v_enumC, v_revI, v_revL, v_revT, v_comp, v_wipe0, v_wipe1, v_assoc, v_nx, v_end, v_asg, v_drop, v_ret, v_retN, v_raise, v_brk, v_cnt, v_if, v_iteT, v_iteF, v_asgG, v_nameG, v_consG, v_nilG, v_app, v_varP0, v_varPS, v_lstOf, v_set, v_for, v_outR, v_outX, v_outN, v_newF, v_outI, v_outIX, v_try, v_tryN, v_tryRt, v_divmod, v_dvm, v_tupRev, v_trev, v_lrev, v_lrevL, v_dnew, v_dnewT, v_din, v_dget, v_scalE, v_dlen, v_dlenT, v_dlenD, v_dlenTD, v_dgetI, v_dgetS, v_dput, divOk_of, smallI_of, intSz_of, lenSz_of, ok_bind, ex_bind, no_bind, bindS_ok, bindS_ex, ↓reduceIte, Option.bind_some, Int.reduceLT, Int.reduceLE, Nat.reduceLeDiff, Int.reduceNeg, Int.reduceEq, Bool.or_true, Bool.true_or, Bool.and_true, Bool.true_and, Bool.false_or, Bool.or_false, Bool.and_false, Bool.false_and, decide_true, decide_false, Bool.not_true, Bool.not_false, Bool.false_eq_true, el, en]
    exact ⟨_, _, _, _, rfl⟩
end Pm
namespace Pm
open PySem PySem.Spec PyProof.Rows L2
/-! ### the head -/
def d_pockets_kept : He.DefD := ⟨("pockets_kept", none), "pockets_kept", "pockets_kept", defArgs s_pockets_kept, defBody s_pockets_kept, defScope s_pockets_kept, [], []⟩
def d_Mill___init__ : He.DefD := ⟨("Mill", some "__init__"), "__init__", "Mill.__init__", defArgs s_Mill___init__, defBody s_Mill___init__, defScope s_Mill___init__, [], []⟩
def d_Mill_codes : He.DefD := ⟨("Mill", some "codes"), "codes", "Mill.codes", defArgs s_Mill_codes, defBody s_Mill_codes, defScope s_Mill_codes, [], []⟩
def d_Mill_many : He.DefD := ⟨("Mill", some "many"), "many", "Mill.many", defArgs s_Mill_many, defBody s_Mill_many, defScope s_Mill_many, [], []⟩
def d_codes_ahead : He.DefD := ⟨("codes_ahead", none), "codes_ahead", "codes_ahead", defArgs s_codes_ahead, defBody s_codes_ahead, defScope s_codes_ahead, [], []⟩
def d_look_at_late : He.DefD := ⟨("look_at_late", none), "look_at_late", "look_at_late", defArgs s_look_at_late, defBody s_look_at_late, defScope s_look_at_late, [], []⟩
def d_look_at_word : He.DefD := ⟨("look_at_word", none), "look_at_word", "look_at_word", defArgs s_look_at_word, defBody s_look_at_word, defScope s_look_at_word, [], []⟩
def d_word_code : He.DefD := ⟨("word_code", none), "word_code", "word_code", defArgs s_word_code, defBody s_word_code, defScope s_word_code, [], []⟩
def d_code_word : He.DefD := ⟨("code_word", none), "code_word", "code_word", defArgs s_code_word, defBody s_code_word, defScope s_code_word, [], []⟩
def d__law_cell_at : He.DefD := ⟨("_law_cell_at", none), "_law_cell_at", "_law_cell_at", defArgs s__law_cell_at, defBody s__law_cell_at, defScope s__law_cell_at, [], []⟩
def d__law_part : He.DefD := ⟨("_law_part", none), "_law_part", "_law_part", defArgs s__law_part, defBody s__law_part, defScope s__law_part, [], []⟩
def d__law_folded : He.DefD := ⟨("_law_folded", none), "_law_folded", "_law_folded", defArgs s__law_folded, defBody s__law_folded, defScope s__law_folded, [], []⟩
def d__law_pocket : He.DefD := ⟨("_law_pocket", none), "_law_pocket", "_law_pocket", defArgs s__law_pocket, defBody s__law_pocket, defScope s__law_pocket, [], []⟩
def d__law_passes : He.DefD := ⟨("_law_passes", none), "_law_passes", "_law_passes", defArgs s__law_passes, defBody s__law_passes, defScope s__law_passes, [], []⟩
def d__law_word_good : He.DefD := ⟨("_law_word_good", none), "_law_word_good", "_law_word_good", defArgs s__law_word_good, defBody s__law_word_good, defScope s__law_word_good, [], []⟩
def d__law_words : He.DefD := ⟨("_law_words", none), "_law_words", "_law_words", defArgs s__law_words, defBody s__law_words, defScope s__law_words, [], []⟩
def d_law : He.DefD := ⟨("law", none), "law", "law", defArgs s_law, defBody s_law, defScope s_law, [], []⟩
def fnD : List He.DefD := [d_pockets_kept, d_Mill___init__, d_Mill_codes, d_Mill_many, d_codes_ahead, d_look_at_late, d_look_at_word, d_word_code, d_code_word, d__law_cell_at, d__law_part, d__law_folded, d__law_pocket, d__law_passes, d__law_word_good, d__law_words, d_law]
def faD : List He.Fa := [.glo "pockets_kept", .meth "Mill" "codes", .meth "Mill" "many", .glo "codes_ahead", .glo "look_at_late", .glo "look_at_word", .glo "word_code", .glo "code_word", .glo "_law_cell_at", .glo "_law_part", .glo "_law_folded", .glo "_law_pocket", .glo "_law_passes", .glo "_law_word_good", .glo "_law_words", .glo "law", .glo "Mill", .cls "Mill", .mkr "Mill", .noat "Mill" "passes", .glo "MillError", .exc "MillError", .glo "BadMill", .exc "BadMill", .glo "BadLate", .exc "BadLate", .glo "BadWord", .exc "BadWord", .glo "BadCode", .exc "BadCode", .int "MOST_PASSES" 6, .int "MOST_POCKETS" 6, .int "MOST_CODES" 1000, .int "WIDEST" 9, .glo "KINDS", .free "ValueError", .free "bool", .free "divmod", .free "int", .free "isinstance", .free "len", .free "range", .free "reversed", .free "tuple", .free "zip"]
def moreD (K : PySem.W.Frag) : Bool := (He.tupB K "KINDS" [.str "queue", .str "pile"] && true)
abbrev R : PySem.W.OpenRow := PySem.W.OpenLaw.row PySem.Challenge.rw_pocketmill_k04_whole_words_and_codes
abbrev hk : PySem.W.Hook := hookX 5 faD fnD moreD
def ob (s : PySem.W.SharedT) : He.AlD × Bool := obX faD fnD moreD (HandSHeadRun.getT s) 5
theorem ob_eq (s : PySem.W.SharedT) : ob s = hk.obs s.abs := obX_eq (HandSHeadRun.getT_eq s)
def looseD : List Str := (["MillError", "BadMill", "BadLate", "BadWord", "BadCode", "MOST_PASSES", "MOST_POCKETS", "MOST_CODES", "WIDEST", "KINDS", "pockets_kept", "Mill", "codes_ahead", "look_at_late", "look_at_word", "word_code", "code_word", "_law_cell_at", "_law_part", "_law_folded", "_law_pocket", "_law_passes", "_law_word_good", "_law_words"] : List Str)
theorem run (w : World) : HandSHeadRun.RunEq R (PySem.W.view R.prog [27]) hk ob 30000 looseD w := by
  intro os
  kernel_rfl
theorem facts {K : PySem.W.Frag} {h : Heap} {mg : Str → Option Value} (X : K.In h) (G : h.Ns mainGlobals mg) (cc : SaysX faD fnD moreD K) : Txt K mg := by
  obtain ⟨c, m⟩ := cc
  unfold moreD at m
  obtain ⟨m_KINDS, m⟩ := He.ba m
  have tb_KINDS := fun H : Hp => He.tupB_ok m_KINDS H
  exact {
    d_pockets_kept := c.def_ 0 (d := d_pockets_kept) rfl
    g_pockets_kept := He.glo_ok X G (c.fact 0 (f := .glo "pockets_kept") rfl)
    d_Mill___init__ := c.def_ 1 (d := d_Mill___init__) rfl
    d_Mill_codes := c.def_ 2 (d := d_Mill_codes) rfl
    m_Mill_codes := He.meth_ok (c.fact 1 (f := .meth "Mill" "codes") rfl)
    d_Mill_many := c.def_ 3 (d := d_Mill_many) rfl
    m_Mill_many := He.meth_ok (c.fact 2 (f := .meth "Mill" "many") rfl)
    d_codes_ahead := c.def_ 4 (d := d_codes_ahead) rfl
    g_codes_ahead := He.glo_ok X G (c.fact 3 (f := .glo "codes_ahead") rfl)
    d_look_at_late := c.def_ 5 (d := d_look_at_late) rfl
    g_look_at_late := He.glo_ok X G (c.fact 4 (f := .glo "look_at_late") rfl)
    d_look_at_word := c.def_ 6 (d := d_look_at_word) rfl
    g_look_at_word := He.glo_ok X G (c.fact 5 (f := .glo "look_at_word") rfl)
    d_word_code := c.def_ 7 (d := d_word_code) rfl
    g_word_code := He.glo_ok X G (c.fact 6 (f := .glo "word_code") rfl)
    d_code_word := c.def_ 8 (d := d_code_word) rfl
    g_code_word := He.glo_ok X G (c.fact 7 (f := .glo "code_word") rfl)
    d__law_cell_at := c.def_ 9 (d := d__law_cell_at) rfl
    g__law_cell_at := He.glo_ok X G (c.fact 8 (f := .glo "_law_cell_at") rfl)
    d__law_part := c.def_ 10 (d := d__law_part) rfl
    g__law_part := He.glo_ok X G (c.fact 9 (f := .glo "_law_part") rfl)
    d__law_folded := c.def_ 11 (d := d__law_folded) rfl
    g__law_folded := He.glo_ok X G (c.fact 10 (f := .glo "_law_folded") rfl)
    d__law_pocket := c.def_ 12 (d := d__law_pocket) rfl
    g__law_pocket := He.glo_ok X G (c.fact 11 (f := .glo "_law_pocket") rfl)
    d__law_passes := c.def_ 13 (d := d__law_passes) rfl
    g__law_passes := He.glo_ok X G (c.fact 12 (f := .glo "_law_passes") rfl)
    d__law_word_good := c.def_ 14 (d := d__law_word_good) rfl
    g__law_word_good := He.glo_ok X G (c.fact 13 (f := .glo "_law_word_good") rfl)
    d__law_words := c.def_ 15 (d := d__law_words) rfl
    g__law_words := He.glo_ok X G (c.fact 14 (f := .glo "_law_words") rfl)
    d_law := c.def_ 16 (d := d_law) rfl
    g_law := He.glo_ok X G (c.fact 15 (f := .glo "law") rfl)
    g_Mill := He.glo_ok X G (c.fact 16 (f := .glo "Mill") rfl)
    c_Mill := He.cls_ok (c.fact 17 (f := .cls "Mill") rfl)
    k_Mill := He.mkr_ok (c.fact 18 (f := .mkr "Mill") rfl)
    n_Mill_passes := He.noat_ok (c.fact 19 (f := .noat "Mill" "passes") rfl)
    g_MillError := He.glo_ok X G (c.fact 20 (f := .glo "MillError") rfl)
    x_MillError := He.exc_ok (c.fact 21 (f := .exc "MillError") rfl)
    g_BadMill := He.glo_ok X G (c.fact 22 (f := .glo "BadMill") rfl)
    x_BadMill := He.exc_ok (c.fact 23 (f := .exc "BadMill") rfl)
    g_BadLate := He.glo_ok X G (c.fact 24 (f := .glo "BadLate") rfl)
    x_BadLate := He.exc_ok (c.fact 25 (f := .exc "BadLate") rfl)
    g_BadWord := He.glo_ok X G (c.fact 26 (f := .glo "BadWord") rfl)
    x_BadWord := He.exc_ok (c.fact 27 (f := .exc "BadWord") rfl)
    g_BadCode := He.glo_ok X G (c.fact 28 (f := .glo "BadCode") rfl)
    x_BadCode := He.exc_ok (c.fact 29 (f := .exc "BadCode") rfl)
    i_MOST_PASSES := He.int_ok X G (c.fact 30 (f := .int "MOST_PASSES" 6) rfl)
    i_MOST_POCKETS := He.int_ok X G (c.fact 31 (f := .int "MOST_POCKETS" 6) rfl)
    i_MOST_CODES := He.int_ok X G (c.fact 32 (f := .int "MOST_CODES" 1000) rfl)
    i_WIDEST := He.int_ok X G (c.fact 33 (f := .int "WIDEST" 9) rfl)
    g_KINDS := He.glo_ok X G (c.fact 34 (f := .glo "KINDS") rfl)
    t_KINDS := tb_KINDS
    b_ValueError := He.free_ok X G (c.fact 35 (f := .free "ValueError") rfl)
    b_bool := He.free_ok X G (c.fact 36 (f := .free "bool") rfl)
    b_divmod := He.free_ok X G (c.fact 37 (f := .free "divmod") rfl)
    b_int := He.free_ok X G (c.fact 38 (f := .free "int") rfl)
    b_isinstance := He.free_ok X G (c.fact 39 (f := .free "isinstance") rfl)
    b_len := He.free_ok X G (c.fact 40 (f := .free "len") rfl)
    b_range := He.free_ok X G (c.fact 41 (f := .free "range") rfl)
    b_reversed := He.free_ok X G (c.fact 42 (f := .free "reversed") rfl)
    b_tuple := He.free_ok X G (c.fact 43 (f := .free "tuple") rfl)
    b_zip := He.free_ok X G (c.fact 44 (f := .free "zip") rfl)
  }
end Pm
open PySem PySem.W PySem.Calls PyProof.Rows
theorem PySem.Challenge.cw_pocketmill_k04_whole_words_and_codes_holds : PySem.Challenge.rw_pocketmill_k04_whole_words_and_codes.Holds := by
  w_on; o_law
  refine HandSHeadRun.head_any (r := Pm.R) (q := view Pm.R.prog [27]) (H := Pm.hk) (ob := Pm.ob) (M := 30000) (loose := Pm.looseD) (d := HandSHeadRun.topDef Pm.R.prog 27) (kwd := []) Pm.ob_eq
    (by kernel_rfl) (fun s => by kernel_rfl) Pm.run (by kernel_rfl) (by kernel_rfl) (by kernel_rfl) (by rfl) (by first | assumption | decide +kernel) (by decide +kernel) ⟨rfl, rfl, rfl, rfl, rfl, by decide +kernel⟩ ?hw ?hc
  case hw => w_witness2
  case hc =>
    refine Pm.walkX (l := PySem.Challenge.rw_pocketmill_k04_whole_words_and_codes) (n := 63) (k := 6) (x := "script") (Fn := Pm.F_law) rfl (by decide) (by kernel_rfl) ⟨rfl, by decide, by decide⟩ (fun ns h => Pm.pure_law ns h) ?F
    rintro w mg fa h ⟨K, KX, c⟩ G hmg0
    have hmg : mg ("law" : PySem.Str) = some (.ref fa) := by
      have e : (HandSHeadRun.topDef Pm.R.prog 27).name = ("law" : PySem.Str) := by kernel_rfl
      rw [← e]; exact hmg0
    have T := Pm.facts KX G c
    have e := hmg.symm.trans T.g_law
    cases e
    obtain ⟨fd, ok, _, _, b⟩ := Pm.ok_law (P := (PySem.Challenge.rw_pocketmill_k04_whole_words_and_codes).prog) (w := w) T
    exact ⟨K, fd, He.ga K, KX, b, ok⟩
