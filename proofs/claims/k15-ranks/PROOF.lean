import PyProof.Rows.All
import Wide.All
import OpenK.AllK
import Wide.FinOn
import HandS.ForMost
import HandS.Deep
import HandS.Style
import HandS.SortInts
import HandS.SetFor
import HandS.TupAny
import HandS.TupMul
import HandS.IsInst
import HandS.SortRule
import HandS.Wide
import PyProof.Rows.SortShell
import HandS.SortOrd
import HandS.Conv
import HandS.Sort
import KE.KRevSl
import HandS.OwnEq
import HandS.Strs
import PyProof.ListIndex
import HandS.TupLe
import PyProof.StrOps2
import PySem.Challenge.RW_debtless_k15_whole_ranks
set_option Elab.async false
set_option linter.all false
set_option maxRecDepth 100000
namespace Fw
open PySem L2
/-- the keys of a dict: numbers and texts, or tuples of them -/
inductive Ky where | k (ks : List Key) | t (ks : List (List Key))
def Ky.len : Ky → Nat
  | .k ks => ks.length
  | .t ks => ks.length
def Ky.ok : Ky → Prop
  | .k ks => ks ≠ []
  | .t _ => True
/-- an object that changes: no tuple, no dict that stands empty for all -/
def Mt (o : HO) : Prop := (∀ xs, o ≠ .tup xs) ∧ o ≠ .dK []
theorem Mt.lst {xs : List V} : Mt (.lst xs) := ⟨fun _ z => (nomatch z), fun z => (nomatch z)⟩
def Ky.obj : Ky → List V → HO
  | .k ks, vs => .dK (ks.zip vs)
  | .t ks, vs => .dT (ks.zip vs)
theorem Ky.mt {ks : Ky} {xs : List V} (l : ks.len = xs.length) (o : ks.ok) : Mt (ks.obj xs) := by
  cases ks with
  | t ks => exact ⟨fun _ z => (nomatch z), fun z => (nomatch z)⟩
  | k ks =>
    refine ⟨fun _ z => (nomatch z), fun z => ?_⟩
    cases ks with
    | nil => exact o rfl
    | cons k ks =>
      cases xs with
      | nil => cases l
      | cons x xs => injection z with z; cases z
inductive D where
  | non | bl (b : Bool) | int (i : Int) | str (x : Str) | tok | dct
  | tup (xs : List D) | lst (xs : List D) | dk (ks : Ky) (xs : List D)
mutual
def imm : D → Bool
  | .tup xs => immA xs
  | .lst _ => false
  | .dk _ _ => false
  | _ => true
def immA : List D → Bool
  | [] => true
  | x :: xs => imm x && immA xs
end
class Tp (τ : Type) where
  ti : Addr × Addr → Hp → τ → Prop
  loc : ∀ {T H H' t}, ti T H t → H' T.1 = H T.1 → H' T.2 = H T.2 → ti T H' t
  df : ∀ {T H t}, ti T H t → H T.1 ≠ none ∧ H T.2 ≠ none
def tp (T : Addr × Addr) (a : Addr) : Prop := a = T.1 ∨ a = T.2
def SameT (T : Addr × Addr) (H H' : Hp) : Prop := ∀ b o, ¬ tp T b → H b = some o → H' b = some o
theorem SameT.rf {T H} : SameT T H H := fun _ _ _ h => h
theorem SameT.tr {T H H1 H2} (a : SameT T H H1) (b : SameT T H1 H2) : SameT T H H2 := fun x o n h => b x o n (a x o n h)
theorem SameT.nu {T H p o} (h : H p = none) : SameT T H (upd H p o) := fun b u _ e => by rw [upd_ne (ne_of_none e h)]; exact e
section
variable (K : PySem.W.Frag) (T : Addr × Addr)
def TupAt (_ : PySem.W.Frag) (T : Addr × Addr) (H : Hp) (a : Addr) (xs : List V) : Prop := ¬ tp T a ∧ H a = some (.tup xs)
def DctAt (_ : PySem.W.Frag) (T : Addr × Addr) (H : Hp) (a : Addr) : Prop := ¬ tp T a ∧ H a = some (.dK [])
def LstAt (_ : PySem.W.Frag) (H : Hp) (A : Addr → Prop) (a : Addr) (o : HO) : Prop := A a ∧ H a = some o
mutual
def Rp (H : Hp) (A : Addr → Prop) : D → V → Prop
  | .non, v => v = .non
  | .bl b, v => v = .bl b
  | .int i, v => v = .int i
  | .str x, v => v = .str x
  | .tok, v => v = .ref T.1
  | .dct, v => ∃ a, v = .ref a ∧ DctAt K T H a
  | .tup ds, v => ∃ a xs, v = .ref a ∧ TupAt K T H a xs ∧ xs.length ≤ sizeLine ∧ RpA H A ds xs
  | .lst ds, v => ∃ a xs, v = .ref a ∧ LstAt K H A a (.lst xs) ∧ xs.length ≤ sizeLine ∧ RpA H A ds xs
  | .dk ks ds, v => ∃ a xs, v = .ref a ∧ LstAt K H A a (ks.obj xs) ∧ (xs.length ≤ sizeLine ∧ ks.len = xs.length ∧ ks.ok) ∧ RpA H A ds xs
def RpA (H : Hp) (A : Addr → Prop) : List D → List V → Prop
  | [], vs => vs = []
  | d :: ds, vs => ∃ v r, vs = v :: r ∧ Rp H A d v ∧ RpA H A ds r
end
mutual
def Ow (H : Hp) : D → List Addr → V → Prop
  | .non, q, v => q = [] ∧ v = .non
  | .bl b, q, v => q = [] ∧ v = .bl b
  | .int i, q, v => q = [] ∧ v = .int i
  | .str x, q, v => q = [] ∧ v = .str x
  | .tok, q, v => q = [] ∧ v = .ref T.1
  | .dct, q, v => q = [] ∧ ∃ a, v = .ref a ∧ DctAt K T H a
  | .tup ds, q, v => ∃ a xs, v = .ref a ∧ TupAt K T H a xs ∧ xs.length ≤ sizeLine ∧ OwA H ds q xs
  | .lst ds, q, v => ∃ a xs r, v = .ref a ∧ q = a :: r ∧ H a = some (.lst xs) ∧ xs.length ≤ sizeLine ∧ OwA H ds r xs
  | .dk ks ds, q, v => ∃ a xs r, v = .ref a ∧ q = a :: r ∧ H a = some (ks.obj xs) ∧ (xs.length ≤ sizeLine ∧ ks.len = xs.length ∧ ks.ok) ∧ OwA H ds r xs
def OwA (H : Hp) : List D → List Addr → List V → Prop
  | [], q, vs => q = [] ∧ vs = []
  | d :: ds, q, vs => ∃ q1 q2 v r, q = q1 ++ q2 ∧ vs = v :: r ∧ Ow H d q1 v ∧ OwA H ds q2 r
end
end
section
variable {K : PySem.W.Frag} {T : Addr × Addr} {H H' : Hp} {A A' : Addr → Prop}
theorem RpA.len : ∀ {ds : List D} {vs : List V}, RpA K T H A ds vs → vs.length = ds.length
  | [], vs, h => by rw [show vs = [] from h]; rfl
  | d :: ds, vs, h => by
    obtain ⟨v, r, e, _, h2⟩ := h
    rw [e, List.length_cons, List.length_cons, RpA.len h2]
theorem OwA.len : ∀ {ds : List D} {q : List Addr} {vs : List V}, OwA K T H ds q vs → vs.length = ds.length
  | [], q, vs, h => by rw [show vs = [] from h.2]; rfl
  | d :: ds, q, vs, h => by
    obtain ⟨q1, q2, v, r, e, e2, _, h2⟩ := h
    rw [e2, List.length_cons, List.length_cons, OwA.len h2]
mutual
theorem Rp.mono (h1 : ∀ a xs, TupAt K T H a xs → TupAt K T H' a xs) (h3 : ∀ a, DctAt K T H a → DctAt K T H' a) (h2 : ∀ a o, LstAt K H A a o → LstAt K H' A' a o) : ∀ (d : D) (v : V), Rp K T H A d v → Rp K T H' A' d v
  | .non, _, h => h
  | .bl _, _, h => h
  | .int _, _, h => h
  | .str _, _, h => h
  | .tok, _, h => h
  | .dct, _, h => by
    obtain ⟨a, e, z⟩ := h
    exact ⟨a, e, h3 a z⟩
  | .tup ds, v, h => by
    obtain ⟨a, xs, e, t, l, r⟩ := h
    exact ⟨a, xs, e, h1 a xs t, l, RpA.mono h1 h3 h2 ds xs r⟩
  | .lst ds, v, h => by
    obtain ⟨a, xs, e, t, l, r⟩ := h
    exact ⟨a, xs, e, h2 a _ t, l, RpA.mono h1 h3 h2 ds xs r⟩
  | .dk ks ds, v, h => by
    obtain ⟨a, xs, e, t, l, r⟩ := h
    exact ⟨a, xs, e, h2 a _ t, l, RpA.mono h1 h3 h2 ds xs r⟩
theorem RpA.mono (h1 : ∀ a xs, TupAt K T H a xs → TupAt K T H' a xs) (h3 : ∀ a, DctAt K T H a → DctAt K T H' a) (h2 : ∀ a o, LstAt K H A a o → LstAt K H' A' a o) : ∀ (ds : List D) (vs : List V), RpA K T H A ds vs → RpA K T H' A' ds vs
  | [], _, h => h
  | d :: ds, vs, h => by
    obtain ⟨v, r, e, a, b⟩ := h
    exact ⟨v, r, e, Rp.mono h1 h3 h2 d v a, RpA.mono h1 h3 h2 ds r b⟩
end
mutual
/-- an owned value, where its own lists and the tuples are kept -/
theorem Ow.mono (h1 : ∀ a xs, TupAt K T H a xs → TupAt K T H' a xs) (h3 : ∀ a, DctAt K T H a → DctAt K T H' a) : ∀ (d : D) (q : List Addr) (v : V), (∀ a, a ∈ q → H' a = H a) → Ow K T H d q v → Ow K T H' d q v
  | .non, _, _, _, h => h
  | .bl _, _, _, _, h => h
  | .int _, _, _, _, h => h
  | .str _, _, _, _, h => h
  | .tok, _, _, _, h => h
  | .dct, _, _, _, h => by
    obtain ⟨k, a, e, z⟩ := h
    exact ⟨k, a, e, h3 a z⟩
  | .tup ds, q, v, k, h => by
    obtain ⟨a, xs, e, t, l, r⟩ := h
    exact ⟨a, xs, e, h1 a xs t, l, OwA.mono h1 h3 ds q xs k r⟩
  | .lst ds, q, v, k, h => by
    obtain ⟨a, xs, r, e, e2, t, l, o⟩ := h
    subst e2
    exact ⟨a, xs, r, e, rfl, by rw [k a List.mem_cons_self]; exact t, l, OwA.mono h1 h3 ds r xs (fun b hb => k b (List.mem_cons_of_mem _ hb)) o⟩
  | .dk ks ds, q, v, k, h => by
    obtain ⟨a, xs, r, e, e2, t, l, o⟩ := h
    subst e2
    exact ⟨a, xs, r, e, rfl, by rw [k a List.mem_cons_self]; exact t, l, OwA.mono h1 h3 ds r xs (fun b hb => k b (List.mem_cons_of_mem _ hb)) o⟩
theorem OwA.mono (h1 : ∀ a xs, TupAt K T H a xs → TupAt K T H' a xs) (h3 : ∀ a, DctAt K T H a → DctAt K T H' a) : ∀ (ds : List D) (q : List Addr) (vs : List V), (∀ a, a ∈ q → H' a = H a) → OwA K T H ds q vs → OwA K T H' ds q vs
  | [], _, _, _, h => h
  | d :: ds, q, vs, k, h => by
    obtain ⟨q1, q2, v, r, e, e2, a, b⟩ := h
    subst e
    exact ⟨q1, q2, v, r, rfl, e2, Ow.mono h1 h3 d q1 v (fun x hx => k x (List.mem_append_left _ hx)) a, OwA.mono h1 h3 ds q2 r (fun x hx => k x (List.mem_append_right _ hx)) b⟩
end
mutual
theorem Ow.rp : ∀ (d : D) (q : List Addr) (v : V), (∀ a, a ∈ q → A a) → Ow K T H d q v → Rp K T H A d v
  | .non, _, _, _, h => h.2
  | .bl _, _, _, _, h => h.2
  | .int _, _, _, _, h => h.2
  | .str _, _, _, _, h => h.2
  | .tok, _, _, _, h => h.2
  | .dct, _, _, _, h => h.2
  | .tup ds, q, v, k, h => by
    obtain ⟨a, xs, e, t, l, r⟩ := h
    exact ⟨a, xs, e, t, l, OwA.rp ds q xs k r⟩
  | .lst ds, q, v, k, h => by
    obtain ⟨a, xs, r, e, e2, t, l, o⟩ := h
    subst e2
    exact ⟨a, xs, e, ⟨k a List.mem_cons_self, t⟩, l, OwA.rp ds r xs (fun b hb => k b (List.mem_cons_of_mem _ hb)) o⟩
  | .dk ks ds, q, v, k, h => by
    obtain ⟨a, xs, r, e, e2, t, l, o⟩ := h
    subst e2
    exact ⟨a, xs, e, ⟨k a List.mem_cons_self, t⟩, l, OwA.rp ds r xs (fun b hb => k b (List.mem_cons_of_mem _ hb)) o⟩
theorem OwA.rp : ∀ (ds : List D) (q : List Addr) (vs : List V), (∀ a, a ∈ q → A a) → OwA K T H ds q vs → RpA K T H A ds vs
  | [], _, _, _, h => h.2
  | d :: ds, q, vs, k, h => by
    obtain ⟨q1, q2, v, r, e, e2, a, b⟩ := h
    subst e
    exact ⟨v, r, e2, Ow.rp d q1 v (fun x hx => k x (List.mem_append_left _ hx)) a, OwA.rp ds q2 r (fun x hx => k x (List.mem_append_right _ hx)) b⟩
end
mutual
theorem Rp.ow : ∀ (d : D) (v : V), imm d = true → Rp K T H A d v → Ow K T H d [] v
  | .non, _, _, h => ⟨rfl, h⟩
  | .bl _, _, _, h => ⟨rfl, h⟩
  | .int _, _, _, h => ⟨rfl, h⟩
  | .str _, _, _, h => ⟨rfl, h⟩
  | .tok, _, _, h => ⟨rfl, h⟩
  | .dct, _, _, h => ⟨rfl, h⟩
  | .tup ds, v, k, h => by
    obtain ⟨a, xs, e, t, l, r⟩ := h
    exact ⟨a, xs, e, t, l, RpA.ow ds xs k r⟩
  | .lst ds, v, k, h => by cases k
  | .dk ks ds, v, k, h => by cases k
theorem RpA.ow : ∀ (ds : List D) (vs : List V), immA ds = true → RpA K T H A ds vs → OwA K T H ds [] vs
  | [], _, _, h => ⟨rfl, h⟩
  | d :: ds, vs, k, h => by
    obtain ⟨v, r, e, a, b⟩ := h
    have k' : (imm d && immA ds) = true := k
    rw [Bool.and_eq_true] at k'
    exact ⟨[], [], v, r, rfl, e, Rp.ow d v k'.1 a, RpA.ow ds r k'.2 b⟩
end
mutual
theorem Ow.at_ : ∀ (d : D) (q : List Addr) (v : V), Ow K T H d q v → ∀ a ∈ q, ∃ o, H a = some o ∧ Mt o
  | .non, _, _, h, a, m => by rw [h.1] at m; cases m
  | .bl _, _, _, h, a, m => by rw [h.1] at m; cases m
  | .int _, _, _, h, a, m => by rw [h.1] at m; cases m
  | .str _, _, _, h, a, m => by rw [h.1] at m; cases m
  | .tok, _, _, h, a, m => by rw [h.1] at m; cases m
  | .dct, _, _, h, a, m => by rw [h.1] at m; cases m
  | .tup ds, q, v, h, a, m => by
    obtain ⟨_, xs, e, t, l, r⟩ := h
    exact OwA.at_ ds q xs r a m
  | .lst ds, q, v, h, a, m => by
    obtain ⟨b, xs, r, e, e2, t, l, o⟩ := h
    subst e2
    rcases List.mem_cons.mp m with z | z
    · rw [z]; exact ⟨_, t, Mt.lst⟩
    · exact OwA.at_ ds r xs o a z
  | .dk ks ds, q, v, h, a, m => by
    obtain ⟨b, xs, r, e, e2, t, l, o⟩ := h
    subst e2
    rcases List.mem_cons.mp m with z | z
    · rw [z]; exact ⟨_, t, Ky.mt l.2.1 l.2.2⟩
    · exact OwA.at_ ds r xs o a z
theorem OwA.at_ : ∀ (ds : List D) (q : List Addr) (vs : List V), OwA K T H ds q vs → ∀ a ∈ q, ∃ o, H a = some o ∧ Mt o
  | [], _, _, h, a, m => by rw [h.1] at m; cases m
  | d :: ds, q, vs, h, a, m => by
    obtain ⟨q1, q2, v, r, e, e2, x, y⟩ := h
    subst e
    rcases List.mem_append.mp m with z | z
    · exact Ow.at_ d q1 v x a z
    · exact OwA.at_ ds q2 r y a z
end
mutual
/-- an immutable value owns nothing -/
theorem Ow.nil_of : ∀ (d : D) (q : List Addr) (v : V), imm d = true → Ow K T H d q v → q = []
  | .non, _, _, _, h => h.1
  | .bl _, _, _, _, h => h.1
  | .int _, _, _, _, h => h.1
  | .str _, _, _, _, h => h.1
  | .tok, _, _, _, h => h.1
  | .dct, _, _, _, h => h.1
  | .tup ds, q, v, k, h => by
    obtain ⟨a, xs, e, t, l, r⟩ := h
    exact OwA.nil_of ds q xs k r
  | .lst ds, q, v, k, h => by cases k
  | .dk ks ds, q, v, k, h => by cases k
theorem OwA.nil_of : ∀ (ds : List D) (q : List Addr) (vs : List V), immA ds = true → OwA K T H ds q vs → q = []
  | [], _, _, _, h => h.1
  | d :: ds, q, vs, k, h => by
    obtain ⟨q1, q2, v, r, e, e2, x, y⟩ := h
    have k' : (imm d && immA ds) = true := k
    rw [Bool.and_eq_true] at k'
    rw [e, Ow.nil_of d q1 v k'.1 x, OwA.nil_of ds q2 r k'.2 y]
    rfl
end
theorem TupAt.same (s : SameT T H H') {a xs} (h : TupAt K T H a xs) : TupAt K T H' a xs := ⟨h.1, s a _ h.1 h.2⟩
theorem DctAt.same (s : SameT T H H') {a} (h : DctAt K T H a) : DctAt K T H' a := ⟨h.1, s a _ h.1 h.2⟩
theorem LstAt.same (s : SameT T H H') (k : ∀ a, A a → ¬ tp T a ∧ (H a ≠ none → A' a)) {a xs} (h : LstAt K H A a xs) : LstAt K H' A' a xs :=
  ⟨(k a h.1).2 (by rw [h.2]; exact fun z => nomatch z), s a _ (k a h.1).1 h.2⟩
theorem Rp.same (s : SameT T H H') (k : ∀ a, A a → ¬ tp T a ∧ (H a ≠ none → A' a)) {d v} (h : Rp K T H A d v) : Rp K T H' A' d v := h.mono (fun _ _ x => x.same s) (fun _ x => x.same s) fun _ _ x => x.same s k
theorem RpA.same (s : SameT T H H') (k : ∀ a, A a → ¬ tp T a ∧ (H a ≠ none → A' a)) {d v} (h : RpA K T H A d v) : RpA K T H' A' d v := h.mono (fun _ _ x => x.same s) (fun _ x => x.same s) fun _ _ x => x.same s k
theorem Ow.same (s : SameT T H H') {d q v} (n : ∀ a ∈ q, ¬ tp T a) (h : Ow K T H d q v) : Ow K T H' d q v := h.mono (fun _ _ x => x.same s) (fun _ x => x.same s) _ _ _ fun a m => by
  obtain ⟨xs, e, _⟩ := h.at_ _ _ _ a m
  rw [e, s a _ (n a m) e]
theorem OwA.same (s : SameT T H H') {d q v} (n : ∀ a ∈ q, ¬ tp T a) (h : OwA K T H d q v) : OwA K T H' d q v := h.mono (fun _ _ x => x.same s) (fun _ x => x.same s) _ _ _ fun a m => by
  obtain ⟨xs, e, _⟩ := h.at_ _ _ _ a m
  rw [e, s a _ (n a m) e]
theorem RpA.get : ∀ {ds : List D} {vs : List V} {i : Nat} {d : D}, RpA K T H A ds vs → ds[i]? = some d → ∃ v, vs[i]? = some v ∧ Rp K T H A d v
  | [], _, _, _, _, e => by simp at e
  | x :: ds, vs, 0, d, h, e => by
    obtain ⟨v, r, e1, a, b⟩ := h
    simp at e; subst e; subst e1
    exact ⟨v, rfl, a⟩
  | x :: ds, vs, i + 1, d, h, e => by
    obtain ⟨v, r, e1, a, b⟩ := h
    subst e1
    exact RpA.get (i := i) b (by simpa using e)
end
end Fw
set_option Elab.async false
set_option linter.all false
set_option maxRecDepth 100000
namespace Fw
open PySem L2
inductive Gr where | own | frz | pk
  deriving DecidableEq
abbrev GD := Gr × D
abbrev Slots := List (Option (Bool × D))
abbrev Ex (τ : Type) := τ → Slots → Option (τ × Slots × GD)
structure Cz where
  K : PySem.W.Frag
  T : Addr × Addr
abbrev FP := Nat → List Addr
def Fz (T : Addr × Addr) (res : List Addr) (fp : FP) (a : Addr) : Prop := ¬ tp T a ∧ a ∉ res ∧ ∀ i, a ∉ fp i
def Fr1 (T : Addr × Addr) (a : Addr) : Prop := ¬ tp T a
section
variable {τ : Type} [Tp τ]
structure Good (c : Cz) (H0 : Hp) (res : List Addr) (t : τ) (e : Slots) (fp : FP) (σ : St) (H : Hp) : Prop where
  s0 : SameT c.T H0 H
  ti : Tp.ti c.T H t
  len : e.length = σ.length
  ow : ∀ (i : Nat) (d : D), e[i]? = some (some (true, d)) → ∃ v, σ[i]? = some (some v) ∧ Ow c.K c.T H d (fp i) v
  fz : ∀ (i : Nat) (d : D), e[i]? = some (some (false, d)) → ∃ v, σ[i]? = some (some v) ∧ Rp c.K c.T H (Fz c.T res fp) d v
  fe : ∀ i : Nat, (∀ d : D, e[i]? ≠ some (some (true, d))) → fp i = []
  nd : ∀ i : Nat, (fp i).Nodup
  dj : ∀ (i j : Nat) (a : Addr), a ∈ fp i → a ∈ fp j → i = j
  nw : ∀ (i : Nat) (a : Addr), a ∈ fp i → H0 a = none ∧ ¬ tp c.T a ∧ a ∉ res
  rs : ∀ a, a ∈ res → H a ≠ none ∧ ¬ tp c.T a
def VOk (c : Cz) (H0 : Hp) (res : List Addr) (fp : FP) (H : Hp) : GD → V → List Addr → Prop
  | (.own, d), v, q => Ow c.K c.T H d q v ∧ q.Nodup ∧ ∀ a, a ∈ q → H0 a = none ∧ ¬ tp c.T a ∧ a ∉ res ∧ ∀ i, a ∉ fp i
  | (.frz, d), v, q => q = [] ∧ Rp c.K c.T H (Fz c.T res fp) d v
  | (.pk, d), v, q => q = [] ∧ Rp c.K c.T H (Fr1 c.T) d v
def Sub (fp' fp : FP) : Prop := ∀ i a, a ∈ fp' i → a ∈ fp i
theorem Sub.rf {fp : FP} : Sub fp fp := fun _ _ h => h
theorem Sub.tr {a b c : FP} (x : Sub b a) (y : Sub c b) : Sub c a := fun i z m => x i z (y i z m)
variable {c : Cz} {res res' q q' : List Addr} {t t' : τ} {e e' : Slots} {fp fp' : FP} {σ : St} {H H' H0 : Hp} {x y : GD} {v w : V}
/-- what an expression's reading is: from a good state the value, all else kept -/
def rd (c : Cz) (f : Ex τ) : TE := fun σ H Q => ∃ H0 res t e fp t' e' x, Good c H0 res t e fp σ H ∧ f t e = some (t', e', x) ∧
  ∀ H' fp' v q, SameT c.T H H' → Sub fp' fp → Good c H0 (q ++ res) t' e' fp' σ H' → VOk c H0 res fp' H' x v q → Q v H'
theorem Good.fpt (G : Good c H0 res t e fp σ H) {i : Nat} {a : Addr} (m : a ∈ fp i) : ∃ o, H a = some o ∧ Mt o := by
  by_cases h : ∀ d, e[i]? ≠ some (some (true, d))
  · rw [G.fe i h] at m; cases m
  · have h' : ∃ d, e[i]? = some (some (true, d)) := Classical.byContradiction fun z => h fun d q => z ⟨d, q⟩
    obtain ⟨d, h'⟩ := h'
    obtain ⟨v, _, o⟩ := G.ow i d h'
    exact o.at_ _ _ _ a m
theorem Good.ntp (G : Good c H0 res t e fp σ H) {p : Addr} (h : H p = none) : ¬ tp c.T p := by
  rintro (z | z)
  · exact (Tp.df G.ti).1 (by rw [← z]; exact h)
  · exact (Tp.df G.ti).2 (by rw [← z]; exact h)
theorem Good.h0 (G : Good c H0 res t e fp σ H) {p : Addr} (h : H p = none) : H0 p = none := by
  cases z : H0 p with
  | none => rfl
  | some o => rw [G.s0 p o (G.ntp h) z] at h; cases h
/-- fewer reserved addresses -/
theorem Good.less (G : Good c H0 res t e fp σ H) (k : ∀ a, a ∈ res' → a ∈ res) : Good c H0 res' t e fp σ H where
  s0 := G.s0
  ti := G.ti
  len := G.len
  ow := G.ow
  fz := fun i d h => by
    obtain ⟨v, h1, h2⟩ := G.fz i d h
    exact ⟨v, h1, h2.same SameT.rf fun a z => ⟨z.1, fun _ => ⟨z.1, fun m => z.2.1 (k a m), z.2.2⟩⟩⟩
  fe := G.fe
  nd := G.nd
  dj := G.dj
  nw := fun i a m => ⟨(G.nw i a m).1, (G.nw i a m).2.1, fun z => (G.nw i a m).2.2 (k a z)⟩
  rs := fun a m => G.rs a (k a m)
theorem VOk.less (V : VOk c H0 res fp H x v q) (k : ∀ a, a ∈ res' → a ∈ res) : VOk c H0 res' fp H x v q := by
  obtain ⟨g, d⟩ := x
  cases g with
  | own => exact ⟨V.1, V.2.1, fun a m => ⟨(V.2.2 a m).1, (V.2.2 a m).2.1, fun z => (V.2.2 a m).2.2.1 (k a z), (V.2.2 a m).2.2.2⟩⟩
  | frz => exact ⟨V.1, V.2.same SameT.rf fun a z => ⟨z.1, fun _ => ⟨z.1, fun m => z.2.1 (k a m), z.2.2⟩⟩⟩
  | pk => exact V
/-- a pending value behind another step -/
theorem VOk.step (V : VOk c H0 res fp H x v q) (s : SameT c.T H H') (sb : Sub fp' fp) : VOk c H0 res fp' H' x v q := by
  obtain ⟨g, d⟩ := x
  cases g with
  | own => exact ⟨V.1.same s fun a m => (V.2.2 a m).2.1, V.2.1, fun a m => ⟨(V.2.2 a m).1, (V.2.2 a m).2.1, (V.2.2 a m).2.2.1, fun i z => (V.2.2 a m).2.2.2 i (sb i a z)⟩⟩
  | frz => exact ⟨V.1, V.2.same s fun a z => ⟨z.1, fun _ => ⟨z.1, z.2.1, fun i m => z.2.2 i (sb i a m)⟩⟩⟩
  | pk => exact ⟨V.1, V.2.same s fun a z => ⟨z, fun _ => z⟩⟩
/-- every value may be read -/
theorem VOk.rp (V : VOk c H0 res fp H x v q) : Rp c.K c.T H (Fr1 c.T) x.2 v := by
  obtain ⟨g, d⟩ := x
  cases g with
  | own => exact V.1.rp _ _ _ fun a m => (V.2.2 a m).2.1
  | frz => exact V.2.same SameT.rf fun a z => ⟨z.1, fun _ => z.1⟩
  | pk => exact V.2
/-- an owned value may be frozen -/
theorem VOk.frz (V : VOk c H0 res fp H x v q) (h : x.1 ≠ .pk) : Rp c.K c.T H (Fz c.T res fp) x.2 v := by
  obtain ⟨g, d⟩ := x
  cases g with
  | own => exact V.1.rp _ _ _ fun a m => ⟨(V.2.2 a m).2.1, (V.2.2 a m).2.2.1, (V.2.2 a m).2.2.2⟩
  | frz => exact V.2
  | pk => exact absurd rfl h
theorem VOk.imm {d : D} {A : Addr → Prop} (h : Rp c.K c.T H A d v) (k : imm d = true) : VOk c H0 res fp H (.own, d) v [] :=
  ⟨h.ow _ _ k, List.nodup_nil, fun a m => nomatch m⟩
/-- the state stays good where only new objects came -/
theorem Good.step (G : Good c H0 res t e fp σ H) (s : SameT c.T H H') (t1 : H' c.T.1 = H c.T.1) (t2 : H' c.T.2 = H c.T.2) : Good c H0 res t e fp σ H' where
  s0 := G.s0.tr s
  ti := Tp.loc G.ti t1 t2
  len := G.len
  ow := fun i d h => by
    obtain ⟨v, h1, h2⟩ := G.ow i d h
    exact ⟨v, h1, h2.same s fun a m => (G.nw i a m).2.1⟩
  fz := fun i d h => by
    obtain ⟨v, h1, h2⟩ := G.fz i d h
    exact ⟨v, h1, h2.same s fun a z => ⟨z.1, fun _ => z⟩⟩
  fe := G.fe
  nd := G.nd
  dj := G.dj
  nw := G.nw
  rs := fun a m => by
    obtain ⟨h, n⟩ := G.rs a m
    cases z : H a with
    | none => exact absurd z h
    | some o => exact ⟨by rw [s a o n z]; exact fun w => (nomatch w), n⟩
/-- a new object at p, reserved or not -/
theorem Good.new (G : Good c H0 res t e fp σ H) {p : Addr} {o : HO} (h : H p = none) : Good c H0 res t e fp σ (upd H p o) :=
  G.step (SameT.nu h) (upd_ne fun z => G.ntp h (.inl z.symm)) (upd_ne fun z => G.ntp h (.inr z.symm))
/-- a tracked address is reserved: one that no frozen slot reaches, since it was new -/
theorem Good.newR (G : Good c H0 res t e fp σ H) {p : Addr} {o : HO} (h : H p = none) : Good c H0 (p :: res) t e fp σ (upd H p o) := by
  have G' := G.new (o := o) h
  exact { s0 := G'.s0, ti := G'.ti, len := G'.len, ow := G'.ow, fe := G'.fe, nd := G'.nd, dj := G'.dj
          fz := fun i d k => by
            obtain ⟨v, h1, h2⟩ := G.fz i d k
            exact ⟨v, h1, h2.same (SameT.nu h) fun a z => ⟨z.1, fun k => ⟨z.1, fun m => by
              rcases List.mem_cons.mp m with r | r
              · exact k (r ▸ h)
              · exact z.2.1 r, z.2.2⟩⟩⟩
          nw := fun i a m => ⟨(G.nw i a m).1, (G.nw i a m).2.1, fun z => by
              rcases List.mem_cons.mp z with r | r
              · obtain ⟨xs, q, _⟩ := G.fpt m
                rw [r, h] at q; cases q
              · exact (G.nw i a m).2.2 r⟩
          rs := fun a m => by
            rcases List.mem_cons.mp m with r | r
            · exact ⟨by rw [r, upd_same]; exact fun z => (nomatch z), by rw [r]; exact G.ntp h⟩
            · exact G'.rs a r }
theorem Good.nres (G : Good c H0 res t e fp σ H) {p : Addr} (h : H p = none) : p ∉ res := fun m => (G.rs p m).1 h
theorem Good.nfp (G : Good c H0 res t e fp σ H) {p : Addr} (h : H p = none) (i : Nat) : p ∉ fp i := fun m => by
  obtain ⟨xs, z, _⟩ := G.fpt m
  rw [h] at z; cases z
theorem imE {X : Cx} {ex : Expr} {u u' : TE} (h : PE X ex u) (k : ∀ σ H Q, u' σ H Q → u σ H Q) : PE X ex u' := ⟨fun pins s σ H Q I r => h.run pins s σ H Q I (k σ H Q r)⟩
theorem imT {X : Cx} {ex : Expr} {u u' : TT} (h : PT X ex u) (k : ∀ σ H Q, u' σ H Q → u σ H Q) : PT X ex u' := ⟨fun pins s σ H Q I r => h.run pins s σ H Q I (k σ H Q r)⟩
theorem imW {X : Cx} {ex : Expr} {u u' : TT} (h : PW X ex u) (k : ∀ σ H Q, u' σ H Q → u σ H Q) : PW X ex u' := ⟨fun wh pins s σ H Q I r => h.run wh pins s σ H Q I (k σ H Q r)⟩
theorem imA {X : Cx} {ex : List Expr} {u u' : TA} (h : PA X ex u) (k : ∀ σ H Q, u' σ H Q → u σ H Q) : PA X ex u' := ⟨fun p pins s σ H Q I r => h.run p pins s σ H Q I (k σ H Q r)⟩
theorem imS {X : Cx} {ex : Stmt} {u u' : TS} (h : PS X ex u) (k : ∀ D σ H, u' D σ H → u D σ H) : PS X ex u' := ⟨fun pins s σ H D I r => h.run pins s σ H D I (k D σ H r)⟩
theorem imSs {X : Cx} {ex : List Stmt} {u u' : TS} (h : PSs X ex u) (k : ∀ D σ H, u' D σ H → u D σ H) : PSs X ex u' := ⟨fun pins s σ H D I r => h.run pins s σ H D I (k D σ H r)⟩
/-- one that is told: constants -/
def xC (d : D) : Ex τ := fun t e => some (t, e, .own, d)
/-- a name: an immutable value is one's own, a list of another hand is frozen -/
def xV (i : Nat) : Ex τ := fun t e => match e[i]? with
  | some (some (b, d)) => if imm d then some (t, e, .own, d) else if b then none else some (t, e, .frz, d)
  | _ => none
/-- a name looked at only -/
def xP (i : Nat) : Ex τ := fun t e => match e[i]? with
  | some (some (b, d)) => some (t, e, if imm d then .own else if b then .pk else .frz, d)
  | _ => none
/-- a name's last look: what it owns goes over -/
def xM (i : Nat) : Ex τ := fun t e => match e[i]? with
  | some (some (true, d)) => some (t, e.set i none, .own, d)
  | some (some (false, d)) => some (t, e, if imm d then .own else .frz, d)
  | _ => none
/-- a name that is frozen -/
def xF (i : Nat) : Ex τ := fun t e => match e[i]? with
  | some (some (b, d)) => if imm d then some (t, e, .own, d) else some (t, e.set i (some (false, d)), .frz, d)
  | _ => none
def x2 (s : GD → GD → Option GD) (f g : Ex τ) : Ex τ := fun t e => (f t e).bind fun (t1, e1, x) => (g t1 e1).bind fun (t2, e2, y) => (s x y).map fun z => (t2, e2, z)
def x1 (s : GD → Option GD) (f : Ex τ) : Ex τ := fun t e => (f t e).bind fun (t1, e1, x) => (s x).map fun z => (t1, e1, z)
/-- a name's value, as it is held -/
theorem Good.sigma (G : Good c H0 res t e fp σ H) {i : Nat} {b : Bool} {d : D} (h : e[i]? = some (some (b, d))) : ∃ v, σ[i]? = some (some v) ∧ Rp c.K c.T H (Fr1 c.T) d v ∧ (b = false → Rp c.K c.T H (Fz c.T res fp) d v) := by
  cases b with
  | true =>
    obtain ⟨v, h1, h2⟩ := G.ow i d h
    exact ⟨v, h1, h2.rp _ _ _ fun a m => (G.nw i a m).2.1, fun z => nomatch z⟩
  | false =>
    obtain ⟨v, h1, h2⟩ := G.fz i d h
    exact ⟨v, h1, h2.same SameT.rf fun a z => ⟨z.1, fun _ => z.1⟩, fun _ => h2⟩
theorem d_xV {X : Cx} {c : Cz} {i : Nat} {nm : Str} {pos : Pos} (h : PE X (.Name nm pos) (tVar i)) : PE X (.Name nm pos) (rd c (xV (τ := τ) i)) := imE h fun σ H Q r => by
  obtain ⟨H0, res, t, e, fp, t', e', x, G, ev, k⟩ := r
  unfold xV at ev
  split at ev
  · rename_i b d hs
    obtain ⟨v, h1, h2, h3⟩ := G.sigma hs
    refine ⟨v, h1, ?_⟩
    split at ev
    · rename_i hi
      cases ev
      exact k H fp v [] SameT.rf Sub.rf G (VOk.imm h2 hi)
    · split at ev
      · cases ev
      · rename_i hb
        cases ev
        exact k H fp v [] SameT.rf Sub.rf G ⟨rfl, h3 (by simpa using hb)⟩
  · cases ev
theorem d_xP {X : Cx} {c : Cz} {i : Nat} {nm : Str} {pos : Pos} (h : PE X (.Name nm pos) (tVar i)) : PE X (.Name nm pos) (rd c (xP (τ := τ) i)) := imE h fun σ H Q r => by
  obtain ⟨H0, res, t, e, fp, t', e', x, G, ev, k⟩ := r
  unfold xP at ev
  split at ev
  · rename_i b d hs
    obtain ⟨v, h1, h2, h3⟩ := G.sigma hs
    refine ⟨v, h1, ?_⟩
    cases ev
    by_cases hi : imm d = true
    · exact k H fp v [] SameT.rf Sub.rf G (by rw [if_pos hi]; exact VOk.imm h2 hi)
    · cases b with
      | true => exact k H fp v [] SameT.rf Sub.rf G (by rw [if_neg hi, if_pos rfl]; exact ⟨rfl, h2⟩)
      | false => exact k H fp v [] SameT.rf Sub.rf G (by rw [if_neg hi, if_neg Bool.false_ne_true]; exact ⟨rfl, h3 rfl⟩)
  · cases ev
end
end Fw
set_option Elab.async false
set_option linter.all false
set_option maxRecDepth 100000
namespace Fw
open PySem L2
section
variable {τ : Type} [Tp τ]
variable {c : Cz} {res res' q q' : List Addr} {t t' : τ} {e e' : Slots} {fp fp' : FP} {σ : L2.St} {H H' H0 : Hp} {x y z : GD} {v w : V}
/-- new objects came, the tape turned, the addresses of q are reserved -/
theorem Good.to (G : Good c H0 res t e fp σ H) (s : SameT c.T H H') (ht : Tp.ti c.T H' t') (hq : ∀ a, a ∈ q → H a = none ∧ H' a ≠ none) : Good c H0 (q ++ res) t' e fp σ H' where
  s0 := G.s0.tr s
  ti := ht
  len := G.len
  ow := fun i d h => by
    obtain ⟨v, h1, h2⟩ := G.ow i d h
    exact ⟨v, h1, h2.same s fun a m => (G.nw i a m).2.1⟩
  fz := fun i d h => by
    obtain ⟨v, h1, h2⟩ := G.fz i d h
    exact ⟨v, h1, h2.same s fun a z => ⟨z.1, fun k => ⟨z.1, fun m => by
      rcases List.mem_append.mp m with m | m
      · exact k (hq a m).1
      · exact z.2.1 m, z.2.2⟩⟩⟩
  fe := G.fe
  nd := G.nd
  dj := G.dj
  nw := fun i a m => ⟨(G.nw i a m).1, (G.nw i a m).2.1, fun z => by
    rcases List.mem_append.mp z with z | z
    · exact G.nfp (hq a z).1 i m
    · exact (G.nw i a m).2.2 z⟩
  rs := fun a m => by
    rcases List.mem_append.mp m with m | m
    · exact ⟨(hq a m).2, G.ntp (hq a m).1⟩
    · obtain ⟨h, n⟩ := G.rs a m
      refine ⟨?_, n⟩
      cases z : H a with
      | none => exact absurd z h
      | some o => rw [s a o n z]; exact fun w => (nomatch w)
/-- a new list at p, of owned items -/
theorem new_lst (G : Good c H0 (q ++ res) t e fp σ H) {p : Addr} (h : H p = none) {ds : List D} {xs : List V} (hz : xs.length ≤ sizeLine) (o : OwA c.K c.T H ds q xs)
    (hd : q.Nodup) (hn : ∀ a, a ∈ q → H0 a = none ∧ ¬ tp c.T a ∧ a ∉ res ∧ ∀ i, a ∉ fp i) :
    Good c H0 ((p :: q) ++ res) t e fp σ (upd H p (.lst xs)) ∧ VOk c H0 res fp (upd H p (.lst xs)) (.own, .lst ds) (.ref p) (p :: q) := by
  have hpq : p ∉ q := fun m => G.nres h (List.mem_append_left _ m)
  refine ⟨G.newR h, ⟨p, xs, q, rfl, rfl, upd_same, hz, o.same (SameT.nu h) fun a m => (hn a m).2.1⟩, List.nodup_cons.mpr ⟨hpq, hd⟩, fun a m => ?_⟩
  rcases List.mem_cons.mp m with m | m
  · rw [m]; exact ⟨G.h0 h, G.ntp h, fun r => G.nres h (List.mem_append_right _ r), G.nfp h⟩
  · exact hn a m
def Op2 (c : Cz) (τ : Type) [Tp τ] (r : R2) (s : GD → GD → Option GD) : Prop := ∀ H0 res (t : τ) e fp σ H x y v w qv qw z (Q : VK), Good c H0 (qw ++ (qv ++ res)) t e fp σ H → VOk c H0 res fp H x v qv → VOk c H0 (qv ++ res) fp H y w qw → s x y = some z →
  (∀ H' u q, SameT c.T H H' → Good c H0 (q ++ res) t e fp σ H' → VOk c H0 res fp H' z u q → Q u H') → r v w H Q
theorem x2_run {s : GD → GD → Option GD} {r : R2} (hs : Op2 c τ r s) {f g : Ex τ} {Q : VK} (h : rd c (x2 s f g) σ H Q) : tOp r (rd c f) (rd c g) σ H Q := by
  obtain ⟨H0, res, t, e, fp, t', e', z, G, ev, k⟩ := h
  unfold x2 at ev
  rw [Option.bind_eq_some_iff] at ev
  obtain ⟨⟨t1, e1, x⟩, ev1, ev⟩ := ev
  rw [Option.bind_eq_some_iff] at ev
  obtain ⟨⟨t2, e2, y⟩, ev2, ev⟩ := ev
  rw [Option.map_eq_some_iff] at ev
  obtain ⟨z', ev3, ev⟩ := ev
  cases ev
  refine ⟨H0, res, t, e, fp, t1, e1, x, G, ev1, fun H1 fp1 v qv s1 b1 G1 V1 => ?_⟩
  refine ⟨H0, qv ++ res, t1, e1, fp1, t', e', y, G1, ev2, fun H2 fp2 w qw s2 b2 G2 V2 => ?_⟩
  exact hs H0 res t' e' fp2 σ H2 x y v w qv qw z Q G2 (V1.step s2 b2) V2 ev3 fun H' u q s3 G3 V3 => k H' fp2 u q ((s1.tr s2).tr s3) (b1.tr b2) G3 V3
theorem d_op {X : Cx} {op : Operator} {r : R2} {s : GD → GD → Option GD} (hs : Op2 c τ r s) (ho : OpR X (binaryOp op) r) {a b : Expr} {pos : Pos} {f g : Ex τ} (ha : PE X a (rd c f)) (hb : PE X b (rd c g)) : PE X (.BinOp a op b pos) (rd c (x2 s f g)) :=
  imE (pe_op ho ha hb) fun σ H Q h => x2_run hs h
theorem d_cmp {X : Cx} {op : CmpOp} {r : R2} {s : GD → GD → Option GD} (hs : Op2 c τ r s) (ho : OpR X (compareOp op) r) {a b : Expr} {pos : Pos} {f g : Ex τ} (hm : behindInMarks op b = false) (ha : PE X a (rd c f)) (hb : PE X b (rd c g)) : PE X (.Compare a [op] [b] pos) (rd c (x2 s f g)) :=
  imE (pe_cmpR ho ha hb hm) fun σ H Q h => x2_run hs h
/-- scalars of two ints -/
def sI (C : Int → Int → Bool) (g : Int → Int → D) : GD → GD → Option GD
  | (_, .int i), (_, .int j) => if C i j then some (.own, g i j) else none
  | _, _ => none
def scl : D → Option V
  | .non => some .non
  | .bl b => some (.bl b)
  | .int i => some (.int i)
  | .str x => some (.str x)
  | _ => none
theorem scl_ok {d : D} {u : V} (h : scl d = some u) : VOk c H0 res fp H (.own, d) u [] := by
  cases d <;> cases h <;> exact ⟨⟨rfl, rfl⟩, List.nodup_nil, fun a m => nomatch m⟩
theorem op2_I {C : Int → Int → Bool} {C' : Int → Int → Prop} {g : Int → Int → D} {gv : Int → Int → V} (hC : ∀ i j, C i j = true → C' i j) (hg : ∀ i j, scl (g i j) = some (gv i j)) : Op2 c τ (rI C' gv) (sI C g) := by
  intro H0 res t e fp σ H x y v w qv qw z Q G V1 V2 ev k
  obtain ⟨gx, dx⟩ := x
  obtain ⟨gy, dy⟩ := y
  unfold sI at ev
  split at ev
  · rename_i _ _ i _ j h1 h2
    cases h1
    cases h2
    split at ev
    · rename_i hc
      cases ev
      refine ⟨i, j, V1.rp, V2.rp, hC i j hc, ?_⟩
      exact k H _ [] SameT.rf (G.less fun a m => List.mem_append_right _ (List.mem_append_right _ m)) (scl_ok (hg i j))
    · cases ev
  · cases ev
theorem op2_I0 {g : Int → Int → D} {gv : Int → Int → V} (hg : ∀ i j, scl (g i j) = some (gv i j)) : Op2 c τ (rI0 gv) (sI (fun _ _ => true) g) := by
  intro H0 res t e fp σ H x y v w qv qw z Q G V1 V2 ev k
  obtain ⟨i, j, a1, a2, _, a4⟩ := op2_I (C := fun _ _ => true) (C' := fun _ _ => True) (fun _ _ _ => trivial) hg H0 res t e fp σ H x y v w qv qw z Q G V1 V2 ev k
  exact ⟨i, j, a1, a2, a4⟩
def sSub := sI (fun _ _ => true) fun i j => .int (i - j)
def bnd (i : Int) : Bool := decide (-(2 ^ 64) < i ∧ i < 2 ^ 64)
def sFdiv := sI (fun _ j => decide (0 < j ∧ j < 1073741824)) fun i j => .int (i / j)
def sMod := sI (fun _ j => decide (0 < j)) fun i j => .int (i % j)
def sLt := sI (fun _ _ => true) fun i j => .bl (decide (i < j))
def sLe := sI (fun _ _ => true) fun i j => .bl (decide (i ≤ j))
def sGt := sI (fun _ _ => true) fun i j => .bl (decide (j < i))
def sGe := sI (fun _ _ => true) fun i j => .bl (decide (j ≤ i))
section
variable {X : Cx} {a b : Expr} {pos : Pos} {f g : Ex τ} (ha : PE X a (rd c f)) (hb : PE X b (rd c g))
include ha hb
theorem d_sub : PE X (.BinOp a .Sub b pos) (rd c (x2 sSub f g)) := d_op (op2_I0 (g := fun i j => .int (i - j)) fun _ _ => rfl) op_sub ha hb
theorem d_lt : PE X (.Compare a [.Lt] [b] pos) (rd c (x2 sLt f g)) := d_cmp (op2_I0 (g := fun i j => .bl (decide (i < j))) fun _ _ => rfl) op_lt (nomark _) ha hb
theorem d_le : PE X (.Compare a [.LtE] [b] pos) (rd c (x2 sLe f g)) := d_cmp (op2_I0 (g := fun i j => .bl (decide (i ≤ j))) fun _ _ => rfl) op_le (nomark _) ha hb
theorem d_gt : PE X (.Compare a [.Gt] [b] pos) (rd c (x2 sGt f g)) := d_cmp (op2_I0 (g := fun i j => .bl (decide (j < i))) fun _ _ => rfl) op_gt (nomark _) ha hb
theorem d_ge : PE X (.Compare a [.GtE] [b] pos) (rd c (x2 sGe f g)) := d_cmp (op2_I0 (g := fun i j => .bl (decide (j ≤ i))) fun _ _ => rfl) op_ge (nomark _) ha hb
end
theorem d_int {X : Cx} {i : Int} {j : Nat} {pos : Pos} : PE X (.Constant (.int i) j pos) (rd c (xC (τ := τ) (.int i))) := imE pe_int fun σ H Q h => by
  obtain ⟨H0, res, t, e, fp, t', e', x, G, ev, k⟩ := h
  cases ev
  exact k H fp _ [] SameT.rf Sub.rf G (scl_ok rfl)
theorem d_bl {X : Cx} {i : Bool} {j : Nat} {pos : Pos} : PE X (.Constant (.bool i) j pos) (rd c (xC (τ := τ) (.bl i))) := imE pe_bl fun σ H Q h => by
  obtain ⟨H0, res, t, e, fp, t', e', x, G, ev, k⟩ := h
  cases ev
  exact k H fp _ [] SameT.rf Sub.rf G (scl_ok rfl)
theorem d_non {X : Cx} {j : Nat} {pos : Pos} : PE X (.Constant .none j pos) (rd c (xC (τ := τ) .non)) := imE pe_non fun σ H Q h => by
  obtain ⟨H0, res, t, e, fp, t', e', x, G, ev, k⟩ := h
  cases ev
  exact k H fp _ [] SameT.rf Sub.rf G (scl_ok rfl)
theorem d_str {X : Cx} {i : Str} {j : Nat} {pos : Pos} : PE X (.Constant (.str i) j pos) (rd c (xC (τ := τ) (.str i))) := imE pe_str fun σ H Q h => by
  obtain ⟨H0, res, t, e, fp, t', e', x, G, ev, k⟩ := h
  cases ev
  exact k H fp _ [] SameT.rf Sub.rf G (scl_ok rfl)
end
end Fw
set_option Elab.async false
set_option linter.all false
set_option maxRecDepth 100000
namespace Fw
open PySem L2
mutual
def py : D → PyData
  | .non => .none
  | .bl b => .bool b
  | .int i => .int i
  | .str x => .str x
  | .tok => .none
  | .dct => .none
  | .tup xs => .tuple (pyA xs)
  | .lst xs => .list (pyA xs)
  | .dk _ _ => .none
def pyA : List D → List PyData
  | [] => []
  | d :: ds => py d :: pyA ds
end
/-- data that may be compared: no tape, at most so deep -/
def cok : Nat → D → Bool
  | _, .non => true
  | _, .bl _ => true
  | _, .int _ => true
  | _, .str x => PyData.strOk x
  | _, .tok => false
  | _, .dct => false
  | _, .dk _ _ => false
  | 0, .tup _ => false
  | n + 1, .tup ds => ds.all (cok n)
  | 0, .lst _ => false
  | n + 1, .lst ds => ds.all (cok n)
theorem cok_dep : ∀ (n : Nat) (d : D), cok n d = true → (py d).canLay0 = true ∧ (py d).depth ≤ n + 1 := by
  have all : ∀ (n : Nat) (ds : List D), (∀ d, d ∈ ds → (py d).canLay0 = true ∧ (py d).depth ≤ n) → PyData.canLayAll0 (pyA ds) = true ∧ PyData.depthAll (pyA ds) ≤ n := by
    intro n ds
    induction ds with
    | nil => intro _; exact ⟨by simp [pyA, PyData.canLayAll0], by simp [pyA, PyData.depthAll]⟩
    | cons d ds ih =>
      intro h
      obtain ⟨a, b⟩ := h d List.mem_cons_self
      obtain ⟨a', b'⟩ := ih fun x m => h x (List.mem_cons_of_mem _ m)
      refine ⟨by simp [pyA, PyData.canLayAll0, a, a'], ?_⟩
      simp only [pyA, PyData.depthAll]
      omega
  intro n
  induction n with
  | zero =>
    intro d h
    cases d <;> simp [cok] at h <;> simp [py, PyData.canLay0, PyData.depth, h]
  | succ n ih =>
    intro d h
    cases d with
    | tup ds =>
      have h' : ds.all (cok n) = true := h
      rw [List.all_eq_true] at h'
      obtain ⟨a, b⟩ := all (n + 1) ds fun d m => ih d (h' d m)
      refine ⟨by simp [py, PyData.canLay0, a], ?_⟩
      simp only [py, PyData.depth]
      omega
    | lst ds =>
      have h' : ds.all (cok n) = true := h
      rw [List.all_eq_true] at h'
      obtain ⟨a, b⟩ := all (n + 1) ds fun d m => ih d (h' d m)
      refine ⟨by simp [py, PyData.canLay0, a], ?_⟩
      simp only [py, PyData.depth]
      omega
    | non => simp [py, PyData.canLay0, PyData.depth]
    | bl _ => simp [py, PyData.canLay0, PyData.depth]
    | int _ => simp [py, PyData.canLay0, PyData.depth]
    | str x => simp [cok] at h; simp [py, PyData.canLay0, PyData.depth, h]
    | tok => simp [cok] at h
    | dct => simp [cok] at h
    | dk _ _ => simp [cok] at h
theorem cok_shaped {n : Nat} {d : D} (h : cok n d = true) (hn : n ≤ 60) : SeqAt.shaped (py d) = true := by
  obtain ⟨a, b⟩ := cok_dep n d h
  unfold SeqAt.shaped
  rw [a, Bool.true_and]
  exact decide_eq_true (by omega)
def deq (d e : D) : Bool := PyData.eqv (py d) (py e)
section
variable {K : PySem.W.Frag} {T : Addr × Addr} {H : Hp} {A : Addr → Prop}
theorem TupAt.sq {a : Addr} {xs : List V} (h : TupAt K T H a xs) : SqT K H a xs := .inl (.inl h.2)
theorem LstAt.sq {a : Addr} {xs : List V} (h : LstAt K H A a (.lst xs)) : SqL K H a xs := .inl (.inl h.2)
theorem Rp.dp : ∀ (n : Nat) (d : D) (v : V), cok n d = true → Rp K T H A d v → Dp K H v (py d) := by
  have all : ∀ (n : Nat) (ds : List D) (vs : List V), (∀ d, d ∈ ds → ∀ v, Rp K T H A d v → Dp K H v (py d)) → RpA K T H A ds vs → DpAll K H vs (pyA ds) := by
    intro n ds
    induction ds with
    | nil => intro vs _ h; rw [show vs = [] from h]; exact .nil
    | cons d ds ih =>
      intro vs h r
      obtain ⟨v, r', e, a, b⟩ := r
      rw [e]
      exact .cons (h d List.mem_cons_self v a) (ih r' (fun x m => h x (List.mem_cons_of_mem _ m)) b)
  intro n
  induction n with
  | zero =>
    intro d v h r
    cases d <;> first | (simp [cok] at h; done) | (rw [show v = _ from r]; constructor)
  | succ n ih =>
    intro d v h r
    cases d with
    | tup ds =>
      have h' : ds.all (cok n) = true := h
      rw [List.all_eq_true] at h'
      obtain ⟨a, xs, e, t, l, r'⟩ := r
      rw [e]
      exact .tup t.sq (all n ds xs (fun d m v r => ih d v (h' d m) r) r')
    | lst ds =>
      have h' : ds.all (cok n) = true := h
      rw [List.all_eq_true] at h'
      obtain ⟨a, xs, e, t, l, r'⟩ := r
      rw [e]
      exact .lst t.sq (all n ds xs (fun d m v r => ih d v (h' d m) r) r')
    | non => rw [show v = _ from r]; exact .non
    | bl _ => rw [show v = _ from r]; exact .bl _
    | int _ => rw [show v = _ from r]; exact .int _
    | str _ => rw [show v = _ from r]; exact .str _
    | tok => simp [cok] at h
    | dct => simp [cok] at h
    | dk _ _ => simp [cok] at h
end
section
variable {τ : Type} [Tp τ]
variable {c : Cz} {res res' q q' : List Addr} {t t' : τ} {e e' : Slots} {fp fp' : FP} {σ : L2.St} {H H' H0 : Hp} {x y z : GD} {v w : V}
theorem bsc {b : Bool} : VOk c H0 res fp H (.own, .bl b) (.bl b) [] := scl_ok rfl
theorem isc {b : Int} : VOk c H0 res fp H (.own, .int b) (.int b) [] := scl_ok rfl
/-- both values may be compared, the answer is a scalar -/
def sEq (neg : Bool) : GD → GD → Option GD := fun x y => if cok 8 x.2 && cok 8 y.2 then some (.own, .bl (neg ^^ deq x.2 y.2)) else none
theorem op2_eq : Op2 c τ (rEqD c.K) (sEq false) := by
  intro H0 res t e fp σ H x y v w qv qw z Q G V1 V2 ev k
  unfold sEq at ev
  split at ev
  · rename_i h
    rw [Bool.and_eq_true] at h
    cases ev
    refine ⟨py x.2, py y.2, V1.rp.dp 8 _ _ h.1, V2.rp.dp 8 _ _ h.2, cok_shaped h.1 (by decide), cok_shaped h.2 (by decide), ?_⟩
    exact k H _ [] SameT.rf (G.less fun a m => List.mem_append_right _ (List.mem_append_right _ m)) (by rw [Bool.false_xor]; exact bsc)
  · cases ev
theorem op2_ne : Op2 c τ (rNeD c.K) (sEq true) := by
  intro H0 res t e fp σ H x y v w qv qw z Q G V1 V2 ev k
  unfold sEq at ev
  split at ev
  · rename_i h
    rw [Bool.and_eq_true] at h
    cases ev
    refine ⟨py x.2, py y.2, V1.rp.dp 8 _ _ h.1, V2.rp.dp 8 _ _ h.2, cok_shaped h.1 (by decide), cok_shaped h.2 (by decide), ?_⟩
    exact k H _ [] SameT.rf (G.less fun a m => List.mem_append_right _ (List.mem_append_right _ m)) (by rw [Bool.true_xor]; exact bsc)
  · cases ev
/-- is, is not of bools or with None on the right -/
def sIs (neg : Bool) : GD → GD → Option GD
  | (_, .bl a), (_, .bl b) => some (.own, .bl (neg ^^ decide (a = b)))
  | _, _ => none
theorem op2_is : Op2 c τ rIsB (sIs false) := by
  intro H0 res t e fp σ H x y v w qv qw z Q G V1 V2 ev k
  unfold sIs at ev
  split at ev
  · cases ev
    exact ⟨_, _, V1.rp, V2.rp, k H _ [] SameT.rf (G.less fun a m => List.mem_append_right _ (List.mem_append_right _ m)) (by rw [Bool.false_xor]; exact bsc)⟩
  · cases ev
theorem op2_nis : Op2 c τ rNotB (sIs true) := by
  intro H0 res t e fp σ H x y v w qv qw z Q G V1 V2 ev k
  unfold sIs at ev
  split at ev
  · cases ev
    exact ⟨_, _, V1.rp, V2.rp, k H _ [] SameT.rf (G.less fun a m => List.mem_append_right _ (List.mem_append_right _ m)) (by rw [Bool.true_xor]; exact bsc)⟩
  · cases ev
def isN : D → Bool | .non => true | _ => false
theorem isN_rp {A : Addr → Prop} {d : D} {K : PySem.W.Frag} {T : Addr × Addr} (h : Rp K T H A d v) : decide (v = .non) = isN d := by
  cases d with
  | non => rw [show v = _ from h]; rfl
  | bl _ => rw [show v = _ from h]; rfl
  | int _ => rw [show v = _ from h]; rfl
  | str _ => rw [show v = _ from h]; rfl
  | tok => rw [show v = _ from h]; rfl
  | dct => obtain ⟨a, e, _⟩ := h; rw [e]; rfl
  | dk _ _ => obtain ⟨a, _, e, _⟩ := h; rw [e]; rfl
  | tup _ => obtain ⟨a, _, e, _⟩ := h; rw [e]; rfl
  | lst _ => obtain ⟨a, _, e, _⟩ := h; rw [e]; rfl
def sIsN (neg : Bool) : GD → GD → Option GD
  | (_, d), (_, .non) => some (.own, .bl (neg ^^ isN d))
  | _, _ => none
theorem op2_isN : Op2 c τ (fun x y H Q => y = .non ∧ Q (.bl (decide (x = .non))) H) (sIsN false) := by
  intro H0 res t e fp σ H x y v w qv qw z Q G V1 V2 ev k
  unfold sIsN at ev
  split at ev
  · cases ev
    exact ⟨V2.rp, by rw [isN_rp V1.rp]; exact k H _ [] SameT.rf (G.less fun a m => List.mem_append_right _ (List.mem_append_right _ m)) (by rw [Bool.false_xor]; exact bsc)⟩
  · cases ev
theorem op2_nisN : Op2 c τ (fun x y H Q => y = .non ∧ Q (.bl (!decide (x = .non))) H) (sIsN true) := by
  intro H0 res t e fp σ H x y v w qv qw z Q G V1 V2 ev k
  unfold sIsN at ev
  split at ev
  · cases ev
    exact ⟨V2.rp, by rw [isN_rp V1.rp]; exact k H _ [] SameT.rf (G.less fun a m => List.mem_append_right _ (List.mem_append_right _ m)) (by rw [Bool.true_xor]; exact bsc)⟩
  · cases ev
section
variable {X : Cx} {a b : Expr} {pos : Pos} {f g : Ex τ} (hk : X.K = c.K) (hu : X.A.units + 64 < cLine) (ha : PE X a (rd c f)) (hb : PE X b (rd c g))
include ha hb
include hk hu in
theorem d_eq : PE X (.Compare a [.Eq] [b] pos) (rd c (x2 (sEq false) f g)) := d_cmp op2_eq (hk ▸ op_eqD hu) (nomark _) ha hb
theorem d_is : PE X (.Compare a [.Is] [b] pos) (rd c (x2 (sIs false) f g)) := d_cmp op2_is op_isBl (nomark _) ha hb
theorem d_isN : PE X (.Compare a [.Is] [b] pos) (rd c (x2 (sIsN false) f g)) := d_cmp op2_isN op_isN (nomark _) ha hb
end
def up (g : Gr) (x : D) : GD := (if imm x then .own else if g = .pk then .pk else .frz, x)
theorem up_ok {g : Gr} {d x : D} {A : Addr → Prop} (hA : g ≠ .pk → A = Fz c.T res fp) (h1 : ∀ a, A a → Fr1 c.T a) (h : Rp c.K c.T H A x v) : VOk c H0 res fp H (up g x) v [] := by
  unfold up
  by_cases hi : imm x = true
  · rw [if_pos hi]; exact VOk.imm h hi
  · rw [if_neg hi]
    by_cases hg : g = .pk
    · rw [if_pos hg]; exact ⟨rfl, h.same SameT.rf fun a z => ⟨h1 a z, fun _ => h1 a z⟩⟩
    · rw [if_neg hg]; exact ⟨rfl, hA hg ▸ h⟩
/-- any value read at the best that it allows -/
theorem VOk.best (V : VOk c H0 res fp H x v q) : ∃ A : Addr → Prop, (x.1 ≠ .pk → A = Fz c.T res fp) ∧ (∀ a, A a → Fr1 c.T a) ∧ Rp c.K c.T H A x.2 v := by
  by_cases h : x.1 = .pk
  · exact ⟨Fr1 c.T, fun z => absurd h z, fun _ z => z, V.rp⟩
  · exact ⟨Fz c.T res fp, fun _ => rfl, fun _ z => z.1, V.frz h⟩
theorem ix_get {ds : List D} {xs : List V} {A : Addr → Prop} {K : PySem.W.Frag} {T : Addr × Addr} {i : Int} {d : D} (h : RpA K T H A ds xs) (e : L2.atI ds i = some d) : ∃ v, L2.atI xs i = some v ∧ Rp K T H A d v := by
  unfold L2.atI at e ⊢
  rw [h.len]
  rw [Option.bind_eq_some_iff] at e
  obtain ⟨j, e1, e2⟩ := e
  obtain ⟨v, h1, h2⟩ := h.get e2
  exact ⟨v, by rw [e1]; exact h1, h2⟩
def sIdx : GD → GD → Option GD
  | (g, .tup ds), (_, .int i) => (L2.atI ds i).map (up g)
  | (g, .lst ds), (_, .int i) => (L2.atI ds i).map (up g)
  | _, _ => none
theorem op2_idx : Op2 c τ (rIx c.K) sIdx := by
  intro H0 res t e fp σ H x y v w qv qw z Q G V1 V2 ev k
  have fin : ∀ {g : Gr} {d : D} {A : Addr → Prop} {u : V}, (g ≠ .pk → A = Fz c.T res fp) → (∀ a, A a → Fr1 c.T a) → Rp c.K c.T H A d u → up g d = z → Q u H := fun {g d A u} a1 a2 a3 a4 =>
    k H u [] SameT.rf (G.less fun a m => List.mem_append_right _ (List.mem_append_right _ m)) (a4 ▸ up_ok (d := d) a1 a2 a3)
  unfold sIdx at ev
  split at ev
  · rename_i g ds gy i
    rw [Option.map_eq_some_iff] at ev
    obtain ⟨d, e1, e2⟩ := ev
    obtain ⟨A, h1, h2, r⟩ := V1.best
    obtain ⟨a, xs, hv, ht, hl, hr⟩ := r
    obtain ⟨u, h3, h4⟩ := ix_get hr e1
    exact .inr (.inl ⟨a, xs, i, u, hv, V2.rp, ht.sq, h3, fin h1 h2 h4 e2⟩)
  · rename_i g ds gy i
    rw [Option.map_eq_some_iff] at ev
    obtain ⟨d, e1, e2⟩ := ev
    obtain ⟨A, h1, h2, r⟩ := V1.best
    obtain ⟨a, xs, hv, ht, hl, hr⟩ := r
    obtain ⟨u, h3, h4⟩ := ix_get hr e1
    exact .inl ⟨a, xs, i, u, hv, V2.rp, ht.sq, h3, fin h1 h2 h4 e2⟩
  · cases ev
theorem d_idx {X : Cx} {a b : Expr} {pos : Pos} {f g : Ex τ} (hk : X.K = c.K) (hs : PlainIx b) (ha : PE X a (rd c f)) (hb : PE X b (rd c g)) : PE X (.Subscript a b pos) (rd c (x2 sIdx f g)) :=
  imE (pe_ix (hk ▸ ix_seq) ha hb hs) fun σ H Q h => x2_run op2_idx h
end
end Fw
set_option Elab.async false
set_option linter.all false
set_option maxRecDepth 100000
namespace Fw
open PySem L2
section
variable {τ : Type} [Tp τ]
variable {c : Cz} {res res' q q' : List Addr} {t t' : τ} {e e' : Slots} {fp fp' : FP} {σ : L2.St} {H H' H0 : Hp} {x y z : GD} {v w : V}
abbrev Tx (τ : Type) := τ → Slots → Option (τ × Slots × Bool)
def rdT (c : Cz) (f : Tx τ) : TT := fun σ H Q => ∃ H0 res t e fp t' e' b, Good c H0 res t e fp σ H ∧ f t e = some (t', e', b) ∧
  ∀ H' fp', SameT c.T H H' → Sub fp' fp → Good c H0 res t' e' fp' σ H' → Q b H'
def tru : D → Option Bool
  | .non => some false
  | .bl b => some b
  | .int i => some (i != 0)
  | .tup xs => some (!xs.isEmpty)
  | .lst xs => some (!xs.isEmpty)
  | _ => none
def xT (f : Ex τ) : Tx τ := fun t e => (f t e).bind fun (t1, e1, x) => (tru x.2).map fun b => (t1, e1, b)
def xB (f : Ex τ) : Tx τ := fun t e => (f t e).bind fun (t1, e1, x) => match x.2 with | .bl b => some (t1, e1, b) | _ => none
def xAndT (f g : Tx τ) : Tx τ := fun t e => (f t e).bind fun (t1, e1, b) => if b then g t1 e1 else some (t1, e1, false)
def xOrT (f g : Tx τ) : Tx τ := fun t e => (f t e).bind fun (t1, e1, b) => if b then some (t1, e1, true) else g t1 e1
def xNotT (f : Tx τ) : Tx τ := fun t e => (f t e).map fun (t1, e1, b) => (t1, e1, !b)
theorem isEmpty_len {α β : Type} {xs : List α} {ys : List β} (h : xs.length = ys.length) : xs.isEmpty = ys.isEmpty := by
  cases xs <;> cases ys <;> simp at h <;> rfl
theorem tru_rp {A : Addr → Prop} {d : D} {b : Bool} {K : PySem.W.Frag} {T : Addr × Addr} (h : Rp K T H A d v) (e : tru d = some b) : TruV K v H b := by
  cases d with
  | non => rw [show v = _ from h]; cases e; rfl
  | bl _ => rw [show v = _ from h]; cases e; rfl
  | int _ => rw [show v = _ from h]; cases e; rfl
  | str _ => cases e
  | tok => cases e
  | dct => cases e
  | dk _ _ => cases e
  | tup ds =>
    obtain ⟨a, xs, ev, ht, _, r⟩ := h
    rw [ev]
    cases e
    exact .inr (.inl ⟨xs, ht.sq, by rw [isEmpty_len r.len]⟩)
  | lst ds =>
    obtain ⟨a, xs, ev, ht, _, r⟩ := h
    rw [ev]
    cases e
    exact .inl ⟨xs, ht.sq, by rw [isEmpty_len r.len]⟩
theorem t_tru {X : Cx} {a : Expr} {f : Ex τ} (hk : X.K = c.K) (ha : PE X a (rd c f)) (he : ∀ whole, isTrue a X.env whole = (do let v ← whole; standAt a.pos; holding [v] (truthy v)) := by intro _; rfl) : PT X a (rdT c (xT f)) := imT (pt_truth ha he) fun σ H Q h => by
  obtain ⟨H0, res, t, e, fp, t', e', b, G, ev, k⟩ := h
  unfold xT at ev
  rw [Option.bind_eq_some_iff] at ev
  obtain ⟨⟨t1, e1, x⟩, ev1, ev⟩ := ev
  rw [Option.map_eq_some_iff] at ev
  obtain ⟨b', ev2, ev⟩ := ev
  cases ev
  refine ⟨H0, res, t, e, fp, t', e', x, G, ev1, fun H1 fp1 v q s1 b1 G1 V1 => ⟨b, hk ▸ tru_rp V1.rp ev2, ?_⟩⟩
  exact k H1 fp1 s1 b1 (G1.less fun a m => List.mem_append_right _ m)
/-- a comparison as a test, whose answer is a bool -/
theorem t_cmp {X : Cx} {op : CmpOp} {r : R2} {s : GD → GD → Option GD} {a b : Expr} {pos : Pos} {f g : Ex τ} (hs : Op2 c τ r s) (ho : OpR X (compareOp op) r) (hm : behindInMarks op b = false) (ha : PE X a (rd c f)) (hb : PE X b (rd c g)) :
    PT X (.Compare a [op] [b] pos) (rdT c (xB (x2 s f g))) := imT (pt_cmpR ho ha hb hm) fun σ H Q h => by
  obtain ⟨H0, res, t, e, fp, t', e', b, G, ev, k⟩ := h
  unfold xB at ev
  rw [Option.bind_eq_some_iff] at ev
  obtain ⟨⟨t1, e1, g1, d1⟩, ev1, ev⟩ := ev
  cases d1 with
  | bl b' =>
    cases ev
    refine x2_run hs ⟨H0, res, t, e, fp, t', e', _, G, ev1, fun H1 fp1 v q s1 b1 G1 V1 => ⟨b, V1.rp, ?_⟩⟩
    exact k H1 fp1 s1 b1 (G1.less fun a m => List.mem_append_right _ m)
  | _ => cases ev
section
variable {X : Cx} {a b : Expr} {pos : Pos} {f g : Ex τ} (hk : X.K = c.K) (hu : X.A.units + 64 < cLine) (ha : PE X a (rd c f)) (hb : PE X b (rd c g))
include ha hb
theorem t_lt : PT X (.Compare a [.Lt] [b] pos) (rdT c (xB (x2 sLt f g))) := t_cmp (op2_I0 (g := fun i j => .bl (decide (i < j))) fun _ _ => rfl) op_lt (nomark _) ha hb
theorem t_le : PT X (.Compare a [.LtE] [b] pos) (rdT c (xB (x2 sLe f g))) := t_cmp (op2_I0 (g := fun i j => .bl (decide (i ≤ j))) fun _ _ => rfl) op_le (nomark _) ha hb
theorem t_gt : PT X (.Compare a [.Gt] [b] pos) (rdT c (xB (x2 sGt f g))) := t_cmp (op2_I0 (g := fun i j => .bl (decide (j < i))) fun _ _ => rfl) op_gt (nomark _) ha hb
theorem t_ge : PT X (.Compare a [.GtE] [b] pos) (rdT c (xB (x2 sGe f g))) := t_cmp (op2_I0 (g := fun i j => .bl (decide (j ≤ i))) fun _ _ => rfl) op_ge (nomark _) ha hb
include hk hu in
theorem t_eq : PT X (.Compare a [.Eq] [b] pos) (rdT c (xB (x2 (sEq false) f g))) := t_cmp op2_eq (hk ▸ op_eqD hu) (nomark _) ha hb
include hk hu in
theorem t_ne : PT X (.Compare a [.NotEq] [b] pos) (rdT c (xB (x2 (sEq true) f g))) := t_cmp op2_ne (hk ▸ op_neD hu) (nomark _) ha hb
theorem t_nis : PT X (.Compare a [.IsNot] [b] pos) (rdT c (xB (x2 (sIs true) f g))) := t_cmp op2_nis op_notBl (nomark _) ha hb
theorem t_isN : PT X (.Compare a [.Is] [b] pos) (rdT c (xB (x2 (sIsN false) f g))) := t_cmp op2_isN op_isN (nomark _) ha hb
theorem t_nisN : PT X (.Compare a [.IsNot] [b] pos) (rdT c (xB (x2 (sIsN true) f g))) := t_cmp op2_nisN op_notN (nomark _) ha hb
end
theorem xAndT_run {f g : Tx τ} {Q : Bool → Hp → Prop} (h : rdT c (xAndT f g) σ H Q) : tAnd (rdT c f) (rdT c g) σ H Q := by
  obtain ⟨H0, res, t, e, fp, t', e', b, G, ev, k⟩ := h
  unfold xAndT at ev
  rw [Option.bind_eq_some_iff] at ev
  obtain ⟨⟨t1, e1, b1⟩, ev1, ev⟩ := ev
  refine ⟨H0, res, t, e, fp, t1, e1, b1, G, ev1, fun H1 fp1 s1 u1 G1 => ?_⟩
  cases b1 with
  | true =>
    rw [if_pos rfl]
    exact ⟨H0, res, t1, e1, fp1, t', e', b, G1, ev, fun H2 fp2 s2 u2 G2 => k H2 fp2 (s1.tr s2) (u1.tr u2) G2⟩
  | false =>
    rw [if_neg Bool.false_ne_true]
    cases ev
    exact k H1 fp1 s1 u1 G1
theorem xOrT_run {f g : Tx τ} {Q : Bool → Hp → Prop} (h : rdT c (xOrT f g) σ H Q) : tOr (rdT c f) (rdT c g) σ H Q := by
  obtain ⟨H0, res, t, e, fp, t', e', b, G, ev, k⟩ := h
  unfold xOrT at ev
  rw [Option.bind_eq_some_iff] at ev
  obtain ⟨⟨t1, e1, b1⟩, ev1, ev⟩ := ev
  refine ⟨H0, res, t, e, fp, t1, e1, b1, G, ev1, fun H1 fp1 s1 u1 G1 => ?_⟩
  cases b1 with
  | false =>
    rw [if_neg Bool.false_ne_true]
    exact ⟨H0, res, t1, e1, fp1, t', e', b, G1, ev, fun H2 fp2 s2 u2 G2 => k H2 fp2 (s1.tr s2) (u1.tr u2) G2⟩
  | true =>
    rw [if_pos rfl]
    cases ev
    exact k H1 fp1 s1 u1 G1
section
variable {X : Cx} {a b : Expr} {rest : List Expr} {pos : Pos} {f g : Tx τ}
theorem w_and1 (ha : PT X a (rdT c f)) : PW X (.BoolOp .And [a] pos) (rdT c f) := pw_and1 ha
theorem w_or1 (ha : PT X a (rdT c f)) : PW X (.BoolOp .Or [a] pos) (rdT c f) := pw_or1 ha
theorem w_and (ha : PT X a (rdT c f)) (hb : PW X (.BoolOp .And (b :: rest) pos) (rdT c g)) : PW X (.BoolOp .And (a :: b :: rest) pos) (rdT c (xAndT f g)) := imW (pw_and ha hb) fun _ _ _ h => xAndT_run h
theorem w_or (ha : PT X a (rdT c f)) (hb : PW X (.BoolOp .Or (b :: rest) pos) (rdT c g)) : PW X (.BoolOp .Or (a :: b :: rest) pos) (rdT c (xOrT f g)) := imW (pw_or ha hb) fun _ _ _ h => xOrT_run h
theorem t_w {ex : Expr} (h : PW X ex (rdT c f)) : PT X ex (rdT c f) := h.pt
theorem t_not (ha : PT X a (rdT c f)) : PT X (.UnaryOp .Not a pos) (rdT c (xNotT f)) := imT (pt_not ha) fun σ H Q h => by
  obtain ⟨H0, res, t, e, fp, t', e', b, G, ev, k⟩ := h
  unfold xNotT at ev
  rw [Option.map_eq_some_iff] at ev
  obtain ⟨⟨t1, e1, b1⟩, ev1, ev⟩ := ev
  cases ev
  exact ⟨H0, res, t, e, fp, t', e', b1, G, ev1, k⟩
def xAnd (f g : Ex τ) : Ex τ := fun t e => (f t e).bind fun (t1, e1, x) => match x.2 with | .bl true => g t1 e1 | .bl false => some (t1, e1, .own, .bl false) | _ => none
def xOr (f g : Ex τ) : Ex τ := fun t e => (f t e).bind fun (t1, e1, x) => match x.2 with | .bl false => g t1 e1 | .bl true => some (t1, e1, .own, .bl true) | _ => none
def xNot (f : Ex τ) : Ex τ := fun t e => (f t e).bind fun (t1, e1, x) => match x.2 with | .bl b => some (t1, e1, .own, .bl (!b)) | _ => none
theorem d_one {op : BoolOp} {f : Ex τ} (ha : PE X a (rd c f)) : PE X (.BoolOp op [a] pos) (rd c f) := pe_one ha
theorem d_and {f g : Ex τ} (ha : PE X a (rd c f)) (hb : PE X (.BoolOp .And (b :: rest) pos) (rd c g)) : PE X (.BoolOp .And (a :: b :: rest) pos) (rd c (xAnd f g)) := imE (pe_and ha hb) fun σ H Q h => by
  obtain ⟨H0, res, t, e, fp, t', e', z, G, ev, k⟩ := h
  unfold xAnd at ev
  rw [Option.bind_eq_some_iff] at ev
  obtain ⟨⟨t1, e1, g1, d1⟩, ev1, ev⟩ := ev
  refine ⟨H0, res, t, e, fp, t1, e1, _, G, ev1, fun H1 fp1 v q s1 u1 G1 V1 => ?_⟩
  have G1' := G1.less (res' := res) fun a m => List.mem_append_right _ m
  cases d1 with
  | bl b' =>
    refine ⟨b', V1.rp, ?_⟩
    cases b' with
    | true => rw [if_pos rfl]; exact ⟨H0, res, t1, e1, fp1, t', e', z, G1', ev, fun H2 fp2 v2 q2 s2 u2 G2 V2 => k H2 fp2 v2 q2 (s1.tr s2) (u1.tr u2) G2 V2⟩
    | false => rw [if_neg Bool.false_ne_true]; cases ev; exact k H1 fp1 _ [] s1 u1 G1' bsc
  | _ => cases ev
theorem d_not {f : Ex τ} (ha : PE X a (rd c f)) : PE X (.UnaryOp .Not a pos) (rd c (xNot f)) := imE (pe_not ha) fun σ H Q h => by
  obtain ⟨H0, res, t, e, fp, t', e', z, G, ev, k⟩ := h
  unfold xNot at ev
  rw [Option.bind_eq_some_iff] at ev
  obtain ⟨⟨t1, e1, g1, d1⟩, ev1, ev⟩ := ev
  refine ⟨H0, res, t, e, fp, t1, e1, _, G, ev1, fun H1 fp1 v q s1 u1 G1 V1 => ?_⟩
  cases d1 with
  | bl b' => cases ev; exact ⟨b', V1.rp, k H1 fp1 _ [] s1 u1 (G1.less fun a m => List.mem_append_right _ m) bsc⟩
  | _ => cases ev
def xIf (t : Tx τ) (f g : Ex τ) : Ex τ := fun s e => (t s e).bind fun (s1, e1, b) => if b then f s1 e1 else g s1 e1
theorem d_if {cd : Expr} {p : Tx τ} {f g : Ex τ} (hc : PT X cd (rdT c p)) (ha : PE X a (rd c f)) (hb : PE X b (rd c g)) : PE X (.IfExp cd a b pos) (rd c (xIf p f g)) := imE (pe_ifExp hc ha hb) fun σ H Q h => by
  obtain ⟨H0, res, t, e, fp, t', e', z, G, ev, k⟩ := h
  unfold xIf at ev
  rw [Option.bind_eq_some_iff] at ev
  obtain ⟨⟨t1, e1, b1⟩, ev1, ev⟩ := ev
  refine ⟨H0, res, t, e, fp, t1, e1, b1, G, ev1, fun H1 fp1 s1 u1 G1 => ?_⟩
  cases b1 with
  | true => rw [if_pos rfl]; exact ⟨H0, res, t1, e1, fp1, t', e', z, G1, ev, fun H2 fp2 v2 q2 s2 u2 G2 V2 => k H2 fp2 v2 q2 (s1.tr s2) (u1.tr u2) G2 V2⟩
  | false => rw [if_neg Bool.false_ne_true]; exact ⟨H0, res, t1, e1, fp1, t', e', z, G1, ev, fun H2 fp2 v2 q2 s2 u2 G2 V2 => k H2 fp2 v2 q2 (s1.tr s2) (u1.tr u2) G2 V2⟩
/-- a comparison chain of ints: lo <= v <= hi -/
def xCh (p1 p2 : Int → Int → Bool) (f g h : Ex τ) : Ex τ := fun t e => (f t e).bind fun (t1, e1, x) => (g t1 e1).bind fun (t2, e2, y) => match x.2, y.2 with
  | .int i, .int j => if p1 i j then (h t2 e2).bind fun (t3, e3, z) => match z.2 with
      | .int k => some (t3, e3, .own, .bl (p2 j k))
      | _ => none
    else some (t2, e2, .own, .bl false)
  | _, _ => none
theorem d_chain {X : Cx} {o1 o2 : CmpOp} {p1 p2 : Int → Int → Bool} {a b d : Expr} {pos : Pos} {f g h : Ex τ} (ho1 : OpR X (compareOp o1) (rI0 fun i j => .bl (p1 i j))) (ho2 : OpR X (compareOp o2) (rI0 fun i j => .bl (p2 i j)))
    (hm : lastMarks [o1, o2] [b, d] = false) (ha : PE X a (rd c f)) (hb : PE X b (rd c g)) (hd : PE X d (rd c h)) : PE X (.Compare a [o1, o2] [b, d] pos) (rd c (xCh p1 p2 f g h)) := imE (pe_chain ho1 ho2 ha hb hd hm) fun σ H Q hh => by
  obtain ⟨H0, res, t, e, fp, t', e', z, G, ev, k⟩ := hh
  unfold xCh at ev
  rw [Option.bind_eq_some_iff] at ev
  obtain ⟨⟨t1, e1, gx, dx⟩, ev1, ev⟩ := ev
  rw [Option.bind_eq_some_iff] at ev
  obtain ⟨⟨t2, e2, gy, dy⟩, ev2, ev⟩ := ev
  refine ⟨H0, res, t, e, fp, t1, e1, _, G, ev1, fun H1 fp1 v qv k1 u1 G1 V1 => ?_⟩
  refine ⟨H0, res, t1, e1, fp1, t2, e2, _, G1.less fun a m => List.mem_append_right _ m, ev2, fun H2 fp2 w qw k2 u2 G2 V2 => ?_⟩
  dsimp only at ev
  split at ev
  · rename_i _ _ i j
    refine ⟨i, j, V1.rp, V2.rp, p1 i j, rfl, ?_⟩
    split at ev
    · rename_i hp
      rw [if_pos hp]
      rw [Option.bind_eq_some_iff] at ev
      obtain ⟨⟨t3, e3, gz, dz⟩, ev3, ev⟩ := ev
      refine ⟨H0, res, t2, e2, fp2, t3, e3, _, G2.less fun a m => List.mem_append_right _ m, ev3, fun H3 fp3 u q k3 u3 G3 V3 => ?_⟩
      dsimp only at ev
      split at ev
      · rename_i _ kk
        cases ev
        exact ⟨j, kk, V2.rp, V3.rp, k H3 fp3 _ [] ((k1.tr k2).tr k3) ((u1.tr u2).tr u3) (G3.less fun a m => List.mem_append_right _ m) bsc⟩
      · cases ev
    · rename_i hp
      rw [if_neg hp]
      cases ev
      exact k H2 fp2 _ [] (k1.tr k2) (u1.tr u2) (G2.less fun a m => List.mem_append_right _ m) bsc
  · cases ev
end
end
end Fw
set_option Elab.async false
set_option linter.all false
set_option maxRecDepth 100000
namespace Fw
open PySem L2
section
variable {τ : Type} [Tp τ]
variable {c : Cz} {res res' q q' : List Addr} {t t' : τ} {e e' : Slots} {fp fp' : FP} {σ : L2.St} {H H' H0 : Hp} {x y z : GD} {v w : V} {xs : List GD} {vs : List V}
abbrev Exs (τ : Type) := τ → Slots → Option (τ × Slots × List GD)
def evA : List (Ex τ) → Exs τ
  | [] => fun t e => some (t, e, [])
  | f :: fs => fun t e => (f t e).bind fun (t1, e1, x) => (evA fs t1 e1).map fun (t2, e2, xs) => (t2, e2, x :: xs)
theorem evA_len : ∀ {fs : List (Ex τ)} {t t' : τ} {e e' : Slots} {xs : List GD}, evA fs t e = some (t', e', xs) → xs.length = fs.length
  | [], _, _, _, _, _, h => by cases h; rfl
  | f :: fs, t, t', e, e', xs, h => by
    unfold evA at h
    rw [Option.bind_eq_some_iff] at h
    obtain ⟨⟨t1, e1, x⟩, _, h⟩ := h
    rw [Option.map_eq_some_iff] at h
    obtain ⟨⟨t2, e2, ys⟩, h2, h⟩ := h
    cases h
    rw [List.length_cons, List.length_cons, evA_len h2]
def VOkA (c : Cz) (H0 : Hp) : List Addr → FP → Hp → List GD → List V → List Addr → Prop
  | _, _, _, [], vs, q => vs = [] ∧ q = []
  | res, fp, H, x :: xs, vs, q => ∃ v r q1 q2, vs = v :: r ∧ q = q1 ++ q2 ∧ VOk c H0 res fp H x v q1 ∧ VOkA c H0 (q1 ++ res) fp H xs r q2
def rdA (c : Cz) (f : Exs τ) : TA := fun σ H Q => ∃ H0 res t e fp t' e' xs, Good c H0 res t e fp σ H ∧ f t e = some (t', e', xs) ∧
  ∀ H' fp' vs q, SameT c.T H H' → Sub fp' fp → Good c H0 (q ++ res) t' e' fp' σ H' → VOkA c H0 res fp' H' xs vs q → Q vs H'
theorem a_nil {X : Cx} : PA X [] (rdA c (evA (τ := τ) [])) := imA pa_nil fun σ H Q h => by
  obtain ⟨H0, res, t, e, fp, t', e', xs, G, ev, k⟩ := h
  cases ev
  exact k H fp [] [] SameT.rf Sub.rf G ⟨rfl, rfl⟩
theorem a_cons {X : Cx} {a : Expr} {as : List Expr} {f : Ex τ} {fs : List (Ex τ)} (ha : PE X a (rd c f)) (hb : PA X as (rdA c (evA fs))) (hs : starEach (a :: as) X.env = (false, eval a X.env) :: starEach as X.env := by rfl) : PA X (a :: as) (rdA c (evA (f :: fs))) := imA (pa_cons ha hb hs) fun σ H Q h => by
  obtain ⟨H0, res, t, e, fp, t', e', xs, G, ev, k⟩ := h
  unfold evA at ev
  rw [Option.bind_eq_some_iff] at ev
  obtain ⟨⟨t1, e1, x⟩, ev1, ev⟩ := ev
  rw [Option.map_eq_some_iff] at ev
  obtain ⟨⟨t2, e2, ys⟩, ev2, ev⟩ := ev
  cases ev
  refine ⟨H0, res, t, e, fp, t1, e1, x, G, ev1, fun H1 fp1 v q1 s1 u1 G1 V1 => ?_⟩
  refine ⟨H0, q1 ++ res, t1, e1, fp1, t', e', ys, G1, ev2, fun H2 fp2 vs q2 s2 u2 G2 V2 => ?_⟩
  refine k H2 fp2 (v :: vs) (q1 ++ q2) (s1.tr s2) (u1.tr u2) (G2.less fun a m => ?_) ⟨v, vs, q1, q2, rfl, rfl, V1.step s2 u2, V2⟩
  simp only [List.mem_append] at m ⊢
  rcases m with (m | m) | m
  · exact .inr (.inl m)
  · exact .inl m
  · exact .inr (.inr m)
theorem VOkA.rp : ∀ {xs : List GD} {res vs q}, VOkA c H0 res fp H xs vs q → RpA c.K c.T H (Fr1 c.T) (xs.map (·.2)) vs
  | [], _, _, _, h => h.1
  | x :: xs, _, _, _, h => by
    obtain ⟨v, r, q1, q2, e1, _, a, b⟩ := h
    exact ⟨v, r, e1, a.rp, VOkA.rp b⟩
theorem VOkA.len : ∀ {xs : List GD} {res vs q}, VOkA c H0 res fp H xs vs q → vs.length = xs.length := fun h => by rw [h.rp.len, List.length_map]
theorem VOkA.frz : ∀ {xs : List GD} {res vs q}, VOkA c H0 res fp H xs vs q → (∀ x ∈ xs, x.1 ≠ .pk) → RpA c.K c.T H (Fz c.T res fp) (xs.map (·.2)) vs
  | [], _, _, _, h, _ => h.1
  | x :: xs, res, _, _, h, k => by
    obtain ⟨v, r, q1, q2, e1, _, a, b⟩ := h
    refine ⟨v, r, e1, a.frz (k x List.mem_cons_self), ?_⟩
    exact (VOkA.frz b fun y m => k y (List.mem_cons_of_mem _ m)).same SameT.rf fun a z => ⟨z.1, fun _ => ⟨z.1, fun m => z.2.1 (List.mem_append_right _ m), z.2.2⟩⟩
theorem VOkA.own : ∀ {xs : List GD} {res vs q}, VOkA c H0 res fp H xs vs q → (∀ x ∈ xs, x.1 = .own) → OwA c.K c.T H (xs.map (·.2)) q vs ∧ q.Nodup ∧ ∀ a, a ∈ q → H0 a = none ∧ ¬ tp c.T a ∧ a ∉ res ∧ ∀ i, a ∉ fp i
  | [], _, _, _, h, _ => by rw [h.2, h.1]; exact ⟨⟨rfl, rfl⟩, List.nodup_nil, fun a m => nomatch m⟩
  | (g, d) :: xs, res, _, _, h, k => by
    obtain ⟨v, r, q1, q2, e1, e2, a, b⟩ := h
    have hg : g = .own := k (g, d) List.mem_cons_self
    subst hg
    obtain ⟨o, n, p⟩ := VOkA.own b fun y m => k y (List.mem_cons_of_mem _ m)
    obtain ⟨o1, n1, p1⟩ := a
    subst e2
    refine ⟨⟨q1, q2, v, r, rfl, e1, o1, o⟩, List.nodup_append.mpr ⟨n1, n, fun x hx y hy z => ?_⟩, fun y m => ?_⟩
    · subst z
      exact (p x hy).2.2.1 (List.mem_append_left _ hx)
    · rcases List.mem_append.mp m with m | m
      · exact p1 y m
      · exact ⟨(p y m).1, (p y m).2.1, fun z => (p y m).2.2.1 (List.mem_append_right _ z), (p y m).2.2.2⟩
def jn2 : Gr → Gr → Gr
  | .own, .own => .own
  | .pk, _ => .pk
  | _, .pk => .pk
  | _, _ => .frz
def jn : List GD → Gr
  | [] => .own
  | x :: xs => jn2 x.1 (jn xs)
theorem jn_own : ∀ {xs : List GD}, jn xs = .own → ∀ x ∈ xs, x.1 = .own
  | x :: xs, h, y, m => by
    have h' : jn2 x.1 (jn xs) = .own := h
    have a : x.1 = .own ∧ jn xs = .own := by
      revert h'; cases x.1 <;> cases jn xs <;> simp [jn2]
    rcases List.mem_cons.mp m with r | r
    · rw [r]; exact a.1
    · exact jn_own a.2 y r
theorem jn_npk : ∀ {xs : List GD}, jn xs ≠ .pk → ∀ x ∈ xs, x.1 ≠ .pk
  | x :: xs, h, y, m => by
    have h' : jn2 x.1 (jn xs) ≠ .pk := h
    have a : x.1 ≠ .pk ∧ jn xs ≠ .pk := by
      revert h'; cases x.1 <;> cases jn xs <;> simp [jn2]
    rcases List.mem_cons.mp m with r | r
    · rw [r]; exact a.1
    · exact jn_npk a.2 y r
/-- a new tuple at p -/
theorem new_tup (G : Good c H0 (q ++ res) t e fp σ H) (V : VOkA c H0 res fp H xs vs q) {p : Addr} (h : H p = none) (hz : vs.length ≤ sizeLine) :
    ∃ q', Good c H0 (q' ++ res) t e fp σ (upd H p (.tup vs)) ∧ VOk c H0 res fp (upd H p (.tup vs)) (jn xs, .tup (xs.map (·.2))) (.ref p) q' := by
  have tu : TupAt c.K c.T (upd H p (.tup vs)) p vs := ⟨G.ntp h, upd_same⟩
  have G' := G.new (o := .tup vs) h
  cases j : jn xs with
  | own =>
    obtain ⟨o, n, k⟩ := V.own (jn_own j)
    exact ⟨q, G', ⟨p, vs, rfl, tu, hz, o.same (SameT.nu h) fun a m => (k a m).2.1⟩, n, k⟩
  | frz =>
    refine ⟨[], G'.less fun a m => List.mem_append_right _ m, rfl, p, vs, rfl, tu, hz, ?_⟩
    exact (V.frz (jn_npk (by rw [j]; decide))).same (SameT.nu h) fun a z => ⟨z.1, fun _ => z⟩
  | pk =>
    refine ⟨[], G'.less fun a m => List.mem_append_right _ m, rfl, p, vs, rfl, tu, hz, ?_⟩
    exact V.rp.same (SameT.nu h) fun a z => ⟨z, fun _ => z⟩
def xTup (fs : List (Ex τ)) : Ex τ := fun t e => (evA fs t e).map fun (t1, e1, xs) => (t1, e1, jn xs, .tup (xs.map (·.2)))
theorem d_tup {X : Cx} {es : List Expr} {k : Nat} {pos : Pos} {fs : List (Ex τ)} (ha : PA X es (rdA c (evA fs))) (hl : Nat.ble fs.length 1000 = true := by rfl) : PE X (.Tuple es k pos) (rd c (xTup fs)) := imE (pe_tup ha) fun σ H Q h => by
  obtain ⟨H0, res, t, e, fp, t', e', z, G, ev, k⟩ := h
  unfold xTup at ev
  rw [Option.map_eq_some_iff] at ev
  obtain ⟨⟨t1, e1, xs⟩, ev1, ev⟩ := ev
  cases ev
  refine ⟨H0, res, t, e, fp, t', e', xs, G, ev1, fun H1 fp1 vs q s1 u1 G1 V1 => ?_⟩
  have hz : vs.length ≤ sizeLine := by
    rw [V1.len, evA_len ev1]
    exact Nat.le_trans (Nat.le_of_ble_eq_true hl) (by decide)
  refine ⟨hz, fun p hp => ?_⟩
  obtain ⟨q', G2, V2⟩ := new_tup G1 V1 hp hz
  exact k _ fp1 _ q' (s1.tr (SameT.nu hp)) u1 G2 V2
/-- a new list: its items must be owned, or it is not -/
theorem new_lst2 (G : Good c H0 (q ++ res) t e fp σ H) (V : VOkA c H0 res fp H xs vs q) {p : Addr} (h : H p = none) (hz : vs.length ≤ sizeLine) :
    ∃ q', Good c H0 (q' ++ res) t e fp σ (upd H p (.lst vs)) ∧ VOk c H0 res fp (upd H p (.lst vs)) (jn xs, .lst (xs.map (·.2))) (.ref p) q' := by
  have G' := G.new (o := .lst vs) h
  have Gr := G.newR (o := .lst vs) h
  have hp1 : Fz c.T res fp p := ⟨G.ntp h, fun m => G.nres h (List.mem_append_right _ m), G.nfp h⟩
  cases j : jn xs with
  | own =>
    obtain ⟨o, n, k⟩ := V.own (jn_own j)
    obtain ⟨G2, V2⟩ := new_lst G h hz o n k
    exact ⟨p :: q, G2, V2⟩
  | frz =>
    refine ⟨[], G'.less fun a m => List.mem_append_right _ m, rfl, p, vs, rfl, ⟨hp1, upd_same⟩, hz, ?_⟩
    exact (V.frz (jn_npk (by rw [j]; decide))).same (SameT.nu h) fun a z => ⟨z.1, fun _ => z⟩
  | pk =>
    refine ⟨[], G'.less fun a m => List.mem_append_right _ m, rfl, p, vs, rfl, ⟨hp1.1, upd_same⟩, hz, ?_⟩
    exact V.rp.same (SameT.nu h) fun a z => ⟨z, fun _ => z⟩
def xLst (fs : List (Ex τ)) : Ex τ := fun t e => (evA fs t e).map fun (t1, e1, xs) => (t1, e1, jn xs, .lst (xs.map (·.2)))
theorem d_lst {X : Cx} {es : List Expr} {pos : Pos} {fs : List (Ex τ)} (ha : PA X es (rdA c (evA fs))) (hl : Nat.ble fs.length 1000 = true := by rfl) : PE X (.List es pos) (rd c (xLst fs)) := imE (pe_lst ha) fun σ H Q h => by
  obtain ⟨H0, res, t, e, fp, t', e', z, G, ev, k⟩ := h
  unfold xLst at ev
  rw [Option.map_eq_some_iff] at ev
  obtain ⟨⟨t1, e1, xs⟩, ev1, ev⟩ := ev
  cases ev
  refine ⟨H0, res, t, e, fp, t', e', xs, G, ev1, fun H1 fp1 vs q s1 u1 G1 V1 => ?_⟩
  have hz : vs.length ≤ sizeLine := by
    rw [V1.len, evA_len ev1]
    exact Nat.le_trans (Nat.le_of_ble_eq_true hl) (by decide)
  refine ⟨hz, fun p hp => ?_⟩
  obtain ⟨q', G2, V2⟩ := new_lst2 G1 V1 hp hz
  exact k _ fp1 _ q' (s1.tr (SameT.nu hp)) u1 G2 V2
abbrev Fn (τ : Type) := τ → List D → Option (τ × Bool × D)
/-- a result: owned (all new), or of another hand -/
def RetOk (K : PySem.W.Frag) (T : Addr × Addr) (H0 H' : Hp) (b : Bool) (d : D) (v : V) : Prop :=
  if b then ∃ q, Ow K T H' d q v ∧ q.Nodup ∧ ∀ a, a ∈ q → H0 a = none ∧ ¬ tp T a else Rp K T H' (Fr1 T) d v
def spF (K : PySem.W.Frag) (φ : Fn τ) : Sp := fun vs H Q _ => ∃ (T : Addr × Addr) (t : τ) (ds : List D) (t' : τ) (b : Bool) (d : D), RpA K T H (Fr1 T) ds vs ∧ Tp.ti T H t ∧ φ t ds = some (t', b, d) ∧
  ∀ H' v, SameT T H H' → Tp.ti T H' t' → RetOk K T H H' b d v → Q v H'
def xCall (φ : Fn τ) (fs : List (Ex τ)) : Ex τ := fun t e => (evA fs t e).bind fun (t1, e1, xs) => (φ t1 (xs.map (·.2))).map fun (t2, b, d) => (t2, e1, if b then (.own, d) else up .pk d)
theorem call_run {φ : Fn τ} {fs : List (Ex τ)} {Q : VK} {E : XK} (h : rd c (xCall φ fs) σ H Q) : tCall (spF c.K φ) [] E (rdA c (evA fs)) σ H Q := by
  obtain ⟨H0, res, t, e, fp, t', e', z, G, ev, k⟩ := h
  unfold xCall at ev
  rw [Option.bind_eq_some_iff] at ev
  obtain ⟨⟨t1, e1, xs⟩, ev1, ev⟩ := ev
  rw [Option.map_eq_some_iff] at ev
  obtain ⟨⟨t2, b, d⟩, ev2, ev⟩ := ev
  refine ⟨H0, res, t, e, fp, t1, e1, xs, G, ev1, fun H1 fp1 vs q s1 u1 G1 V1 => ?_⟩
  refine ⟨c.T, t1, xs.map (·.2), t2, b, d, by rw [List.append_nil]; exact V1.rp, G1.ti, ev2, fun H' v s2 t' r => ?_⟩
  have G1' := G1.less (res' := res) fun a m => List.mem_append_right _ m
  cases b with
  | true =>
    cases ev
    obtain ⟨q', o, n, kq⟩ := (show ∃ q, _ from by rw [RetOk, if_pos rfl] at r; exact r)
    have G2 := G1'.to s2 t' (q := q') fun a m => ⟨(kq a m).1, by
      obtain ⟨ys, hy, hm⟩ := o.at_ _ _ _ a m
      rw [hy]; exact fun z => nomatch z⟩
    exact k H' fp1 v q' (s1.tr s2) u1 G2 ⟨o, n, fun a m => ⟨G1'.h0 (kq a m).1, (kq a m).2, G1'.nres (kq a m).1, G1'.nfp (kq a m).1⟩⟩
  | false =>
    cases ev
    rw [RetOk, if_neg Bool.false_ne_true] at r
    have G2 := G1'.to s2 t' (q := []) fun a m => nomatch m
    exact k H' fp1 v [] (s1.tr s2) u1 G2 (up_ok (d := d) (fun z => absurd rfl z) (fun _ z => z) r)
theorem d_call {X : Cx} {k : Nat} {f : Addr} {fd : FuncData} {ps : List Str} {φ : Fn τ} {nm : Str} {p pos : Pos} {a : Expr} {as : List Expr} {g : Ex τ} {gs : List (Ex τ)} (hk : X.K = c.K) (F : FnOk X.prog X.w X.K X.mg X.base CX0 k f fd ps (spF X.K φ)) (hr : Room k X.A)
    (hg : Gl X nm) (hm : X.mg nm = some (.ref f)) (kp : PySem.W.keepIn X.K (.ref f) = true) (hb : Binds X.K fd ps []) (ha : PA X (a :: as) (rdA c (evA (g :: gs)))) (hdb : (nm == ("__debug__" : Str)) = false := by decide)
    (he : starEach (a :: as) X.env = (false, eval a X.env) :: starEach as X.env := by rfl) (hpl : (backTo pos (starEach as X.env)).any (·.1) = false := by rfl) :
    PE X (.Call (.Name nm p) (a :: as) [] pos) (rd c (xCall φ (g :: gs))) :=
  imE (pe_call (E := E0) F hr hg hm kp hb .nil pass0 ha hdb he hpl) fun σ H Q h => by
    have z := call_run (E := E0) h
    rw [hk]
    exact z
end
end Fw
set_option Elab.async false
set_option linter.all false
set_option maxRecDepth 100000
namespace Fw
open PySem L2
section
variable {τ : Type} [Tp τ]
variable {c : Cz} {res res' q q' : List Addr} {t t' : τ} {e e' : Slots} {fp fp' : FP} {σ σ' : L2.St} {H H' H0 : Hp} {x y z : GD} {v w : V} {xs : List GD} {vs : List V}
inductive Fl where | nx | bk | ct | rt (b : Bool) (d : D)
abbrev Sx (τ : Type) := τ → Slots → Option (τ × Slots × Fl)
def fin (c : Cz) (H0 : Hp) (W : Ends) (t : τ) (e : Slots) : Fl → Prop
  | .nx => ∀ H σ fp, Good c H0 [] t e fp σ H → W.nx σ H
  | .bk => ∀ H σ fp, Good c H0 [] t e fp σ H → W.bk σ H
  | .ct => ∀ H σ fp, Good c H0 [] t e fp σ H → W.ct σ H
  | .rt b d => ∀ H v, SameT c.T H0 H → Tp.ti c.T H t → RetOk c.K c.T H0 H b d v → W.rt v H
def rdS (c : Cz) (f : Sx τ) : TS := fun W σ H => ∃ H0 t e fp t' e' fl, Good c H0 [] t e fp σ H ∧ f t e = some (t', e', fl) ∧ fin c H0 W t' e' fl
def sSeq (f g : Sx τ) : Sx τ := fun t e => (f t e).bind fun (t1, e1, fl) => match fl with | .nx => g t1 e1 | r => some (t1, e1, r)
def sNx : Sx τ := fun t e => some (t, e, .nx)
def sIf (p : Tx τ) (f g : Sx τ) : Sx τ := fun t e => (p t e).bind fun (t1, e1, b) => if b then f t1 e1 else g t1 e1
def sRet (f : Ex τ) : Sx τ := fun t e => (f t e).map fun (t1, e1, x) => (t1, e1, .rt (match x.1 with | .own => true | _ => false) x.2)
def sDrop (f : Ex τ) : Sx τ := fun t e => (f t e).map fun (t1, e1, _) => (t1, e1, .nx)
theorem fin_seq {W : Ends} {g : Sx τ} {fl fl' : Fl} {e1 : Slots} {t1 : τ} (h : (match fl with | .nx => g t1 e1 | r => some (t1, e1, r)) = some (t', e', fl')) (k : fin c H0 W t' e' fl') : fin c H0 { W with nx := rdS c g W } t1 e1 fl := by
  cases fl with
  | nx => exact fun H σ fp G => ⟨H0, t1, e1, fp, t', e', fl', G, h, k⟩
  | bk => cases h; exact k
  | ct => cases h; exact k
  | rt b d => cases h; exact k
section
variable {X : Cx} {st : Stmt} {rest : List Stmt} {f g : Sx τ}
theorem b_nil : PSs X [] (rdS c (sNx (τ := τ))) := imSs pss_nil fun W σ H h => by
  obtain ⟨H0, t, e, fp, t', e', fl, G, ev, k⟩ := h
  cases ev
  exact k H σ fp G
theorem b_cons (h1 : PS X st (rdS c f)) (h2 : PSs X rest (rdS c g)) : PSs X (st :: rest) (rdS c (sSeq f g)) := imSs (pss_cons h1 h2) fun W σ H h => by
  obtain ⟨H0, t, e, fp, t', e', fl, G, ev, k⟩ := h
  unfold sSeq at ev
  rw [Option.bind_eq_some_iff] at ev
  obtain ⟨⟨t1, e1, f1⟩, ev1, ev⟩ := ev
  exact ⟨H0, t, e, fp, t1, e1, f1, G, ev1, fin_seq ev k⟩
theorem b_one (h1 : PS X st (rdS c f)) : PSs X [st] (rdS c f) := pss_one h1
theorem s_break {pos : Pos} : PS X (.Break pos) (rdS c (fun (t : τ) e => some (t, e, .bk))) := imS ps_break fun W σ H h => by
  obtain ⟨H0, t, e, fp, t', e', fl, G, ev, k⟩ := h
  cases ev
  exact k H σ fp G
theorem s_if {cd : Expr} {a b : List Stmt} {pos : Pos} {p : Tx τ} (hc : PT X cd (rdT c p)) (ha : PSs X a (rdS c f)) (hb : PSs X b (rdS c g)) : PS X (.If cd a b pos) (rdS c (sIf p f g)) := imS (ps_if hc ha hb) fun W σ H h => by
  obtain ⟨H0, t, e, fp, t', e', fl, G, ev, k⟩ := h
  unfold sIf at ev
  rw [Option.bind_eq_some_iff] at ev
  obtain ⟨⟨t1, e1, b1⟩, ev1, ev⟩ := ev
  refine ⟨H0, [], t, e, fp, t1, e1, b1, G, ev1, fun H1 fp1 s1 u1 G1 => ?_⟩
  cases b1 with
  | true => rw [if_pos rfl]; exact ⟨H0, t1, e1, fp1, t', e', fl, G1, ev, k⟩
  | false => rw [if_neg Bool.false_ne_true]; exact ⟨H0, t1, e1, fp1, t', e', fl, G1, ev, k⟩
theorem ret_ok (G : Good c H0 (q ++ res) t e fp σ H) (V : VOk c H0 res fp H x v q) : RetOk c.K c.T H0 H (match x.1 with | .own => true | _ => false) x.2 v := by
  obtain ⟨g, d⟩ := x
  cases g with
  | own => exact ⟨q, V.1, V.2.1, fun a m => ⟨(V.2.2 a m).1, (V.2.2 a m).2.1⟩⟩
  | frz => exact V.rp
  | pk => exact V.rp
theorem s_ret {ex : Expr} {pos : Pos} {f : Ex τ} (ha : PE X ex (rd c f)) : PS X (.Return (some ex) pos) (rdS c (sRet f)) := imS (ps_ret ha) fun W σ H h => by
  obtain ⟨H0, t, e, fp, t', e', fl, G, ev, k⟩ := h
  unfold sRet at ev
  rw [Option.map_eq_some_iff] at ev
  obtain ⟨⟨t1, e1, x⟩, ev1, ev⟩ := ev
  cases ev
  exact ⟨H0, [], t, e, fp, t', e', x, G, ev1, fun H1 fp1 v q s1 u1 G1 V1 => k H1 v G1.s0 G1.ti (ret_ok G1 V1)⟩
end
def frzAll (e : Slots) : Slots := e.map fun o => o.map fun p => (false, p.2)
def stI (i : Nat) (x : GD) (e : Slots) : Option Slots := if i < e.length then
  match x with
    | (.own, d) => some (e.set i (some (true, d)))
    | (.frz, d) => some (e.set i (some (false, d)))
    | (.pk, d) => some ((frzAll e).set i (some (false, d)))
  else none
theorem set_get {α : Type} {l : List α} {i j : Nat} {a : α} (h : i < l.length) : (l.set i a)[j]? = if j = i then some a else l[j]? := by
  by_cases e : j = i
  · subst e; rw [if_pos rfl, List.getElem?_set_self h]
  · rw [if_neg e, List.getElem?_set_ne (Ne.symm e)]
theorem Good.frzAll (G : Good c H0 res t e fp σ H) : Good c H0 res t (frzAll e) (fun _ => []) σ H := by
  have get : ∀ (i : Nat) b d, (Fw.frzAll e)[i]? = some (some (b, d)) → b = false ∧ ∃ b', e[i]? = some (some (b', d)) := by
    intro i b d h
    unfold Fw.frzAll at h
    rw [List.getElem?_map, Option.map_eq_some_iff] at h
    obtain ⟨o, h1, h2⟩ := h
    rw [Option.map_eq_some_iff] at h2
    obtain ⟨p, h3, h4⟩ := h2
    subst h3
    cases h4
    exact ⟨rfl, p.1, h1⟩
  refine { s0 := G.s0, ti := G.ti, len := by unfold Fw.frzAll; rw [List.length_map]; exact G.len, ow := fun i d h => ?_, fz := fun i d h => ?_, fe := fun _ _ => rfl, nd := fun _ => List.nodup_nil, dj := fun _ _ _ m => (nomatch m), nw := fun _ _ m => (nomatch m), rs := G.rs }
  · exact absurd (get i true d h).1 (by decide)
  · obtain ⟨_, b', hb⟩ := get i false d h
    cases b' with
    | true =>
      obtain ⟨v, h1, h2⟩ := G.ow i d hb
      exact ⟨v, h1, h2.rp _ _ _ fun a m => ⟨(G.nw i a m).2.1, (G.nw i a m).2.2, fun _ z => nomatch z⟩⟩
    | false =>
      obtain ⟨v, h1, h2⟩ := G.fz i d hb
      exact ⟨v, h1, h2.same SameT.rf fun a z => ⟨z.1, fun _ => ⟨z.1, z.2.1, fun _ z => nomatch z⟩⟩⟩
theorem st_frz (G : Good c H0 res t e fp σ H) {i : Nat} {d : D} (hi : i < e.length) (r : Rp c.K c.T H (Fz c.T res fp) d v) : Good c H0 res t (e.set i (some (false, d))) (fun j => if j = i then [] else fp j) (σ.set i (some v)) H := by
  have hs : i < σ.length := by rw [← G.len]; exact hi
  have sub : ∀ j a, a ∈ (if j = i then [] else fp j) → a ∈ fp j := fun j a m => by
    by_cases e : j = i
    · rw [if_pos e] at m; cases m
    · rw [if_neg e] at m; exact m
  have fz' : ∀ {d' v'}, Rp c.K c.T H (Fz c.T res fp) d' v' → Rp c.K c.T H (Fz c.T res fun j => if j = i then [] else fp j) d' v' := fun h => h.same SameT.rf fun a z => ⟨z.1, fun _ => ⟨z.1, z.2.1, fun j m => z.2.2 j (sub j a m)⟩⟩
  refine { s0 := G.s0, ti := G.ti, len := by rw [List.length_set, List.length_set]; exact G.len, ow := fun j d' h => ?_, fz := fun j d' h => ?_, fe := fun j h => ?_, nd := fun j => ?_, dj := fun j k a m n => G.dj j k a (sub j a m) (sub k a n), nw := fun j a m => G.nw j a (sub j a m), rs := G.rs }
  · rw [set_get hi] at h
    rw [set_get hs]
    by_cases e : j = i
    · rw [if_pos e] at h; cases h
    · rw [if_neg e] at h ⊢
      rw [if_neg e]
      exact G.ow j d' h
  · rw [set_get hi] at h
    rw [set_get hs]
    by_cases e : j = i
    · rw [if_pos e] at h ⊢; cases h
      exact ⟨v, rfl, fz' r⟩
    · rw [if_neg e] at h ⊢
      obtain ⟨v', h1, h2⟩ := G.fz j d' h
      exact ⟨v', h1, fz' h2⟩
  · by_cases e : j = i
    · rw [if_pos e]
    · rw [if_neg e]
      refine G.fe j fun d' z => h d' ?_
      rw [set_get hi, if_neg e]; exact z
  · by_cases e : j = i
    · rw [if_pos e]; exact List.nodup_nil
    · rw [if_neg e]; exact G.nd j
theorem st_own (G : Good c H0 (q ++ res) t e fp σ H) {i : Nat} {d : D} (hi : i < e.length) (V : VOk c H0 res fp H (.own, d) v q) : Good c H0 res t (e.set i (some (true, d))) (fun j => if j = i then q else fp j) (σ.set i (some v)) H := by
  have hs : i < σ.length := by rw [← G.len]; exact hi
  obtain ⟨o, n, k⟩ := V
  have cs : ∀ j a, a ∈ (if j = i then q else fp j) → (j = i ∧ a ∈ q) ∨ (j ≠ i ∧ a ∈ fp j) := fun j a m => by
    by_cases e : j = i
    · rw [if_pos e] at m; exact .inl ⟨e, m⟩
    · rw [if_neg e] at m; exact .inr ⟨e, m⟩
  refine { s0 := G.s0, ti := G.ti, len := by rw [List.length_set, List.length_set]; exact G.len, ow := fun j d' h => ?_, fz := fun j d' h => ?_, fe := fun j h => ?_, nd := fun j => ?_, dj := fun j l a m n => ?_, nw := fun j a m => ?_, rs := fun a m => G.rs a (List.mem_append_right _ m) }
  · rw [set_get hi] at h
    rw [set_get hs]
    by_cases e : j = i
    · rw [if_pos e] at h; cases h
      rw [if_pos e, if_pos e]
      exact ⟨v, rfl, o⟩
    · rw [if_neg e] at h
      rw [if_neg e, if_neg e]
      exact G.ow j d' h
  · rw [set_get hi] at h
    rw [set_get hs]
    by_cases e : j = i
    · rw [if_pos e] at h; cases h
    · rw [if_neg e] at h ⊢
      obtain ⟨v', h1, h2⟩ := G.fz j d' h
      refine ⟨v', h1, h2.same SameT.rf fun a z => ⟨z.1, fun _ => ⟨z.1, fun m => z.2.1 (List.mem_append_right _ m), fun l m => ?_⟩⟩⟩
      rcases cs l a m with ⟨_, m⟩ | ⟨_, m⟩
      · exact z.2.1 (List.mem_append_left _ m)
      · exact z.2.2 l m
  · by_cases e : j = i
    · subst e
      exact absurd (by rw [set_get hi, if_pos rfl]) (h d)
    · rw [if_neg e]
      refine G.fe j fun d' z => h d' ?_
      rw [set_get hi, if_neg e]; exact z
  · by_cases e : j = i
    · rw [if_pos e]; exact n
    · rw [if_neg e]; exact G.nd j
  · rcases cs j a m with ⟨e1, m⟩ | ⟨e1, m⟩ <;> rcases cs l a n with ⟨e2, n⟩ | ⟨e2, n⟩
    · rw [e1, e2]
    · exact absurd n ((k a m).2.2.2 l)
    · exact absurd m ((k a n).2.2.2 j)
    · exact G.dj j l a m n
  · rcases cs j a m with ⟨e1, m⟩ | ⟨e1, m⟩
    · exact ⟨(k a m).1, (k a m).2.1, (k a m).2.2.1⟩
    · exact ⟨(G.nw j a m).1, (G.nw j a m).2.1, fun z => (G.nw j a m).2.2 (List.mem_append_right _ z)⟩
theorem st_ok (G : Good c H0 (q ++ res) t e fp σ H) {i : Nat} (V : VOk c H0 res fp H x v q) (h : stI i x e = some e') (hp : x.1 = .pk → res = []) : ∃ fp', Good c H0 res t e' fp' (σ.set i (some v)) H := by
  unfold stI at h
  split at h
  · rename_i hi
    obtain ⟨g, d⟩ := x
    cases g with
    | own => cases h; exact ⟨_, st_own G hi V⟩
    | frz => cases h; exact ⟨_, st_frz (G.less fun a m => List.mem_append_right _ m) hi V.2⟩
    | pk =>
      cases h
      have hr := hp rfl
      subst hr
      have G' := (G.less (res' := []) fun a m => nomatch m).frzAll
      refine ⟨_, st_frz G' (by unfold Fw.frzAll; rw [List.length_map]; exact hi) (V.2.same SameT.rf fun a z => ⟨z, fun _ => ⟨z, fun m => (nomatch m), fun _ m => nomatch m⟩⟩)⟩
  · cases h
def rdG (c : Cz) (τ : Type) [Tp τ] (a : GD → Slots → Option Slots) : TG := fun v σ H Q => ∃ H0 t e fp x q e', Good (τ := τ) c H0 q t e fp σ H ∧ VOk c H0 [] fp H x v q ∧ a x e = some e' ∧ ∀ σ' fp', Good (τ := τ) c H0 [] t e' fp' σ' H → Q σ' H
theorem imG {X : Cx} {tg : Expr} {u u' : TG} (h : PG X tg u) (k : ∀ v σ H Q, u' v σ H Q → u v σ H Q) : PG X tg u' := ⟨fun pins s σ H v w Q I r z => h.run pins s σ H v w Q I r (k v σ H Q z)⟩
theorem g_name {X : Cx} {tg : Expr} {i : Nat} (h : PG X tg (gName i)) : PG X tg (rdG c τ (stI i)) := imG h fun v σ H Q z => by
  obtain ⟨H0, t, e, fp, x, q, e', G, V, ev, k⟩ := z
  obtain ⟨fp', G'⟩ := st_ok (res := []) (by rw [List.append_nil]; exact G) V ev fun _ => rfl
  exact k _ fp' G'
def sTo (a : GD → Slots → Option Slots) (f : Ex τ) : Sx τ := fun t e => (f t e).bind fun (t1, e1, x) => (a x e1).map fun e2 => (t1, e2, .nx)
theorem asg_run {a : GD → Slots → Option Slots} {f : Ex τ} {W : Ends} (h : rdS c (sTo a f) W σ H) : tAsg (rd c f) (rdG c τ a) W σ H := by
  obtain ⟨H0, t, e, fp, t', e', fl, G, ev, k⟩ := h
  unfold sTo at ev
  rw [Option.bind_eq_some_iff] at ev
  obtain ⟨⟨t1, e1, x⟩, ev1, ev⟩ := ev
  rw [Option.map_eq_some_iff] at ev
  obtain ⟨e2, ev2, ev⟩ := ev
  cases ev
  exact ⟨H0, [], t, e, fp, t', e1, x, G, ev1, fun H1 fp1 v q s1 u1 G1 V1 => ⟨H0, t', e1, fp1, x, q, e', by rw [List.append_nil] at G1; exact G1, V1, ev2, fun σ' fp' G' => k H1 σ' fp' G'⟩⟩
theorem s_set {X : Cx} {i : Nat} {nm : Str} {ex : Expr} {f : Ex τ} {p' pos : Pos} (hN : X.N.Nodup) (hi : X.N[i]? = some nm) (hx : Loc X.env.scope nm) (ha : PE X ex (rd c f)) (hs : swapsWith ex (some (.Name nm p')) pos.line X.env = pure false := by rfl)
    (hf : X.fn nm = true ∨ X.env.scope.names.lookup nm = some .local := by first | exact .inl rfl | exact .inr rfl | assumption) : PS X (.Assign [.Name nm p'] ex pos) (rdS c (sTo (stI i) f)) :=
  imS (ps_set (pos := pos) (pos' := p') hN hi hx ha hs hf) fun W σ H h => by
    obtain ⟨H0, res, t, e, fp, t', e', x, G, ev, k⟩ := asg_run h
    refine ⟨H0, res, t, e, fp, t', e', x, G, ev, fun H1 fp1 v q s1 u1 G1 V1 => ?_⟩
    obtain ⟨H0', t2, e2, fp2, x2, q2, e3, G2, V2, ev2, k2⟩ := k H1 fp1 v q s1 u1 G1 V1
    obtain ⟨fp', G'⟩ := st_ok (res := []) (by rw [List.append_nil]; exact G2) V2 ev2 fun _ => rfl
    exact k2 _ fp' G'
theorem s_asg {X : Cx} {tg ex : Expr} {f : Ex τ} {a : GD → Slots → Option Slots} {pos : Pos} (ha : PE X ex (rd c f)) (hg : PG X tg (rdG c τ a)) (hs : swapsWithSole [tg] ex pos.line X.env = pure false := by rfl) (hw : swappedStores [tg] ex X.env = pure none := by rfl)
    (h1 : (assignEach [tg] X.env).map (·.2) = [assign tg X.env] := by rfl) : PS X (.Assign [tg] ex pos) (rdS c (sTo a f)) := imS (ps_asg ha hg hs hw h1) fun W σ H h => asg_run h
end
end Fw
set_option Elab.async false
set_option linter.all false
set_option maxRecDepth 100000
namespace Fw
open PySem L2
section
variable {τ : Type} [Tp τ]
variable {c : Cz} {res res' q q' q1 q2 : List Addr} {t t' : τ} {e e' : Slots} {fp fp' : FP} {σ σ' : L2.St} {H H' H0 : Hp} {x y z : GD} {v w : V} {xs : List GD} {vs : List V}
theorem st_ok2 (G : Good c H0 (q ++ res) t e fp σ H) {i : Nat} (V : VOk c H0 res fp H x v q) (h : stI i x e = some e') (hp : x.1 = .pk → res = []) : ∃ fp', Good c H0 res t e' fp' (σ.set i (some v)) H ∧ ∀ j a, a ∈ fp' j → a ∈ fp j ∨ a ∈ q := by
  unfold stI at h
  split at h
  · rename_i hi
    obtain ⟨g, d⟩ := x
    cases g with
    | own =>
      cases h
      refine ⟨_, st_own G hi V, fun j a m => ?_⟩
      by_cases e : j = i
      · rw [if_pos e] at m; exact .inr m
      · rw [if_neg e] at m; exact .inl m
    | frz =>
      cases h
      refine ⟨_, st_frz (G.less fun a m => List.mem_append_right _ m) hi V.2, fun j a m => ?_⟩
      by_cases e : j = i
      · rw [if_pos e] at m; cases m
      · rw [if_neg e] at m; exact .inl m
    | pk =>
      cases h
      have hr := hp rfl
      subst hr
      have G' := (G.less (res' := []) fun a m => nomatch m).frzAll
      refine ⟨_, st_frz G' (by unfold Fw.frzAll; rw [List.length_map]; exact hi) (V.2.same SameT.rf fun a z => ⟨z, fun _ => ⟨z, fun m => (nomatch m), fun _ m => nomatch m⟩⟩), fun j a m => ?_⟩
      by_cases e : j = i
      · rw [if_pos e] at m; cases m
      · rw [if_neg e] at m; cases m
  · cases h
theorem VOkA.move : ∀ {xs : List GD} {res res' vs q}, VOkA c H0 res fp H xs vs q → (∀ j a, a ∈ fp' j → a ∈ fp j ∨ a ∈ res) → (∀ a, a ∈ res' → a ∈ res) → VOkA c H0 res' fp' H xs vs q
  | [], _, _, _, _, h, _, _ => h
  | (g, d) :: xs, res, res', _, _, h, k, l => by
    obtain ⟨v, r, q1, q2, e1, e2, a, b⟩ := h
    refine ⟨v, r, q1, q2, e1, e2, ?_, VOkA.move b (fun j a m => (k j a m).elim .inl fun z => .inr (List.mem_append_right _ z)) fun a m => ?_⟩
    · cases g with
      | own => exact ⟨a.1, a.2.1, fun y m => ⟨(a.2.2 y m).1, (a.2.2 y m).2.1, fun z => (a.2.2 y m).2.2.1 (l y z), fun i z => (k i y z).elim ((a.2.2 y m).2.2.2 i) (a.2.2 y m).2.2.1⟩⟩
      | frz => exact ⟨a.1, a.2.same SameT.rf fun y z => ⟨z.1, fun _ => ⟨z.1, fun m => z.2.1 (l y m), fun i m => (k i y m).elim (z.2.2 i) z.2.1⟩⟩⟩
      | pk => exact a
    · rcases List.mem_append.mp m with m | m
      · exact List.mem_append_left _ m
      · exact List.mem_append_right _ (l a m)
def stA : List Nat → List GD → Slots → Option Slots
  | [], [], e => some e
  | i :: is, x :: xs, e => (stI i x e).bind (stA is xs)
  | _, _, _ => none
theorem VOkA.apart : ∀ {xs : List GD} {res vs q}, VOkA c H0 res fp H xs vs q → ∀ y ∈ q, y ∉ res
  | [], _, _, _, h, y, m => by rw [h.2] at m; cases m
  | (g, d) :: xs, res, _, _, h, y, m => fun z => by
    obtain ⟨v, r, q1, q2, _, e2, a, b⟩ := h
    rw [e2] at m
    rcases List.mem_append.mp m with m | m
    · cases g with
      | own => exact (a.2.2 y m).2.2.1 z
      | frz => rw [a.1] at m; cases m
      | pk => rw [a.1] at m; cases m
    · exact VOkA.apart b y m (List.mem_append_right _ z)
/-- the state behind several stores: all owned, or nothing owned at all -/
theorem stA_ok : ∀ {is : List Nat} {xs : List GD} {vs : List V} {q : List Addr} {e e' : Slots} {fp : FP} {σ : L2.St}, Good c H0 q t e fp σ H → VOkA c H0 [] fp H xs vs q → stA is xs e = some e' → ((∃ x ∈ xs, x.1 ≠ .own) → q = []) →
    ∃ fp', Good c H0 [] t e' fp' ((is.zip vs).foldl (fun s p => s.set p.1 (some p.2)) σ) H ∧ is.length = vs.length
  | [], [], vs, q, e, e', fp, σ, G, V, h, _ => by
    cases h
    rw [show vs = [] from V.1]
    exact ⟨fp, G.less fun a m => (nomatch m), rfl⟩
  | i :: is, x :: xs, vs, q, e, e', fp, σ, G, V, h, hp => by
    obtain ⟨v, r, q1, q2, e1, e2, a, b⟩ := V
    have h' : (stI i x e).bind (stA is xs) = some e' := h
    rw [Option.bind_eq_some_iff] at h'
    obtain ⟨e3, h1, h2⟩ := h'
    subst e1 e2
    have key : VOk c H0 q2 fp H x v q1 ∧ (x.1 = .pk → q2 = []) := by
      obtain ⟨g, d⟩ := x
      cases g with
      | own => exact ⟨⟨a.1, a.2.1, fun y m => ⟨(a.2.2 y m).1, (a.2.2 y m).2.1, fun z => b.apart y z (List.mem_append_left _ m), (a.2.2 y m).2.2.2⟩⟩, fun z => nomatch z⟩
      | frz =>
        have := hp ⟨_, List.mem_cons_self, fun z => (nomatch z)⟩
        rw [List.append_eq_nil_iff] at this
        obtain ⟨_, rfl⟩ := this
        exact ⟨a, fun z => nomatch z⟩
      | pk =>
        have := hp ⟨_, List.mem_cons_self, fun z => (nomatch z)⟩
        rw [List.append_eq_nil_iff] at this
        exact ⟨a, fun _ => this.2⟩
    obtain ⟨fp', G', k⟩ := st_ok2 G key.1 h1 key.2
    obtain ⟨fp'', G'', l⟩ := stA_ok (q := q2) G' (b.move (fun j a m => (k j a m).elim .inl fun z => .inr (List.mem_append_left _ z)) fun a m => nomatch m) h2 fun ⟨y, m, n⟩ => by
      have := hp ⟨y, List.mem_cons_of_mem _ m, n⟩
      rw [List.append_eq_nil_iff] at this
      exact this.2
    exact ⟨fp'', G'', by rw [List.length_cons, List.length_cons, l]⟩
  | [], _ :: _, _, _, _, _, _, _, _, _, h, _ => by cases h
  | _ :: _, [], _, _, _, _, _, _, _, _, h, _ => by cases h
/-- a tuple's items, one by one -/
def subg (g : Gr) (d : D) : GD := match g with | .own => (.own, d) | g => up g d
theorem own_items : ∀ {ds : List D} {q : List Addr} {vs : List V} {res : List Addr}, OwA c.K c.T H ds q vs → q.Nodup → (∀ a, a ∈ q → H0 a = none ∧ ¬ tp c.T a ∧ a ∉ res ∧ ∀ i, a ∉ fp i) → VOkA c H0 res fp H (ds.map (subg .own)) vs q
  | [], _, _, _, o, _, _ => ⟨o.2, o.1⟩
  | d :: ds, q, vs, res, o, n, k => by
    obtain ⟨q1, q2, v, r, e1, e2, a, b⟩ := o
    subst e1
    rw [List.nodup_append] at n
    exact ⟨v, r, q1, q2, e2, rfl, ⟨a, n.1, fun y m => k y (List.mem_append_left _ m)⟩, own_items b n.2.1 fun y m => by
      obtain ⟨a1, a2, a3, a4⟩ := k y (List.mem_append_right _ m)
      refine ⟨a1, a2, fun z => ?_, a4⟩
      rcases List.mem_append.mp z with z | z
      · exact n.2.2 y z y m rfl
      · exact a3 z⟩
theorem up_items {g : Gr} {A : Addr → Prop} : ∀ {ds : List D} {vs : List V}, (g ≠ .pk → A = Fz c.T res fp) → (∀ a, A a → Fr1 c.T a) → RpA c.K c.T H A ds vs → VOkA c H0 res fp H (ds.map (up g)) vs []
  | [], _, _, _, h => ⟨h, rfl⟩
  | d :: ds, vs, h1, h2, h => by
    obtain ⟨v, r, e, a, b⟩ := h
    exact ⟨v, r, [], [], e, rfl, up_ok (d := d) h1 h2 a, up_items h1 h2 b⟩
theorem tup_items {g : Gr} {ds : List D} (V : VOk c H0 res fp H (g, .tup ds) v q) : ∃ a us q', v = .ref a ∧ TupAt c.K c.T H a us ∧ VOkA c H0 res fp H (ds.map (subg g)) us q' ∧ (q' = q ∨ q' = []) ∧ ((∃ x ∈ ds.map (subg g), x.1 ≠ .own) → q' = []) := by
  cases g with
  | own =>
    obtain ⟨⟨a, us, e, t, l, o⟩, n, k⟩ := V
    refine ⟨a, us, q, e, t, own_items o n k, .inl rfl, fun ⟨x, m, z⟩ => ?_⟩
    obtain ⟨d, _, rfl⟩ := List.mem_map.mp m
    exact absurd rfl z
  | frz =>
    obtain ⟨_, a, us, e, t, l, o⟩ := V
    exact ⟨a, us, [], e, t, up_items (g := .frz) (fun _ => rfl) (fun _ z => z.1) o, .inr rfl, fun _ => rfl⟩
  | pk =>
    obtain ⟨_, a, us, e, t, l, o⟩ := V
    exact ⟨a, us, [], e, t, up_items (g := .pk) (A := Fr1 c.T) (fun z => absurd rfl z) (fun _ z => z) o, .inr rfl, fun _ => rfl⟩
/-- (a, b, ..) = .. -/
def stT (is : List Nat) (x : GD) (e : Slots) : Option Slots := match x.2 with
  | .tup ds => stA is (ds.map (subg x.1)) e
  | _ => none
def gNames : List Nat → TGs
  | [] => gNil
  | i :: is => gCons (gName i) (gNames is)
theorem gNames_run : ∀ {is : List Nat} {vs : List V} {σ : L2.St} {H : Hp} {Q : L2.St → Hp → Prop}, is.length = vs.length → Q ((is.zip vs).foldl (fun s p => s.set p.1 (some p.2)) σ) H → gNames is vs σ H Q
  | [], vs, σ, H, Q, h, k => by
    have : vs = [] := List.length_eq_zero_iff.mp h.symm
    subst this
    exact ⟨rfl, k⟩
  | i :: is, v :: vs, σ, H, Q, h, k => ⟨v, vs, rfl, gNames_run (by simpa using h) k⟩
  | i :: is, [], σ, H, Q, h, k => by simp at h
theorem g_tup {X : Cx} {es : List Expr} {is : List Nat} {k : Nat} {pos : Pos} (hk : X.K = c.K) (hc : X.calm = true) (h : PGs X es (gNames is)) (hn : (assignEach es X.env).length = is.length := by rfl) (hst : (assignEach es X.env).findIdx? (·.1) = none := by rfl) :
    PG X (.Tuple es k pos) (rdG c τ (stT is)) := imG (pg_tup hc h hn hst) fun v σ H Q z => by
  obtain ⟨H0, t, e, fp, ⟨g, d⟩, q, e', G, V, ev, k⟩ := z
  unfold stT at ev
  cases d with
  | tup ds =>
    obtain ⟨a, us, q', e1, t1, V1, hq, hp⟩ := tup_items V
    have G' : Good c H0 q' t e fp σ H := G.less fun a m => by
      rcases hq with r | r
      · rw [← r]; exact m
      · rw [r] at m; cases m
    obtain ⟨fp', G2, l⟩ := stA_ok G' V1 ev hp
    exact ⟨a, us, e1, hk ▸ t1.sq, l.symm, gNames_run l (k _ fp' G2)⟩
  | _ => cases ev
open Classical in
noncomputable def lk (H : Hp) (fp : FP) : Hp := fun a => if ∃ i, a ∈ fp i then none else H a
theorem lk_in {a : Addr} (h : ∃ i, a ∈ fp i) : lk H fp a = none := by unfold lk; rw [if_pos h]
theorem lk_out {a : Addr} (h : ∀ i, a ∉ fp i) : lk H fp a = H a := by unfold lk; rw [if_neg fun ⟨i, z⟩ => h i z]
theorem lk_some {a : Addr} {o : HO} (h : lk H fp a = some o) : H a = some o ∧ ∀ i, a ∉ fp i := by
  by_cases z : ∃ i, a ∈ fp i
  · rw [lk_in z] at h; cases h
  · have z' : ∀ i, a ∉ fp i := fun i m => z ⟨i, m⟩
    rw [lk_out z'] at h
    exact ⟨h, z'⟩
theorem Good.lock (G : Good c H0 res t e fp σ H) : Good c (lk H fp) res t e fp σ H :=
  { G with s0 := fun a o _ h => (lk_some h).1, nw := fun i a m => ⟨lk_in ⟨i, m⟩, (G.nw i a m).2⟩ }
theorem lk_none (G : Good c H0 res t e fp σ H) {a : Addr} (h : lk H fp a = none) : H0 a = none := by
  by_cases z : ∃ i, a ∈ fp i
  · obtain ⟨i, m⟩ := z
    exact (G.nw i a m).1
  · rw [lk_out fun i m => z ⟨i, m⟩] at h
    exact G.h0 h
theorem lk_same (G : Good c H0 res t e fp σ H) (s : SameT c.T (lk H fp) H') : SameT c.T H0 H' := fun a o n h => s a o n (by
  have z : ∀ i, a ∉ fp i := fun i m => by rw [(G.nw i a m).1] at h; cases h
  rw [lk_out z]
  exact G.s0 a o n h)
theorem Good.unlock (G : Good c H0 res t e fp σ H) (G' : Good c (lk H fp) res' t' e' fp' σ' H') : Good c H0 res' t' e' fp' σ' H' :=
  { G' with s0 := lk_same G G'.s0, nw := fun i a m => ⟨lk_none G (G'.nw i a m).1, (G'.nw i a m).2⟩ }
theorem ret_unlock (G : Good c H0 res t e fp σ H) {b : Bool} {d : D} (r : RetOk c.K c.T (lk H fp) H' b d v) : RetOk c.K c.T H0 H' b d v := by
  cases b with
  | true =>
    obtain ⟨q, o, n, k⟩ := r
    exact ⟨q, o, n, fun a m => ⟨lk_none G (k a m).1, (k a m).2⟩⟩
  | false => exact r
theorem fin_unlock (G : Good c H0 [] t e fp σ H) {W : Ends} {fl : Fl} (k : fin c H0 W t' e' fl) : fin c (lk H fp) W t' e' fl := by
  cases fl with
  | nx => exact fun H1 σ1 fp1 G1 => k H1 σ1 fp1 (G.unlock G1)
  | bk => exact fun H1 σ1 fp1 G1 => k H1 σ1 fp1 (G.unlock G1)
  | ct => exact fun H1 σ1 fp1 G1 => k H1 σ1 fp1 (G.unlock G1)
  | rt b d => exact fun H1 v s ti r => k H1 v (lk_same G s) ti (ret_unlock G r)
/-- a frozen value stands in the locked heap -/
theorem Rp.lock (r : Rp c.K c.T H (Fz c.T [] fp) x.2 v) (G : Good c H0 res t e fp σ H) : Rp c.K c.T (lk H fp) (Fr1 c.T) x.2 v := by
  refine r.mono (fun a us h => ⟨h.1, ?_⟩) (fun a h => ⟨h.1, ?_⟩) fun a us h => ⟨h.1.1, ?_⟩
  · rw [lk_out fun i m => by
      obtain ⟨ys, hy, hm⟩ := G.fpt m
      rw [h.2] at hy
      cases hy
      exact hm.1 _ rfl]
    exact h.2
  · rw [lk_out fun i m => by
      obtain ⟨ys, hy, hm⟩ := G.fpt m
      rw [h.2] at hy
      cases hy
      exact hm.2 rfl]
    exact h.2
  · rw [lk_out h.1.2.2]
    exact h.2
end
end Fw
set_option Elab.async false
set_option linter.all false
set_option maxRecDepth 100000
namespace Fw
open PySem L2
section
variable {τ : Type} [Tp τ]
variable {c : Cz} {res res' q q' q1 q2 : List Addr} {t t' : τ} {e e' : Slots} {fp fp' : FP} {σ σ' : L2.St} {H H' H0 : Hp} {x y z : GD} {v w : V} {xs : List GD} {vs : List V}
def iSq (K : PySem.W.Frag) (te : TE) : TI := fun σ H R => te σ H fun x H1 => ∃ a, x = .ref a ∧ (((∃ xs, SqL K H1 a xs) ∧ R (Itl K a) H1) ∨ ((∃ xs, SqT K H1 a xs) ∧ R (Itt K a) H1))
theorem pi_sq {X : Cx} {tg l : Expr} {te : TE} (hl : PE X l te) : PI X tg l (iSq X.K te) := ⟨fun pins s σ H R I h => by
  refine thn (hl.run pins s σ H _ I h) fun u s1 ⟨y, H1, I1, ry, k1⟩ => ?_
  obtain ⟨a, ea, k2⟩ := k1
  subst ea
  cases ry
  have nw : ∀ b : Addr, b ∈ [s1.heap.objs.size] → FpOk X pins H1 b := fun b hb => by
    have eb := List.mem_singleton.mp hb
    rw [eb]
    exact I1.fpOk (Nat.le_refl _) (I1.hok.fresh (Nat.le_refl _))
  rcases k2 with ⟨⟨ys, hy⟩, k3⟩ | ⟨⟨ys, hy⟩, k3⟩
  · obtain ⟨its, _, pl, _⟩ := I1.list hy
    refine wpAny_pyIter_list pl.isList ⟨s1.heap.objs.size, _, _, _, H1, rfl, ?_, turn_list a _, ?_, nw, k3⟩
    · exact I1.kept (t' := s1.toks) fun b ob hb => Heap.get?_push_of_some _ hb
    · exact ⟨_, Heap.get?_push_size _ rfl, rfl, rfl⟩
  · obtain ⟨its, _, tu, _⟩ := I1.tuple hy
    refine wpAny_pyIter_tuple (show Heap.IsTuple s1.heap a its.toArray from tu) ⟨s1.heap.objs.size, _, _, _, H1, rfl, ?_, turn_tuple a _, ?_, nw, k3⟩
    · exact I1.kept (t' := s1.toks) fun b ob hb => Heap.get?_push_of_some _ hb
    · exact ⟨_, Heap.get?_push_size _ rfl, rfl, rfl⟩⟩
def sFor (asg : GD → Slots → Option Slots) (body : Sx τ) : List GD → Sx τ
  | [] => fun t e => some (t, e, .nx)
  | x :: xs => fun t e => (asg x e).bind fun e1 => (body t e1).bind fun (t2, e2, fl) => match fl with
    | .nx => sFor asg body xs t2 e2
    | .ct => sFor asg body xs t2 e2
    | .bk => some (t2, e2, .nx)
    | .rt b d => some (t2, e2, .rt b d)
/-- the items of a list or tuple that stands still -/
def itms : GD → Option (List GD)
  | (g, .tup ds) => if g = .pk ∧ immA ds = false then none else some (ds.map (up .frz))
  | (g, .lst ds) => if g = .pk then none else some (ds.map (up .frz))
  | _ => none
def sForS (asg : GD → Slots → Option Slots) (f : Ex τ) (body : Sx τ) : Sx τ := fun t e => (f t e).bind fun (t1, e1, x) => (itms x).bind fun xs => sFor asg body xs t1 e1
/-- one turn, whatever is walked -/
theorem turn_ok {asg : GD → Slots → Option Slots} {body : Sx τ} {W : Ends} {xs : List GD} {fl : Fl} {N : L2.St → Hp → Prop} (G : Good c H0 [] t e fp σ H) (V : VOk c H0 [] fp H x v [])
    (ev : sFor asg body (x :: xs) t e = some (t', e', fl)) (hN : ∀ t2 e2 fp2 σ2 H2, Good c H0 [] t2 e2 fp2 σ2 H2 → sFor asg body xs t2 e2 = some (t', e', fl) → N σ2 H2) (k : fin c H0 W t' e' fl)
    : rdG c τ asg v σ H fun σ2 H2 => rdS c body { W with nx := N, ct := N, bk := W.nx } σ2 H2 := by
  have ev' : ((asg x e).bind fun e1 => (body t e1).bind fun (t2, e2, fl) => match fl with
    | .nx => sFor asg body xs t2 e2
    | .ct => sFor asg body xs t2 e2
    | .bk => some (t2, e2, .nx)
    | .rt b d => some (t2, e2, .rt b d)) = some (t', e', fl) := ev
  rw [Option.bind_eq_some_iff] at ev'
  obtain ⟨e1, h1, ev'⟩ := ev'
  rw [Option.bind_eq_some_iff] at ev'
  obtain ⟨⟨t2, e2, f2⟩, h2, ev'⟩ := ev'
  refine ⟨H0, t, e, fp, x, [], e1, G, V, h1, fun σ1 fp1 G1 => ⟨H0, t, e1, fp1, t2, e2, f2, G1, h2, ?_⟩⟩
  cases f2 with
  | nx => exact fun H3 σ3 fp3 G3 => hN t2 e2 fp3 σ3 H3 G3 ev'
  | ct => exact fun H3 σ3 fp3 G3 => hN t2 e2 fp3 σ3 H3 G3 ev'
  | bk => cases ev'; exact fun H3 σ3 fp3 G3 => k H3 σ3 fp3 G3
  | rt b d => cases ev'; exact fun H3 v s ti r => k H3 v s ti r
theorem drop_cons {α : Type} {l : List α} {i : Nat} {a : α} (h : l[i]? = some a) : l.drop i = a :: l.drop (i + 1) := by
  obtain ⟨hi, e⟩ := List.getElem?_eq_some_iff.mp h
  rw [List.drop_eq_getElem_cons hi, e]
theorem itms_fz {d : D} (h : itms x = some xs) (V : VOk c H0 [] fp H x v q) : ∃ ds, xs = ds.map (up .frz) ∧ (x.2 = .tup ds ∨ x.2 = .lst ds) ∧ Rp c.K c.T H (Fz c.T [] fp) x.2 v := by
  obtain ⟨g, d⟩ := x
  cases d with
  | tup ds =>
    have h' : (if g = .pk ∧ immA ds = false then none else some (ds.map (up .frz))) = some xs := h
    split at h'
    · cases h'
    · rename_i hg
      cases h'
      refine ⟨ds, rfl, .inl rfl, ?_⟩
      by_cases hp : g = .pk
      · have hi : immA ds = true := by
          cases z : immA ds with
          | true => rfl
          | false => exact absurd ⟨hp, z⟩ hg
        have V' : VOk c H0 [] fp H (.own, .tup ds) v [] := VOk.imm V.rp hi
        exact V'.frz fun z => nomatch z
      · exact V.frz hp
  | lst ds =>
    have h' : (if g = .pk then none else some (ds.map (up .frz))) = some xs := h
    split at h'
    · cases h'
    · rename_i hg
      cases h'
      exact ⟨ds, rfl, .inr rfl, V.frz hg⟩
  | _ => cases h
theorem s_for {X : Cx} {tg it : Expr} {body : List Stmt} {asg : GD → Slots → Option Slots} {f : Ex τ} {g : Sx τ} {pos : Pos} (hk : X.K = c.K) (hp : PassesOwn (model X.prog X.w) X.A X.env X.xe) (hc : X.calm = true) (hi : PE X it (rd c f)) (hg : PG X tg (rdG c τ asg)) (hb : PSs X body (rdS c g))
    (hs : ∀ x, foldedSetIterable it X.env x = pure x := by intro _; rfl) : PS X (.For tg it body [] pos) (rdS c (sForS asg f g)) :=
  imS (ps_for hp hc (pi_sq hi) hg hb hs) fun W σ H h => by
    obtain ⟨H0, t, e, fp, t', e', fl, G, ev, k⟩ := h
    unfold sForS at ev
    rw [Option.bind_eq_some_iff] at ev
    obtain ⟨⟨t1, e1, x⟩, ev1, ev⟩ := ev
    rw [Option.bind_eq_some_iff] at ev
    obtain ⟨xs, ev2, ev⟩ := ev
    refine ⟨H0, [], t, e, fp, t1, e1, x, G, ev1, fun H1 fp1 v q s1 u1 G1 V1 => ?_⟩
    have G1 := G1.less (res' := []) fun a m => nomatch m
    obtain ⟨ds, e2, hx, r1⟩ := itms_fz (d := x.2) ev2 V1
    have r2 := r1.lock G1
    have k1 := fin_unlock G1 k
    have G2 := G1.lock
    generalize lk H1 fp1 = HL at r2 k1 G2
    subst e2
    -- at every turn
    have step : ∀ (i : Nat) (t2 : τ) e2 fp2 σ2 H2, Good c HL [] t2 e2 fp2 σ2 H2 → ∀ us, RpA c.K c.T H2 (Fz c.T [] fp2) ds us → ∀ d, ds[i]? = some d → ∃ u, us[i]? = some u ∧ VOk c HL [] fp2 H2 (up .frz d) u [] := fun i t2 e2 fp2 σ2 H2 G2 us r d hd => by
      obtain ⟨u, h1, h2⟩ := r.get hd
      exact ⟨u, h1, up_ok (d := d) (fun _ => rfl) (fun _ z => z.1) h2⟩
    have dr : ∀ i d, ds[i]? = some d → (ds.map (up .frz)).drop i = up .frz d :: (ds.map (up .frz)).drop (i + 1) := fun i d h => drop_cons (by rw [List.getElem?_map, h]; rfl)
    rcases hx with hx | hx
    · rw [hx] at r2
      obtain ⟨a, us, hv, ht, hl, hr⟩ := r2
      have now : ∀ {t2 e2 fp2 σ2 H2}, Good (τ := τ) c HL [] t2 e2 fp2 σ2 H2 → TupAt c.K c.T H2 a us ∧ RpA c.K c.T H2 (Fz c.T [] fp2) ds us := fun {t2 e2 fp2 σ2 H2} G => by
        have z : Rp c.K c.T HL (Fr1 c.T) (.tup ds) (.ref a) := ⟨a, us, rfl, ht, hl, hr⟩
        exact ⟨ht.same G.s0, hr.same G.s0 fun b n => ⟨n, fun h => ⟨n, fun m => (nomatch m), fun i m => h (G.nw i b m).1⟩⟩⟩
      refine ⟨a, hv, .inr ⟨⟨us, hk ▸ (now G2).1.sq⟩, fun i m σ2 H2 => ∃ t2 e2 fp2, m = ds.length - i ∧ i ≤ ds.length ∧ Good c HL [] t2 e2 fp2 σ2 H2 ∧ sFor asg g ((ds.map (up .frz)).drop i) t2 e2 = some (t', e', fl), ⟨_, t1, e1, fp1, rfl, Nat.zero_le _, G2, ev⟩, ?_⟩⟩
      rintro i m σ2 H2 ⟨t2, e2, fp2, rfl, hi, G3, ev3⟩
      obtain ⟨n1, n2⟩ := now G3
      have lu : us.length = ds.length := n2.len
      by_cases hlt : i < ds.length
      · obtain ⟨d, hd⟩ : ∃ d, ds[i]? = some d := ⟨ds[i], by simp [hlt]⟩
        obtain ⟨u, hu, vu⟩ := step i t2 e2 fp2 σ2 H2 G3 us n2 d hd
        rw [dr i d hd] at ev3
        refine .inr ⟨⟨us, u, hk ▸ n1.sq, hu⟩, fun σ3 H3 => ∃ t3 e3 fp3, Good c HL [] t3 e3 fp3 σ3 H3 ∧ sFor asg g ((ds.map (up .frz)).drop (i + 1)) t3 e3 = some (t', e', fl), fun σ3 H3 ⟨t3, e3, fp3, G4, ev4⟩ => ⟨ds.length - (i + 1), by omega, t3, e3, fp3, rfl, hlt, G4, ev4⟩, fun y H3 yl => ?_⟩
        obtain ⟨y1, y2⟩ := yl
        have : us[i]? = some y := y2 us (hk ▸ n1.sq)
        rw [hu] at this
        cases this
        rw [y1]
        exact turn_ok G3 vu ev3 (fun t3 e3 fp3 σ3 H3 G4 ev4 => ⟨t3, e3, fp3, G4, ev4⟩) k1
      · have : i = ds.length := by omega
        subst this
        rw [List.drop_eq_nil_of_le (by simp)] at ev3
        cases ev3
        exact .inl ⟨⟨us, hk ▸ n1.sq, by omega⟩, k1 H2 σ2 fp2 G3⟩
    · rw [hx] at r2
      obtain ⟨a, us, hv, ht, hl, hr⟩ := r2
      have now : ∀ {t2 e2 fp2 σ2 H2}, Good (τ := τ) c HL [] t2 e2 fp2 σ2 H2 → SqL c.K H2 a us ∧ RpA c.K c.T H2 (Fz c.T [] fp2) ds us := fun {t2 e2 fp2 σ2 H2} G => by
        exact ⟨(ht.same (A' := Fr1 c.T) G.s0 fun b n => ⟨n, fun _ => n⟩).sq, hr.same G.s0 fun b n => ⟨n, fun h => ⟨n, fun m => (nomatch m), fun i m => h (G.nw i b m).1⟩⟩⟩
      refine ⟨a, hv, .inl ⟨⟨us, hk ▸ (now G2).1⟩, fun i m σ2 H2 => ∃ t2 e2 fp2, m = ds.length - i ∧ i ≤ ds.length ∧ Good c HL [] t2 e2 fp2 σ2 H2 ∧ sFor asg g ((ds.map (up .frz)).drop i) t2 e2 = some (t', e', fl), ⟨_, t1, e1, fp1, rfl, Nat.zero_le _, G2, ev⟩, ?_⟩⟩
      rintro i m σ2 H2 ⟨t2, e2, fp2, rfl, hi, G3, ev3⟩
      obtain ⟨n1, n2⟩ := now G3
      have lu : us.length = ds.length := n2.len
      by_cases hlt : i < ds.length
      · obtain ⟨d, hd⟩ : ∃ d, ds[i]? = some d := ⟨ds[i], by simp [hlt]⟩
        obtain ⟨u, hu, vu⟩ := step i t2 e2 fp2 σ2 H2 G3 us n2 d hd
        rw [dr i d hd] at ev3
        refine .inr ⟨⟨us, u, hk ▸ n1, hu⟩, fun σ3 H3 => ∃ t3 e3 fp3, Good c HL [] t3 e3 fp3 σ3 H3 ∧ sFor asg g ((ds.map (up .frz)).drop (i + 1)) t3 e3 = some (t', e', fl), fun σ3 H3 ⟨t3, e3, fp3, G4, ev4⟩ => ⟨ds.length - (i + 1), by omega, t3, e3, fp3, rfl, hlt, G4, ev4⟩, fun y H3 yl => ?_⟩
        obtain ⟨y1, y2⟩ := yl
        have : us[i]? = some y := y2 us (hk ▸ n1)
        rw [hu] at this
        cases this
        rw [y1]
        exact turn_ok G3 vu ev3 (fun t3 e3 fp3 σ3 H3 G4 ev4 => ⟨t3, e3, fp3, G4, ev4⟩) k1
      · have : i = ds.length := by omega
        subst this
        rw [List.drop_eq_nil_of_le (by simp)] at ev3
        cases ev3
        exact .inl ⟨⟨us, hk ▸ n1, by omega⟩, k1 H2 σ2 fp2 G3⟩
def rgD (lo : Int) (n : Nat) : List GD := (List.range n).map fun (k : Nat) => ((.own, .int (lo + (k : Int))) : GD)
def inB (i : Int) : Bool := decide (-(2 ^ 62) ≤ i ∧ i < 2 ^ 62)
/-- range(n), range(a, b): the first one and how many -/
def rgOf : List GD → Option (Int × Nat)
  | [(_, .int j)] => if inB j then some (0, j.toNat) else none
  | [(_, .int i), (_, .int j)] => if inB i && inB j then some (i, (j - i).toNat) else none
  | _ => none
def sForR (asg : GD → Slots → Option Slots) (fs : List (Ex τ)) (body : Sx τ) : Sx τ := fun t e => (evA fs t e).bind fun (t1, e1, xs) => (rgOf xs).bind fun p => sFor asg body (rgD p.1 p.2) t1 e1
theorem inB_ok {i : Int} (h : inB i = true) : -(2 ^ 62) ≤ i ∧ i < 2 ^ 62 := of_decide_eq_true h
theorem rgD_get {lo : Int} {n i : Nat} (h : i < n) : (rgD lo n).drop i = (.own, .int (lo + (i : Int))) :: (rgD lo n).drop (i + 1) := drop_cons (by
  unfold rgD
  rw [List.getElem?_map, List.getElem?_range h]
  rfl)
/-- the walk over a range -/
theorem range_run {asg : GD → Slots → Option Slots} {g : Sx τ} {W : Ends} {lo : Int} {n : Nat} {fl : Fl} (G : Good c H0 [] t e fp σ H) (ev : sFor asg g (rgD lo n) t e = some (t', e', fl)) (k : fin c H0 W t' e' fl) :
    ∃ Wi : Nat → Nat → L2.St → Hp → Prop, (∃ m, Wi 0 m σ H) ∧ ∀ i m σ H, Wi i m σ H → ((Itr lo n).stop i H ∧ W.nx σ H) ∨ ((Itr lo n).go i H ∧ ∃ N : L2.St → Hp → Prop, (∀ σ' H', N σ' H' → ∃ m', m' < m ∧ Wi (i + 1) m' σ' H') ∧
      ∀ x H', (Itr lo n).yld i H x H' → rdG c τ asg x σ H' fun σ2 H2 => rdS c g { W with nx := N, ct := N, bk := W.nx } σ2 H2) := by
  refine ⟨fun i m σ2 H2 => ∃ t2 e2 fp2, m = n - i ∧ i ≤ n ∧ Good c H0 [] t2 e2 fp2 σ2 H2 ∧ sFor asg g ((rgD lo n).drop i) t2 e2 = some (t', e', fl), ⟨_, t, e, fp, rfl, Nat.zero_le _, G, ev⟩, ?_⟩
  rintro i m σ2 H2 ⟨t2, e2, fp2, rfl, hi, G3, ev3⟩
  by_cases hlt : i < n
  · rw [rgD_get hlt] at ev3
    refine .inr ⟨hlt, fun σ3 H3 => ∃ t3 e3 fp3, Good c H0 [] t3 e3 fp3 σ3 H3 ∧ sFor asg g ((rgD lo n).drop (i + 1)) t3 e3 = some (t', e', fl), fun σ3 H3 ⟨t3, e3, fp3, G4, ev4⟩ => ⟨n - (i + 1), by omega, t3, e3, fp3, rfl, hlt, G4, ev4⟩, fun y H3 yl => ?_⟩
    obtain ⟨y1, y2⟩ := yl
    rw [y1, y2]
    exact turn_ok G3 isc ev3 (fun t3 e3 fp3 σ3 H3 G4 ev4 => ⟨t3, e3, fp3, G4, ev4⟩) k
  · have : i = n := by omega
    subst this
    rw [List.drop_eq_nil_of_le (by unfold rgD; simp)] at ev3
    cases ev3
    exact .inl ⟨Nat.le_refl _, k H2 σ2 fp2 G3⟩
theorem s_forR1 {X : Cx} {tg a : Expr} {body : List Stmt} {asg : GD → Slots → Option Slots} {f : Ex τ} {g : Sx τ} {p pos' pos : Pos} (hp : PassesOwn (model X.prog X.w) X.A X.env X.xe) (hc : X.calm = true) (hgl : Gl X "range") (hm : X.mg "range" = none) (ha : PA X [a] (rdA c (evA [f]))) (hg : PG X tg (rdG c τ asg)) (hb : PSs X body (rdS c g))
    (hs : starEach [a] X.env = [(false, eval a X.env)] := by rfl) : PS X (.For tg (.Call (.Name "range" p) [a] [] pos') body [] pos) (rdS c (sForR asg [f] g)) :=
  imS (ps_for hp hc (pi_range1 hgl hm ha hs) hg hb) fun W σ H h => by
    obtain ⟨H0, t, e, fp, t', e', fl, G, ev, k⟩ := h
    unfold sForR at ev
    rw [Option.bind_eq_some_iff] at ev
    obtain ⟨⟨t1, e1, xs⟩, ev1, ev⟩ := ev
    rw [Option.bind_eq_some_iff] at ev
    obtain ⟨⟨lo, n⟩, ev2, ev⟩ := ev
    refine ⟨H0, [], t, e, fp, t1, e1, xs, G, ev1, fun H1 fp1 vs q s1 u1 G1 V1 => ?_⟩
    have G1 := G1.less (res' := []) fun a m => nomatch m
    have l1 := evA_len ev1
    match xs, l1 with
    | [(_, d)], _ =>
      cases d with
      | int j =>
        have ev2' : (if inB j then some ((0 : Int), j.toNat) else none) = some (lo, n) := ev2
        split at ev2'
        · rename_i hb
          cases ev2'
          obtain ⟨v, r, q1, q2, e3, e4, a1, a2⟩ := V1
          have hr : r = [] := a2.1
          have hv : v = .int j := a1.rp
          subst hr hv
          exact ⟨j, e3, (inB_ok hb).1, (inB_ok hb).2, range_run G1 ev k⟩
        · cases ev2'
      | _ => cases ev2
theorem s_forR2 {X : Cx} {tg a b : Expr} {body : List Stmt} {asg : GD → Slots → Option Slots} {f f' : Ex τ} {g : Sx τ} {p pos' pos : Pos} (hp : PassesOwn (model X.prog X.w) X.A X.env X.xe) (hc : X.calm = true) (hgl : Gl X "range") (hm : X.mg "range" = none) (ha : PA X [a, b] (rdA c (evA [f, f']))) (hg : PG X tg (rdG c τ asg)) (hb : PSs X body (rdS c g))
    (hs : starEach [a, b] X.env = [(false, eval a X.env), (false, eval b X.env)] := by rfl) (hs2 : starEach [b] X.env = [(false, eval b X.env)] := by rfl) : PS X (.For tg (.Call (.Name "range" p) [a, b] [] pos') body [] pos) (rdS c (sForR asg [f, f'] g)) :=
  imS (ps_for hp hc (pi_range2 hgl hm ha hs hs2) hg hb) fun W σ H h => by
    obtain ⟨H0, t, e, fp, t', e', fl, G, ev, k⟩ := h
    unfold sForR at ev
    rw [Option.bind_eq_some_iff] at ev
    obtain ⟨⟨t1, e1, xs⟩, ev1, ev⟩ := ev
    rw [Option.bind_eq_some_iff] at ev
    obtain ⟨⟨lo, n⟩, ev2, ev⟩ := ev
    refine ⟨H0, [], t, e, fp, t1, e1, xs, G, ev1, fun H1 fp1 vs q s1 u1 G1 V1 => ?_⟩
    have G1 := G1.less (res' := []) fun a m => nomatch m
    have l1 := evA_len ev1
    match xs, l1 with
    | [(_, d), (_, d')], _ =>
      cases d with
      | int i =>
        cases d' with
        | int j =>
          have ev2' : (if inB i && inB j then some (i, (j - i).toNat) else none) = some (lo, n) := ev2
          split at ev2'
          · rename_i hb
            rw [Bool.and_eq_true] at hb
            cases ev2'
            obtain ⟨v, r, q1, q2, e3, e4, a1, a2⟩ := V1
            obtain ⟨v', r', q1', q2', e3', e4', a1', a2'⟩ := a2
            have hr : r' = [] := a2'.1
            have hv : v = .int _ := a1.rp
            have hv' : v' = .int j := a1'.rp
            subst hr hv hv'
            exact ⟨_, _, by rw [e3, e3'], ⟨(inB_ok hb.1).1, (inB_ok hb.1).2, (inB_ok hb.2).1, (inB_ok hb.2).2⟩, range_run G1 ev k⟩
          · cases ev2'
        | _ => cases ev2
      | _ => cases ev2
def whF (p : Tx τ) (b : Sx τ) : Nat → Sx τ
  | 0 => fun _ _ => none
  | n + 1 => fun t e => (p t e).bind fun (t1, e1, k) => match k with
    | true => (b t1 e1).bind fun (t2, e2, fl) => match fl with
      | .nx => whF p b n t2 e2
      | .ct => whF p b n t2 e2
      | .bk => some (t2, e2, .nx)
      | .rt b d => some (t2, e2, .rt b d)
    | false => some (t1, e1, .nx)
open Classical in
noncomputable def sWhile (p : Tx τ) (b : Sx τ) : Sx τ := fun t e => if h : ∃ n, ∃ r, whF p b n t e = some r then whF p b (Classical.choose h) t e else none
theorem sWhile_some {p : Tx τ} {b : Sx τ} {t : τ} {e : Slots} {r} (h : sWhile p b t e = some r) : ∃ n, whF p b n t e = some r := by
  unfold sWhile at h
  split at h
  · exact ⟨_, h⟩
  · cases h
theorem s_while {X : Cx} {cd : Expr} {body : List Stmt} {p : Tx τ} {g : Sx τ} {pos : Pos} (hp : PassesOwn (model X.prog X.w) X.A X.env X.xe) (hc : PT X cd (rdT c p)) (hb : PSs X body (rdS c g)) : PS X (.While cd body [] pos) (rdS c (sWhile p g)) :=
  imS (ps_while hp hc hb) fun W σ H h => by
    obtain ⟨H0, t, e, fp, t', e', fl, G, ev, k⟩ := h
    obtain ⟨n, ev⟩ := sWhile_some ev
    refine ⟨fun m σ2 H2 => ∃ t2 e2 fp2, Good c H0 [] t2 e2 fp2 σ2 H2 ∧ whF p g m t2 e2 = some (t', e', fl), ⟨n, t, e, fp, G, ev⟩, ?_⟩
    rintro m σ2 H2 ⟨t2, e2, fp2, G2, ev2⟩
    cases m with
    | zero => cases ev2
    | succ m =>
      unfold whF at ev2
      rw [Option.bind_eq_some_iff] at ev2
      obtain ⟨⟨t3, e3, b⟩, ev3, ev2⟩ := ev2
      refine ⟨H0, [], t2, e2, fp2, t3, e3, b, G2, ev3, fun H3 fp3 s3 u3 G3 => ?_⟩
      cases b with
      | false =>
        rw [if_neg Bool.false_ne_true]
        cases ev2
        exact k H3 σ2 fp3 G3
      | true =>
        rw [if_pos rfl]
        dsimp only at ev2
        rw [Option.bind_eq_some_iff] at ev2
        obtain ⟨⟨t4, e4, f4⟩, ev4, ev2⟩ := ev2
        refine ⟨fun σ4 H4 => ∃ t5 e5 fp5, Good c H0 [] t5 e5 fp5 σ4 H4 ∧ whF p g m t5 e5 = some (t', e', fl), fun σ4 H4 z => ⟨m, Nat.lt_succ_self m, z⟩, H0, t3, e3, fp3, t4, e4, f4, G3, ev4, ?_⟩
        cases f4 with
        | nx => exact fun H5 σ5 fp5 G5 => ⟨t4, e4, fp5, G5, ev2⟩
        | ct => exact fun H5 σ5 fp5 G5 => ⟨t4, e4, fp5, G5, ev2⟩
        | bk => cases ev2; exact fun H5 σ5 fp5 G5 => k H5 σ5 fp5 G5
        | rt b d => cases ev2; exact fun H5 v s ti r => k H5 v s ti r
end
end Fw
set_option Elab.async false
set_option linter.all false
set_option maxRecDepth 100000
namespace Fw
open PySem L2
section
variable {τ : Type} [Tp τ]
class Stab (f : Ex τ) : Prop where h : ∀ {t e t' e' x}, f t e = some (t', e', x) → e' = e
class StabT (f : Tx τ) : Prop where h : ∀ {t e t' e' x}, f t e = some (t', e', x) → e' = e
class StabA (fs : List (Ex τ)) : Prop where h : ∀ {t e t' e' x}, evA fs t e = some (t', e', x) → e' = e
instance {d : D} : Stab (xC (τ := τ) d) := ⟨fun h => by cases h; rfl⟩
instance {i : Nat} : Stab (xV (τ := τ) i) := ⟨fun {t e t' e' x} h => by
  unfold xV at h
  split at h
  · split at h
    · cases h; rfl
    · split at h
      · cases h
      · cases h; rfl
  · cases h⟩
instance {i : Nat} : Stab (xP (τ := τ) i) := ⟨fun {t e t' e' x} h => by
  unfold xP at h
  split at h
  · cases h; rfl
  · cases h⟩
instance {s : GD → GD → Option GD} {f g : Ex τ} [Stab f] [Stab g] : Stab (x2 s f g) := ⟨fun {t e t' e' x} h => by
  unfold x2 at h
  rw [Option.bind_eq_some_iff] at h
  obtain ⟨⟨t1, e1, y⟩, h1, h⟩ := h
  rw [Option.bind_eq_some_iff] at h
  obtain ⟨⟨t2, e2, z⟩, h2, h⟩ := h
  rw [Option.map_eq_some_iff] at h
  obtain ⟨_, _, h⟩ := h
  cases h
  rw [Stab.h h2, Stab.h h1]⟩
instance {s : GD → Option GD} {f : Ex τ} [Stab f] : Stab (x1 s f) := ⟨fun {t e t' e' x} h => by
  unfold x1 at h
  rw [Option.bind_eq_some_iff] at h
  obtain ⟨⟨t1, e1, y⟩, h1, h⟩ := h
  rw [Option.map_eq_some_iff] at h
  obtain ⟨_, _, h⟩ := h
  cases h
  exact Stab.h h1⟩
instance : StabA ([] : List (Ex τ)) := ⟨fun h => by cases h; rfl⟩
instance {f : Ex τ} {fs : List (Ex τ)} [Stab f] [StabA fs] : StabA (f :: fs) := ⟨fun {t e t' e' x} h => by
  unfold evA at h
  rw [Option.bind_eq_some_iff] at h
  obtain ⟨⟨t1, e1, y⟩, h1, h⟩ := h
  rw [Option.map_eq_some_iff] at h
  obtain ⟨⟨t2, e2, ys⟩, h2, h⟩ := h
  cases h
  rw [StabA.h h2, Stab.h h1]⟩
instance {fs : List (Ex τ)} [StabA fs] : Stab (xTup fs) := ⟨fun {t e t' e' x} h => by
  unfold xTup at h
  rw [Option.map_eq_some_iff] at h
  obtain ⟨_, h1, h⟩ := h
  cases h
  exact StabA.h h1⟩
instance {fs : List (Ex τ)} [StabA fs] : Stab (xLst fs) := ⟨fun {t e t' e' x} h => by
  unfold xLst at h
  rw [Option.map_eq_some_iff] at h
  obtain ⟨_, h1, h⟩ := h
  cases h
  exact StabA.h h1⟩
instance {φ : Fn τ} {fs : List (Ex τ)} [StabA fs] : Stab (xCall φ fs) := ⟨fun {t e t' e' x} h => by
  unfold xCall at h
  rw [Option.bind_eq_some_iff] at h
  obtain ⟨_, h1, h⟩ := h
  rw [Option.map_eq_some_iff] at h
  obtain ⟨_, _, h⟩ := h
  cases h
  exact StabA.h h1⟩
instance {f : Ex τ} [Stab f] : StabT (xT f) := ⟨fun {t e t' e' x} h => by
  unfold xT at h
  rw [Option.bind_eq_some_iff] at h
  obtain ⟨_, h1, h⟩ := h
  rw [Option.map_eq_some_iff] at h
  obtain ⟨_, _, h⟩ := h
  cases h
  exact Stab.h h1⟩
instance {f : Ex τ} [Stab f] : StabT (xB f) := ⟨fun {t e t' e' x} h => by
  unfold xB at h
  rw [Option.bind_eq_some_iff] at h
  obtain ⟨⟨_, _, _, _⟩, h1, h⟩ := h
  dsimp only at h
  split at h
  · cases h; exact Stab.h h1
  · cases h⟩
instance {f g : Tx τ} [StabT f] [StabT g] : StabT (xAndT f g) := ⟨fun {t e t' e' x} h => by
  unfold xAndT at h
  rw [Option.bind_eq_some_iff] at h
  obtain ⟨⟨_, _, _⟩, h1, h⟩ := h
  dsimp only at h
  split at h
  · rw [StabT.h h, StabT.h h1]
  · cases h; exact StabT.h h1⟩
instance {f g : Tx τ} [StabT f] [StabT g] : StabT (xOrT f g) := ⟨fun {t e t' e' x} h => by
  unfold xOrT at h
  rw [Option.bind_eq_some_iff] at h
  obtain ⟨⟨_, _, _⟩, h1, h⟩ := h
  dsimp only at h
  split at h
  · cases h; exact StabT.h h1
  · rw [StabT.h h, StabT.h h1]⟩
instance {f : Tx τ} [StabT f] : StabT (xNotT f) := ⟨fun {t e t' e' x} h => by
  unfold xNotT at h
  rw [Option.map_eq_some_iff] at h
  obtain ⟨_, h1, h⟩ := h
  cases h; exact StabT.h h1⟩
instance {f g : Ex τ} [Stab f] [Stab g] : Stab (xAnd f g) := ⟨fun {t e t' e' x} h => by
  unfold xAnd at h
  rw [Option.bind_eq_some_iff] at h
  obtain ⟨⟨_, _, _, _⟩, h1, h⟩ := h
  dsimp only at h
  split at h
  · rw [Stab.h h, Stab.h h1]
  · cases h; exact Stab.h h1
  · cases h⟩
instance {f g : Ex τ} [Stab f] [Stab g] : Stab (xOr f g) := ⟨fun {t e t' e' x} h => by
  unfold xOr at h
  rw [Option.bind_eq_some_iff] at h
  obtain ⟨⟨_, _, _, _⟩, h1, h⟩ := h
  dsimp only at h
  split at h
  · rw [Stab.h h, Stab.h h1]
  · cases h; exact Stab.h h1
  · cases h⟩
instance {f : Ex τ} [Stab f] : Stab (xNot f) := ⟨fun {t e t' e' x} h => by
  unfold xNot at h
  rw [Option.bind_eq_some_iff] at h
  obtain ⟨⟨_, _, _, _⟩, h1, h⟩ := h
  dsimp only at h
  split at h
  · cases h; exact Stab.h h1
  · cases h⟩
instance {p : Tx τ} {f g : Ex τ} [StabT p] [Stab f] [Stab g] : Stab (xIf p f g) := ⟨fun {t e t' e' x} h => by
  unfold xIf at h
  rw [Option.bind_eq_some_iff] at h
  obtain ⟨⟨_, _, _⟩, h1, h⟩ := h
  dsimp only at h
  split at h
  · rw [Stab.h h, StabT.h h1]
  · rw [Stab.h h, StabT.h h1]⟩
instance {p1 p2 : Int → Int → Bool} {f g h : Ex τ} [Stab f] [Stab g] [Stab h] : Stab (xCh p1 p2 f g h) := ⟨fun {t e t' e' x} ev => by
  unfold xCh at ev
  rw [Option.bind_eq_some_iff] at ev
  obtain ⟨⟨_, _, _, _⟩, h1, ev⟩ := ev
  rw [Option.bind_eq_some_iff] at ev
  obtain ⟨⟨_, _, _, _⟩, h2, ev⟩ := ev
  dsimp only at ev
  split at ev
  · split at ev
    · rw [Option.bind_eq_some_iff] at ev
      obtain ⟨⟨_, _, _, _⟩, h3, ev⟩ := ev
      dsimp only at ev
      split at ev
      · cases ev
        rw [Stab.h h3, Stab.h h2, Stab.h h1]
      · cases ev
    · cases ev
      rw [Stab.h h2, Stab.h h1]
  · cases ev⟩
def xYes : Tx τ := fun t e => some (t, e, true)
instance : StabT (xYes (τ := τ)) := ⟨fun h => by cases h; rfl⟩
variable {c : Cz} {res res' q q' q1 q2 : List Addr} {t t' : τ} {e e' : Slots} {fp fp' : FP} {σ σ' : L2.St} {H H' H0 : Hp} {x y z : GD} {v w : V} {xs : List GD} {vs : List V}
theorem zip_inj {α β : Type} : ∀ {ks : List α} {us us' : List β}, ks.length = us.length → ks.length = us'.length → ks.zip us = ks.zip us' → us = us'
  | [], [], [], _, _, _ => rfl
  | _ :: _, [], _, h, _, _ => by cases h
  | _ :: _, _, [], _, h, _ => by cases h
  | k :: ks, u :: us, u' :: us', h, h', e => by
    rw [List.zip_cons_cons, List.zip_cons_cons] at e
    injection e with e1 e2
    injection e1 with _ e1
    rw [e1, zip_inj (Nat.succ.inj h) (Nat.succ.inj h') e2]
theorem Ky.obj_inj {ks : Ky} {us us' : List V} (h : ks.len = us.length) (h' : ks.len = us'.length) (e : ks.obj us = ks.obj us') : us = us' := by
  cases ks with
  | k ks => exact zip_inj h h' (by injection e)
  | t ks => exact zip_inj h h' (by injection e)
mutual
theorem Ow.uniq {K : PySem.W.Frag} {T : Addr × Addr} : ∀ (d : D) (q q' : List Addr) (v : V), Ow K T H d q v → Ow K T H d q' v → (∀ a ∈ q, a ∈ q') 
  | .non, q, _, _, h, _, a, m => by rw [h.1] at m; cases m
  | .bl _, q, _, _, h, _, a, m => by rw [h.1] at m; cases m
  | .int _, q, _, _, h, _, a, m => by rw [h.1] at m; cases m
  | .str _, q, _, _, h, _, a, m => by rw [h.1] at m; cases m
  | .tok, q, _, _, h, _, a, m => by rw [h.1] at m; cases m
  | .dct, q, _, _, h, _, a, m => by rw [h.1] at m; cases m
  | .tup ds, q, q', v, h, h', a, m => by
    obtain ⟨p, us, e1, t1, _, o1⟩ := h
    obtain ⟨p', us', e2, t2, _, o2⟩ := h'
    rw [e1] at e2
    cases e2
    have same : us = us' := by
      have z := t1.2.symm.trans t2.2
      cases z
      rfl
    subst same
    exact OwA.uniq ds q q' us o1 o2 a m
  | .lst ds, q, q', v, h, h', a, m => by
    obtain ⟨p, us, r, e1, e2, t1, _, o1⟩ := h
    obtain ⟨p', us', r', e1', e2', t1', _, o1'⟩ := h'
    rw [e1] at e1'
    cases e1'
    rw [t1] at t1'
    cases t1'
    subst e2 e2'
    rcases List.mem_cons.mp m with z | z
    · rw [z]; exact List.mem_cons_self
    · exact List.mem_cons_of_mem _ (OwA.uniq ds r r' us o1 o1' a z)
  | .dk ks ds, q, q', v, h, h', a, m => by
    obtain ⟨p, us, r, e1, e2, t1, l1, o1⟩ := h
    obtain ⟨p', us', r', e1', e2', t1', l1', o1'⟩ := h'
    rw [e1] at e1'
    cases e1'
    have same : us = us' := Ky.obj_inj l1.2.1 l1'.2.1 (by rw [t1] at t1'; exact Option.some.inj t1')
    subst same
    subst e2 e2'
    rcases List.mem_cons.mp m with z | z
    · rw [z]; exact List.mem_cons_self
    · exact List.mem_cons_of_mem _ (OwA.uniq ds r r' us o1 o1' a z)
theorem OwA.uniq {K : PySem.W.Frag} {T : Addr × Addr} : ∀ (ds : List D) (q q' : List Addr) (vs : List V), OwA K T H ds q vs → OwA K T H ds q' vs → (∀ a ∈ q, a ∈ q')
  | [], q, _, _, h, _, a, m => by rw [h.1] at m; cases m
  | d :: ds, q, q', vs, h, h', a, m => by
    obtain ⟨q1, q2, v, r, e1, e2, x, y⟩ := h
    obtain ⟨q1', q2', v', r', e1', e2', x', y'⟩ := h'
    rw [e2] at e2'
    cases e2'
    subst e1 e1'
    rcases List.mem_append.mp m with z | z
    · exact List.mem_append_left _ (Ow.uniq d q1 q1' v x x' a z)
    · exact List.mem_append_right _ (OwA.uniq ds q2 q2' r y y' a z)
end
end
end Fw
set_option Elab.async false
set_option linter.all false
set_option maxRecDepth 100000
namespace Fw
open PySem L2
section
variable {τ : Type} [Tp τ]
variable {c : Cz} {res res' q q' q1 q2 : List Addr} {t t' : τ} {e e' : Slots} {fp fp' : FP} {σ σ' : L2.St} {H H' H0 : Hp} {x y z : GD} {v w : V} {xs : List GD} {vs : List V}
theorem Good.fps (G : Good c H0 res t e fp σ H) {H1 : Hp} {t1 : τ} {r1 : List Addr} {h0 : Hp} (G1 : Good c h0 r1 t1 e fp' σ H1) (s : SameT c.T H H1) {i : Nat} {a : Addr} (m : a ∈ fp i) : a ∈ fp' i := by
  by_cases h : ∀ d, e[i]? ≠ some (some (true, d))
  · rw [G.fe i h] at m; cases m
  · have h' : ∃ d, e[i]? = some (some (true, d)) := Classical.byContradiction fun z => h fun d q => z ⟨d, q⟩
    obtain ⟨d, h'⟩ := h'
    obtain ⟨v, v1, o⟩ := G.ow i d h'
    obtain ⟨v', v1', o'⟩ := G1.ow i d h'
    rw [v1] at v1'
    cases v1'
    exact Ow.uniq d _ _ v (o.same s fun a m => (G.nw i a m).2.1) o' a m
def wipeE (e : Slots) : List Nat → Slots
  | [] => e
  | v :: vs => (wipeE e vs).set v none
theorem wipeE_len : ∀ {vs : List Nat}, (wipeE e vs).length = e.length
  | [] => rfl
  | v :: vs => by unfold wipeE; rw [List.length_set, wipeE_len]
theorem wipeE_get : ∀ {vs : List Nat} {i : Nat} {p : Bool × D}, (wipeE e vs)[i]? = some (some p) → e[i]? = some (some p) ∧ i ∉ vs
  | [], i, p, h => ⟨h, fun m => nomatch m⟩
  | v :: vs, i, p, h => by
    unfold wipeE at h
    by_cases z : i = v
    · subst z
      by_cases l : i < (wipeE e vs).length
      · rw [List.getElem?_set_self l] at h; cases h
      · rw [List.getElem?_eq_none (by rw [List.length_set]; omega)] at h; cases h
    · rw [List.getElem?_set_ne (Ne.symm z)] at h
      obtain ⟨a, b⟩ := wipeE_get h
      exact ⟨a, fun m => (List.mem_cons.mp m).elim z b⟩
theorem wipeE_out : ∀ {vs : List Nat} {i : Nat}, i ∉ vs → (wipeE e vs)[i]? = e[i]?
  | [], i, h => rfl
  | v :: vs, i, h => by
    unfold wipeE
    rw [List.getElem?_set_ne fun z => h (by rw [z]; exact List.mem_cons_self)]
    exact wipeE_out fun m => h (List.mem_cons_of_mem _ m)
theorem wipe_get {vs : List Nat} {i : Nat} : (L2.wipe σ vs)[i]? = if i ∈ vs ∧ i < σ.length then some none else σ[i]? := by
  induction vs with
  | nil => rw [if_neg fun z => nomatch z.1]; rfl
  | cons v vs ih =>
    show ((L2.wipe σ vs).set v none)[i]? = _
    by_cases z : v = i
    · subst z
      by_cases l : v < σ.length
      · rw [if_pos ⟨List.mem_cons_self, l⟩, List.getElem?_set_self (by rw [L2.wipe_length]; exact l)]
      · rw [if_neg fun z => l z.2, List.getElem?_eq_none (by rw [List.length_set, L2.wipe_length]; omega), List.getElem?_eq_none (by omega)]
    · rw [List.getElem?_set_ne z, ih]
      by_cases m : i ∈ vs ∧ i < σ.length
      · rw [if_pos m, if_pos ⟨List.mem_cons_of_mem _ m.1, m.2⟩]
      · rw [if_neg m, if_neg fun k => m ⟨(List.mem_cons.mp k.1).resolve_left (Ne.symm z), k.2⟩]
theorem wipe_same {vs is : List Nat} {σ2 : L2.St} (hi : ∀ j, j ∈ is → j ∈ vs) (hl : σ2.length = (L2.wipe σ vs).length) (h : ∀ j : Nat, j ∉ is → σ2[j]? = (L2.wipe σ vs)[j]?) : L2.wipe σ2 vs = L2.wipe σ vs := by
  refine List.ext_getElem? fun j => ?_
  rw [wipe_get, wipe_get]
  rw [L2.wipe_length] at hl
  by_cases m : j ∈ vs ∧ j < σ.length
  · rw [if_pos m, if_pos (by rw [hl]; exact m)]
  · rw [if_neg m, if_neg (by rw [hl]; exact m)]
    by_cases n : j ∈ vs
    · have : ¬ j < σ.length := fun z => m ⟨n, z⟩
      rw [List.getElem?_eq_none (by omega), List.getElem?_eq_none (by omega)]
    · rw [h j fun z => n (hi j z), wipe_get, if_neg m]
open Classical in
theorem Good.wipe (G : Good c H0 res t e fp σ H) (vs : List Nat) : Good c H0 (res ++ vs.flatMap fp) t (wipeE e vs) (fun i => if i ∈ vs then [] else fp i) (L2.wipe σ vs) H where
  s0 := G.s0
  ti := G.ti
  len := by rw [wipeE_len, L2.wipe_length]; exact G.len
  ow := fun i d h => by
    obtain ⟨h1, h2⟩ := wipeE_get h
    obtain ⟨v, a, b⟩ := G.ow i d h1
    exact ⟨v, by rw [wipe_get, if_neg fun z => h2 z.1]; exact a, by rw [if_neg h2]; exact b⟩
  fz := fun i d h => by
    obtain ⟨h1, h2⟩ := wipeE_get h
    obtain ⟨v, a, b⟩ := G.fz i d h1
    refine ⟨v, by rw [wipe_get, if_neg fun z => h2 z.1]; exact a, b.same SameT.rf fun y z => ⟨z.1, fun _ => ⟨z.1, fun m => ?_, fun j m => ?_⟩⟩⟩
    · rcases List.mem_append.mp m with m | m
      · exact z.2.1 m
      · obtain ⟨k, _, m⟩ := List.mem_flatMap.mp m
        exact z.2.2 k m
    · dsimp only at m
      by_cases n : j ∈ vs
      · rw [if_pos n] at m; cases m
      · rw [if_neg n] at m; exact z.2.2 j m
  fe := fun i h => by
    by_cases n : i ∈ vs
    · rw [if_pos n]
    · rw [if_neg n]
      refine G.fe i fun d z => h d ?_
      rw [wipeE_out n]; exact z
  nd := fun i => by
    by_cases n : i ∈ vs
    · rw [if_pos n]; exact List.nodup_nil
    · rw [if_neg n]; exact G.nd i
  dj := fun i j a m n => by
    by_cases k : i ∈ vs
    · rw [if_pos k] at m; cases m
    · by_cases l : j ∈ vs
      · rw [if_pos l] at n; cases n
      · rw [if_neg k] at m
        rw [if_neg l] at n
        exact G.dj i j a m n
  nw := fun i a m => by
    by_cases k : i ∈ vs
    · rw [if_pos k] at m; cases m
    · rw [if_neg k] at m
      refine ⟨(G.nw i a m).1, (G.nw i a m).2.1, fun z => ?_⟩
      rcases List.mem_append.mp z with z | z
      · exact (G.nw i a m).2.2 z
      · obtain ⟨j, hj, z⟩ := List.mem_flatMap.mp z
        exact k (by rw [G.dj i j a m z]; exact hj)
  rs := fun a m => by
    rcases List.mem_append.mp m with m | m
    · exact G.rs a m
    · obtain ⟨j, _, m⟩ := List.mem_flatMap.mp m
      obtain ⟨ys, hy, hm⟩ := G.fpt m
      exact ⟨by rw [hy]; exact fun z => (nomatch z), (G.nw j a m).2.1⟩
def rdGr (c : Cz) (τ : Type) [Tp τ] (asg : GD → Slots → Option Slots) (is : List Nat) : TG := fun v σ H Q => ∃ H0 res t e fp x e', Good (τ := τ) c H0 res t e fp σ H ∧ VOk c H0 res fp H x v [] ∧ x.1 ≠ .pk ∧ asg x e = some e' ∧
  ∀ σ' fp', σ'.length = σ.length → (∀ j : Nat, j ∉ is → σ'[j]? = σ[j]?) → Good (τ := τ) c H0 res t e' fp' σ' H → Sub fp' fp → (∀ j, j ∉ is → fp' j = fp j) → Q σ' H
theorem st_okR (G : Good c H0 res t e fp σ H) {i : Nat} (V : VOk c H0 res fp H x v []) (h : stI i x e = some e') (np : x.1 ≠ .pk) : ∃ fp', Good c H0 res t e' fp' (σ.set i (some v)) H ∧ Sub fp' fp ∧ ∀ j, j ≠ i → fp' j = fp j := by
  unfold stI at h
  split at h
  · rename_i hi
    obtain ⟨g, d⟩ := x
    cases g with
    | own =>
      cases h
      refine ⟨_, st_own (q := []) G hi V, fun j a m => ?_, fun j n => if_neg n⟩
      dsimp only at m
      by_cases e : j = i
      · rw [if_pos e] at m; cases m
      · rw [if_neg e] at m; exact m
    | frz =>
      cases h
      refine ⟨_, st_frz G hi V.2, fun j a m => ?_, fun j n => if_neg n⟩
      dsimp only at m
      by_cases e : j = i
      · rw [if_pos e] at m; cases m
      · rw [if_neg e] at m; exact m
    | pk => exact absurd rfl np
  · cases h
theorem g_nameR {X : Cx} {tg : Expr} {i : Nat} (h : PG X tg (gName i)) : PG X tg (rdGr c τ (stI i) [i]) := imG h fun v σ H Q z => by
  obtain ⟨H0, res, t, e, fp, x, e', G, V, np, ev, k⟩ := z
  obtain ⟨fp', G', s, o⟩ := st_okR G V ev np
  exact k _ fp' (List.length_set ..) (fun j m => List.getElem?_set_ne fun z => m (by rw [z]; exact List.mem_singleton.mpr rfl)) G' s fun j m => o j fun z => m (by rw [z]; exact List.mem_singleton.mpr rfl)
/-- a walk, seen from the block: D is the list that grows -/
structure Wk (c : Cz) (J : It) (D : Addr) (us : List V) (P : Hp → Prop) : Prop where
  go : ∀ i H, P H → i < us.length → J.go i H
  stop : ∀ i H, P H → us.length ≤ i → J.stop i H
  yld : ∀ i H x H', i < us.length → P H → J.yld i H x H' → H' = H ∧ us[i]? = some x
  same : ∀ H H', P H → SameT c.T H H' → P H'
  upd : ∀ H ys zs, P H → H D = some (.lst ys) → P (upd H D (.lst zs))
theorem wk_list {K : PySem.W.Frag} {D a : Addr} {us : List V} : Wk c (Itl K a) D us (fun H => ¬ tp c.T a ∧ a ≠ D ∧ H a = some (.lst us)) where
  go := fun i H p l => ⟨us, us[i], .inl (.inl p.2.2), by simp [l]⟩
  stop := fun i H p l => ⟨us, .inl (.inl p.2.2), l⟩
  yld := fun i H x H' _ p y => ⟨y.1, y.2 us (.inl (.inl p.2.2))⟩
  same := fun H H' p s => ⟨p.1, p.2.1, s a _ p.1 p.2.2⟩
  upd := fun H ys zs p h => ⟨p.1, p.2.1, by rw [upd_ne p.2.1]; exact p.2.2⟩
theorem wk_tup {K : PySem.W.Frag} {D a : Addr} {us : List V} : Wk c (Itt K a) D us (fun H => ¬ tp c.T a ∧ a ≠ D ∧ H a = some (.tup us)) where
  go := fun i H p l => ⟨us, us[i], .inl (.inl p.2.2), by simp [l]⟩
  stop := fun i H p l => ⟨us, .inl (.inl p.2.2), l⟩
  yld := fun i H x H' _ p y => ⟨y.1, y.2 us (.inl (.inl p.2.2))⟩
  same := fun H H' p s => ⟨p.1, p.2.1, s a _ p.1 p.2.2⟩
  upd := fun H ys zs p h => ⟨p.1, p.2.1, by rw [upd_ne p.2.1]; exact p.2.2⟩
def rgV (lo : Int) (n : Nat) : List V := (List.range n).map fun (k : Nat) => V.int (lo + (k : Int))
theorem rgV_len {lo : Int} {n : Nat} : (rgV lo n).length = n := by unfold rgV; rw [List.length_map, List.length_range]
theorem rgV_get {lo : Int} {n i : Nat} (h : i < n) : (rgV lo n)[i]? = some (.int (lo + (i : Int))) := by
  unfold rgV
  rw [List.getElem?_map, List.getElem?_range h]
  rfl
theorem wk_rng {D : Addr} {lo : Int} {n : Nat} : Wk c (Itr lo n) D (rgV lo n) (fun _ => True) where
  go := fun i H _ l => by rw [rgV_len] at l; exact l
  stop := fun i H _ l => by rw [rgV_len] at l; exact l
  yld := fun i H x H' l _ y => ⟨y.1, by rw [rgV_len] at l; rw [rgV_get l, y.2]⟩
  same := fun _ _ p _ => p
  upd := fun _ _ _ p _ => p
theorem TupAt.updR {K : PySem.W.Frag} {T : Addr × Addr} {D : Addr} {us : List V} {o : HO} (h : H D = some (.lst us)) {a : Addr} {ws : List V} (r : TupAt K T H a ws) : TupAt K T (upd H D o) a ws :=
  ⟨r.1, by
    rw [upd_ne fun z => by
      have w := r.2
      rw [z, h] at w
      cases w]
    exact r.2⟩
theorem DctAt.updR {K : PySem.W.Frag} {T : Addr × Addr} {D : Addr} {us : List V} {o : HO} (h : H D = some (.lst us)) {a : Addr} (r : DctAt K T H a) : DctAt K T (upd H D o) a :=
  ⟨r.1, by
    rw [upd_ne fun z => by
      have w := r.2
      rw [z, h] at w
      cases w]
    exact r.2⟩
theorem Rp.updR {K : PySem.W.Frag} {T : Addr × Addr} {A : Addr → Prop} {D : Addr} {us : List V} {o : HO} (h : H D = some (.lst us)) (hA : ∀ a, A a → a ≠ D) {d : Fw.D} (r : Rp K T H A d v) : Rp K T (upd H D o) A d v :=
  r.mono (fun a ws z => z.updR h) (fun a z => z.updR h) fun a ws z => ⟨z.1, by rw [upd_ne (hA a z.1)]; exact z.2⟩
theorem Ow.updR {K : PySem.W.Frag} {T : Addr × Addr} {D : Addr} {us : List V} {o : HO} (h : H D = some (.lst us)) {d : Fw.D} (hq : ∀ a ∈ q, a ≠ D) (r : Ow K T H d q v) : Ow K T (upd H D o) d q v :=
  r.mono (fun a ws z => z.updR h) (fun a z => z.updR h) _ _ _ fun a m => upd_ne (hq a m)
theorem Good.updR (G : Good c H0 res t e fp σ H) {D : Addr} {us zs : List V} (m : D ∈ res) (h : H D = some (.lst us)) (n0 : H0 D = none) : Good c H0 res t e fp σ (upd H D (.lst zs)) where
  s0 := fun a o n k => by rw [upd_ne fun z => by rw [z, n0] at k; cases k]; exact G.s0 a o n k
  ti := Tp.loc G.ti (upd_ne fun z => (G.rs D m).2 (.inl z.symm)) (upd_ne fun z => (G.rs D m).2 (.inr z.symm))
  len := G.len
  ow := fun i d k => by
    obtain ⟨v, a, b⟩ := G.ow i d k
    exact ⟨v, a, b.updR h fun y n z => (G.nw i y n).2.2 (by rw [z]; exact m)⟩
  fz := fun i d k => by
    obtain ⟨v, a, b⟩ := G.fz i d k
    exact ⟨v, a, b.updR h fun y n z => n.2.1 (by rw [z]; exact m)⟩
  fe := G.fe
  nd := G.nd
  dj := G.dj
  nw := G.nw
  rs := fun a n => by
    by_cases z : a = D
    · rw [z, upd_same]; exact ⟨fun w => (nomatch w), (G.rs D m).2⟩
    · rw [upd_ne z]; exact G.rs a n
theorem VOk.updR (Vx : VOk c H0 res fp H x v q) {D : Addr} {us : List V} {o : HO} (m : D ∈ res) (h : H D = some (.lst us)) (np : x.1 ≠ .pk) : VOk c H0 res fp (upd H D o) x v q := by
  obtain ⟨g, d⟩ := x
  cases g with
  | own => exact ⟨Vx.1.updR h fun a n z => (Vx.2.2 a n).2.2.1 (by rw [z]; exact m), Vx.2⟩
  | frz => exact ⟨Vx.1, Vx.2.updR h fun a n z => n.2.1 (by rw [z]; exact m)⟩
  | pk => exact absurd rfl np
theorem VOkA.updR : ∀ {xs : List GD} {res vs q}, VOkA c H0 res fp H xs vs q → ∀ {D : Addr} {us : List V} {o : HO}, D ∈ res → H D = some (.lst us) → (∀ x ∈ xs, x.1 ≠ .pk) → VOkA c H0 res fp (upd H D o) xs vs q
  | [], _, _, _, h, _, _, _, _, _, _ => h
  | x :: xs, _, _, _, h, D, us, o, m, k, np => by
    obtain ⟨v, r, q1, q2, e1, e2, a, b⟩ := h
    exact ⟨v, r, q1, q2, e1, e2, a.updR m k (np x List.mem_cons_self), VOkA.updR b (List.mem_append_right _ m) k fun y n => np y (List.mem_cons_of_mem _ n)⟩
theorem VOkA.step : ∀ {xs : List GD} {res vs q}, VOkA c H0 res fp H xs vs q → SameT c.T H H' → VOkA c H0 res fp H' xs vs q
  | [], _, _, _, h, _ => h
  | x :: xs, _, _, _, h, s => by
    obtain ⟨v, r, q1, q2, e1, e2, a, b⟩ := h
    exact ⟨v, r, q1, q2, e1, e2, a.step s Sub.rf, VOkA.step b s⟩
theorem VOkA.snoc : ∀ {xs : List GD} {res vs q}, VOkA c H0 res fp H xs vs q → VOk c H0 (q ++ res) fp H y w q1 → VOkA c H0 res fp H (xs ++ [y]) (vs ++ [w]) (q ++ q1)
  | [], res, _, _, h, k => by
    obtain ⟨h1, h2⟩ := h
    subst h1 h2
    exact ⟨w, [], q1, [], rfl, by rw [List.append_nil]; rfl, k, rfl, rfl⟩
  | x :: xs, res, _, _, h, k => by
    obtain ⟨v, r, q2, q3, e1, e2, a, b⟩ := h
    subst e1 e2
    refine ⟨v, r ++ [w], q2, q3 ++ q1, rfl, by rw [List.append_assoc], a, VOkA.snoc b (k.less fun z m => ?_)⟩
    simp only [List.mem_append] at m ⊢
    rcases m with m | m | m
    · exact .inl (.inr m)
    · exact .inl (.inl m)
    · exact .inr m
def sLc (asg : GD → Slots → Option Slots) (cd : Tx τ) (elt : Ex τ) (ew : Slots) : List GD → τ → Option (τ × List GD)
  | [], t => some (t, [])
  | x :: xs, t => (asg x ew).bind fun e1 => (cd t e1).bind fun (t2, e2, b) => match b with
    | true => (elt t2 e2).bind fun (t3, _, y) => match y.1 with
      | .pk => none
      | _ => (sLc asg cd elt ew xs t3).map fun (t4, ys) => (t4, y :: ys)
    | false => sLc asg cd elt ew xs t2
theorem up_frz {d : D} : (up .frz d).1 ≠ .pk := by
  unfold up
  split <;> intro z <;> cases z
theorem lc_run {J : It} {D : Addr} {us : List V} {P : Hp → Prop} (Wd : Wk c J D us P) {asg : GD → Slots → Option Slots} {cd : Tx τ} {elt : Ex τ} [StabT cd] [Stab elt] {is ws : List Nat} {ds : List Fw.D} {ys : List GD} {Q : VK} {H1 : Hp}
    (his : ∀ j ∈ is, j ∈ ws) (G : Good c H0 res t e fp σ H1) (hD : H1 D = none) (hP : P (upd H1 D (.lst []))) (hl : us.length ≤ sizeLine) (hu : us.length = ds.length)
    (hi : ∀ (i : Nat) d u, ds[i]? = some d → us[i]? = some u → VOk c H0 res fp H1 (up .frz d) u []) (ev : sLc asg cd elt (wipeE e ws) (ds.map (up .frz)) t = some (t', ys))
    (k : ∀ H' q, SameT c.T H1 H' → Good c H0 (q ++ res) t' e fp σ H' → VOk c H0 res fp H' (jn ys, .lst (ys.map (·.2))) (.ref D) q → Q (.ref D) H') :
    ∃ Wi : Nat → Nat → Hp → Prop, (∃ m, Wi 0 m (upd H1 D (.lst []))) ∧ ∀ i m H, Wi i m H → (J.stop i H ∧ Q (.ref D) H) ∨ (J.go i H ∧ ∃ Nx : Hp → Prop, (∀ H', Nx H' → ∃ m', m' < m ∧ Wi (i + 1) m' H') ∧
      ∀ x H', J.yld i H x H' → rdGr c τ asg is x (L2.wipe σ ws) H' fun σ2 H2 => L2.wipe σ2 ws = L2.wipe σ ws ∧ rdT c cd σ2 H2 fun b H3 =>
        if b = true then rd c elt σ2 H3 fun y H4 => ∃ acc, H4 D = some (.lst acc) ∧ acc.length < sizeLine ∧ Nx (upd H4 D (.lst (acc ++ [y]))) else Nx H3) := by
  have nD : ¬ tp c.T D := G.ntp hD
  have D0 : H0 D = none := G.h0 hD
  let S : Nat → Hp → Prop := fun i H => ∃ t acc q zs rest, Good c H0 (D :: (q ++ res)) t e fp σ H ∧ H D = some (.lst acc) ∧ VOkA c H0 (D :: res) fp H zs acc q ∧ acc.length ≤ i ∧ P H ∧ SameT c.T H1 H ∧
    (∀ (j : Nat) d u, ds[j]? = some d → us[j]? = some u → VOk c H0 (D :: (q ++ res)) fp H (up .frz d) u []) ∧ sLc asg cd elt (wipeE e ws) ((ds.map (up .frz)).drop i) t = some (t', rest) ∧ ys = zs ++ rest ∧ ∀ z ∈ zs, z.1 ≠ .pk
  refine ⟨fun i m H => m = us.length - i ∧ i ≤ us.length ∧ S i H, ⟨us.length, rfl, Nat.zero_le _, t, [], [], [], ys, G.newR hD, upd_same, ⟨rfl, rfl⟩, Nat.le_refl _, hP, SameT.nu hD, fun j d u h1 h2 => ?_, ev, rfl, fun z m => nomatch m⟩, ?_⟩
  · have V := hi j d u h1 h2
    have h := (V.frz up_frz).same (A' := Fz c.T (D :: ([] ++ res)) fp) (SameT.nu (o := .lst []) hD) fun a z => ⟨z.1, fun n => ⟨z.1, fun m => (List.mem_cons.mp m).elim (fun w => n (by rw [w]; exact hD)) z.2.1, z.2.2⟩⟩
    exact up_ok (d := d) (fun _ => rfl) (fun _ z => z.1) h
  rintro i m H ⟨rfl, hle, t1, acc, q, zs, rest, G1, hd, VA, hacc, p1, sm, it, ev1, ey, np⟩
  by_cases hlt : i < us.length
  · obtain ⟨d, hd1⟩ : ∃ d, ds[i]? = some d := ⟨ds[i]'(by omega), by simp [show i < ds.length by omega]⟩
    obtain ⟨u, hu1⟩ : ∃ u, us[i]? = some u := ⟨us[i], by simp [hlt]⟩
    rw [drop_cons (a := up .frz d) (by rw [List.getElem?_map, hd1]; rfl)] at ev1
    have ev1' : ((asg (up .frz d) (wipeE e ws)).bind fun e1 => (cd t1 e1).bind fun (t2, e2, b) => match b with
      | true => (elt t2 e2).bind fun (t3, _, y) => match y.1 with
        | .pk => none
        | _ => (sLc asg cd elt (wipeE e ws) ((ds.map (up .frz)).drop (i + 1)) t3).map fun (t4, ys) => (t4, y :: ys)
      | false => sLc asg cd elt (wipeE e ws) ((ds.map (up .frz)).drop (i + 1)) t2) = some (t', rest) := ev1
    rw [Option.bind_eq_some_iff] at ev1'
    obtain ⟨e1, h1, ev2⟩ := ev1'
    rw [Option.bind_eq_some_iff] at ev2
    obtain ⟨⟨t2, e2, b⟩, h2, ev3⟩ := ev2
    refine .inr ⟨Wd.go i H p1 hlt, S (i + 1), fun H' z => ⟨us.length - (i + 1), by omega, rfl, hlt, z⟩, fun x H' yl => ?_⟩
    obtain ⟨y1, y2⟩ := Wd.yld i H x H' hlt p1 yl
    rw [hu1] at y2
    cases y2
    subst y1
    have Gw := (G1.wipe ws).lock
    generalize hHL : lk H' _ = HL at Gw
    have item := it i d u hd1 hu1
    have V : VOk c HL ((D :: (q ++ res)) ++ ws.flatMap fp) _ H' (up .frz d) u [] := up_ok (d := d) (A := Fz c.T ((D :: (q ++ res)) ++ ws.flatMap fp) (fun i => if i ∈ ws then [] else fp i)) (fun _ => rfl) (fun _ z => z.1) ((item.frz up_frz).same SameT.rf fun a z => ⟨z.1, fun _ => ⟨z.1, fun m => by
      rcases List.mem_append.mp m with m | m
      · exact z.2.1 m
      · obtain ⟨j, _, m⟩ := List.mem_flatMap.mp m
        exact z.2.2 j m, fun j m => by
      dsimp only at m
      by_cases n : j ∈ ws
      · rw [if_pos n] at m; cases m
      · rw [if_neg n] at m; exact z.2.2 j m⟩⟩)
    refine ⟨HL, _, t1, wipeE e ws, _, up .frz d, e1, Gw, V, up_frz, h1, fun σ2 fp2 l2 o2 G2 s2 f2 => ⟨wipe_same his l2 o2, ?_⟩⟩
    refine ⟨HL, _, t1, e1, fp2, t2, e2, b, G2, h2, fun H3 fp3 s3 u3 G3 => ?_⟩
    have e21 : e2 = e1 := StabT.h h2
    subst e21
    cases b with
    | false =>
      dsimp only
      rw [if_neg Bool.false_ne_true]
      have G4 := G1.to (q := []) s3 G3.ti fun a m => nomatch m
      exact ⟨t2, acc, q, zs, rest, G4, s3 D _ nD hd, VA.step s3, by omega, Wd.same _ _ p1 s3, sm.tr s3, fun j d u a b => (it j d u a b).step s3 Sub.rf, ev3, ey, np⟩
    | true =>
      dsimp only
      rw [if_pos rfl]
      dsimp only at ev3
      rw [Option.bind_eq_some_iff] at ev3
      obtain ⟨⟨t3, e3, y⟩, h3, ev4⟩ := ev3
      have e32 : e3 = e2 := Stab.h h3
      subst e32
      refine ⟨HL, _, t2, e3, fp3, t3, e3, y, G3, h3, fun H4 fp4 v q1 s4 u4 G4 V4 => ?_⟩
      have s34 := s3.tr s4
      have out : ∀ a, a ∉ (D :: (q ++ res)) ++ ws.flatMap fp → (∀ i, a ∉ fp4 i) → ∀ i, a ∉ fp i := fun a n1 n2 i m => by
        by_cases n : i ∈ ws
        · exact n1 (List.mem_append_right _ (List.mem_flatMap.mpr ⟨i, n, m⟩))
        · have m2 : a ∈ fp2 i := by rw [f2 i fun z => n (his i z), if_neg n]; exact m
          exact n2 i (G2.fps G4 s34 m2)
      have hy : y.1 ≠ .pk ∧ ∃ r4 , sLc asg cd elt (wipeE e ws) ((ds.map (up .frz)).drop (i + 1)) t3 = some (t', r4) ∧ rest = y :: r4 := by
        obtain ⟨gy, dy⟩ := y
        cases gy with
        | pk => cases ev4
        | own =>
          dsimp only at ev4
          rw [Option.map_eq_some_iff] at ev4
          obtain ⟨⟨t4, r4⟩, a, b⟩ := ev4
          cases b
          exact ⟨fun z => (nomatch z), r4, a, rfl⟩
        | frz =>
          dsimp only at ev4
          rw [Option.map_eq_some_iff] at ev4
          obtain ⟨⟨t4, r4⟩, a, b⟩ := ev4
          cases b
          exact ⟨fun z => (nomatch z), r4, a, rfl⟩
      obtain ⟨npy, r4, ev5, er⟩ := hy
      have V5 : VOk c H0 (D :: (q ++ res)) fp H4 y v q1 ∧ ∀ a ∈ q1, H' a = none := by
        obtain ⟨gy, dy⟩ := y
        cases gy with
        | pk => exact absurd rfl npy
        | own =>
          have new : ∀ a ∈ q1, H' a = none := fun a m => by
            have n := out a (V4.2.2 a m).2.2.1 (V4.2.2 a m).2.2.2
            have n0 := (V4.2.2 a m).1
            rw [← hHL, lk_out fun i z => by
              by_cases w : i ∈ ws
              · rw [if_pos w] at z; cases z
              · rw [if_neg w] at z; exact n i z] at n0
            exact n0
          exact ⟨⟨V4.1, V4.2.1, fun a m => ⟨G1.h0 (new a m), (V4.2.2 a m).2.1, fun z => (V4.2.2 a m).2.2.1 (List.mem_append_left _ z), out a (V4.2.2 a m).2.2.1 (V4.2.2 a m).2.2.2⟩⟩, new⟩
        | frz =>
          refine ⟨⟨V4.1, V4.2.same SameT.rf fun a z => ⟨z.1, fun _ => ⟨z.1, fun m => z.2.1 (List.mem_append_left _ m), out a z.2.1 z.2.2⟩⟩⟩, fun a m => ?_⟩
          rw [V4.1] at m
          cases m
      obtain ⟨V5, new⟩ := V5
      have hd4 : H4 D = some (.lst acc) := s34 D _ nD hd
      have G5 := G1.to (q := q1) s34 G4.ti fun a m => ⟨new a m, by
        obtain ⟨gy, dy⟩ := y
        cases gy with
        | pk => exact absurd rfl npy
        | frz => rw [V5.1] at m; cases m
        | own =>
          obtain ⟨ys', hy, hm⟩ := V5.1.at_ _ _ _ a m
          rw [hy]; exact fun z => nomatch z⟩
      have G6 : Good c H0 (D :: ((q ++ q1) ++ res)) t3 e fp σ H4 := G5.less fun a m => by
        simp only [List.mem_cons, List.mem_append] at m ⊢
        rcases m with m | (m | m) | m
        · exact .inr (.inl m)
        · exact .inr (.inr (.inl m))
        · exact .inl m
        · exact .inr (.inr (.inr m))
      have VA4 := (VA.step s34).snoc (V5.less (res' := q ++ (D :: res)) fun a m => by
        simp only [List.mem_cons, List.mem_append] at m ⊢
        rcases m with m | m | m
        · exact .inr (.inl m)
        · exact .inl m
        · exact .inr (.inr m))
      have np4 : ∀ z ∈ zs ++ [y], z.1 ≠ .pk := fun z m => by
        rcases List.mem_append.mp m with m | m
        · exact np z m
        · rw [List.mem_singleton.mp m]; exact npy
      refine ⟨acc, hd4, by omega, t3, acc ++ [v], q ++ q1, zs ++ [y], r4, G6.updR List.mem_cons_self hd4 D0, upd_same, VA4.updR List.mem_cons_self hd4 np4, by rw [List.length_append]; simp; omega, Wd.upd _ _ _ (Wd.same _ _ p1 s34) hd4, fun a o n w => ?_, fun j d u a b => ?_, ev5, by rw [ey, er, List.append_assoc]; rfl, np4⟩
      · rw [upd_ne fun z => by rw [z, hD] at w; cases w]
        exact (sm.tr s34) a o n w
      · have V := it j d u a b
        have h := (V.frz up_frz).same (A' := Fz c.T (D :: ((q ++ q1) ++ res)) fp) s34 fun b z => ⟨z.1, fun n => ⟨z.1, fun m => by
          simp only [List.mem_cons, List.mem_append] at m
          rcases m with m | (m | m) | m
          · exact z.2.1 (by rw [m]; exact List.mem_cons_self)
          · exact z.2.1 (List.mem_cons_of_mem _ (List.mem_append_left _ m))
          · exact n (new b m)
          · exact z.2.1 (List.mem_cons_of_mem _ (List.mem_append_right _ m)), z.2.2⟩⟩
        exact up_ok (d := d) (fun _ => rfl) (fun _ z => z.1) (h.updR hd4 fun b z w => z.2.1 (by rw [w]; exact List.mem_cons_self))
  · have : i = us.length := by omega
    subst this
    rw [List.drop_eq_nil_of_le (by rw [List.length_map]; omega)] at ev1
    cases ev1
    refine .inl ⟨Wd.stop _ H p1 (Nat.le_refl _), ?_⟩
    rw [List.append_nil] at ey
    subst ey
    have hz : acc.length ≤ sizeLine := Nat.le_trans hacc hl
    cases j : jn ys with
    | own =>
      obtain ⟨o, n, p⟩ := VA.own (jn_own j)
      refine k H (D :: q) sm G1 ?_
      rw [j]
      refine ⟨⟨D, acc, q, rfl, rfl, hd, hz, o⟩, List.nodup_cons.mpr ⟨fun m => (p D m).2.2.1 List.mem_cons_self, n⟩, fun a m => ?_⟩
      rcases List.mem_cons.mp m with r | r
      · rw [r]; exact ⟨D0, nD, G.nres hD, G.nfp hD⟩
      · exact ⟨(p a r).1, (p a r).2.1, fun z => (p a r).2.2.1 (List.mem_cons_of_mem _ z), (p a r).2.2.2⟩
    | frz =>
      refine k H [] sm (G1.less fun a m => List.mem_cons_of_mem _ (List.mem_append_right _ m)) ?_
      rw [j]
      refine ⟨rfl, D, acc, rfl, ⟨⟨nD, G.nres hD, G.nfp hD⟩, hd⟩, hz, ?_⟩
      exact (VA.frz np).same SameT.rf fun a z => ⟨z.1, fun _ => ⟨z.1, fun m => z.2.1 (List.mem_cons_of_mem _ m), z.2.2⟩⟩
    | pk =>
      exfalso
      have : ∀ {xs : List GD}, (∀ x ∈ xs, x.1 ≠ .pk) → jn xs ≠ .pk := by
        intro xs
        induction xs with
        | nil => intro _ z; cases z
        | cons x xs ih =>
          intro h z
          have z' : jn2 x.1 (jn xs) = .pk := z
          have h1 := h x List.mem_cons_self
          have h2 := ih fun y m => h y (List.mem_cons_of_mem _ m)
          revert z' h1 h2
          cases x.1 <;> cases jn xs <;> simp [jn2]
      exact this np j
end
end Fw
set_option Elab.async false
set_option linter.all false
set_option maxRecDepth 100000
namespace Fw
open PySem L2
section
variable {τ : Type} [Tp τ]
variable {c : Cz} {res res' q q' q1 q2 : List Addr} {t t' : τ} {e e' : Slots} {fp fp' : FP} {σ σ' : L2.St} {H H' H0 : Hp} {x y z : GD} {v w : V} {xs : List GD} {vs : List V}
def npk : Gr → Bool | .pk => false | _ => true
def itmsC (x : GD) : Option (List GD) := match x.2 with
  | .tup ds => if immA ds || npk x.1 then some (ds.map (up .frz)) else none
  | .lst ds => if immA ds || npk x.1 then some (ds.map (up .frz)) else none
  | _ => none
def xLc (asg : GD → Slots → Option Slots) (ws : List Nat) (f : Ex τ) (cd : Tx τ) (elt : Ex τ) : Ex τ := fun t e => (f t e).bind fun (t1, e1, x) => (itmsC x).bind fun xs => (sLc asg cd elt (wipeE e1 ws) xs t1).map fun (t2, ys) => (t2, e1, jn ys, .lst (ys.map (·.2)))
instance {asg : GD → Slots → Option Slots} {ws : List Nat} {f : Ex τ} {cd : Tx τ} {elt : Ex τ} [Stab f] : Stab (xLc asg ws f cd elt) := ⟨fun {t e t' e' x} h => by
  unfold xLc at h
  rw [Option.bind_eq_some_iff] at h
  obtain ⟨_, h1, h⟩ := h
  rw [Option.bind_eq_some_iff] at h
  obtain ⟨_, _, h⟩ := h
  rw [Option.map_eq_some_iff] at h
  obtain ⟨_, _, h⟩ := h
  cases h
  exact Stab.h h1⟩
theorem immA_get : ∀ {ds : List D} {i : Nat} {d : D}, immA ds = true → ds[i]? = some d → imm d = true
  | [], i, d, _, h => by simp at h
  | x :: ds, 0, d, k, h => by
    have k' : (imm x && immA ds) = true := k
    rw [Bool.and_eq_true] at k'
    simp at h
    rw [← h]; exact k'.1
  | x :: ds, i + 1, d, k, h => by
    have k' : (imm x && immA ds) = true := k
    rw [Bool.and_eq_true] at k'
    exact immA_get k'.2 (by simpa using h)
/-- what is walked, item by item -/
theorem itmsC_ok (h : itmsC x = some xs) (Vx : VOk c H0 res fp H x v q) : ∃ (ds : List D) (us : List V) (a : Addr), xs = ds.map (up .frz) ∧ v = .ref a ∧ ¬ tp c.T a ∧ us.length ≤ sizeLine ∧ us.length = ds.length ∧ (H a = some (.lst us) ∨ H a = some (.tup us)) ∧
    ∀ (i : Nat) d u, ds[i]? = some d → us[i]? = some u → VOk c H0 res fp H (up .frz d) u [] := by
  have key : ∀ {ds : List D} {us : List V}, RpA c.K c.T H (Fr1 c.T) ds us → (immA ds || npk x.1) = true → (x.1 ≠ .pk → RpA c.K c.T H (Fz c.T res fp) ds us) →
      ∀ (i : Nat) d u, ds[i]? = some d → us[i]? = some u → VOk c H0 res fp H (up .frz d) u [] := fun {ds us} r1 hi r2 i d u h1 h2 => by
    cases k : immA ds with
    | true =>
      obtain ⟨u', h3, h4⟩ := r1.get h1
      rw [h2] at h3
      cases h3
      have hi := immA_get k h1
      unfold up
      rw [if_pos hi]
      exact VOk.imm h4 hi
    | false =>
      rw [k, Bool.false_or] at hi
      obtain ⟨u', h3, h4⟩ := (r2 fun z => by rw [z] at hi; cases hi).get h1
      rw [h2] at h3
      cases h3
      exact up_ok (d := d) (fun _ => rfl) (fun _ z => z.1) h4
  have ir := Vx.rp
  have fr := fun n => Vx.frz (n : x.1 ≠ .pk)
  unfold itmsC at h
  split at h
  · rename_i ds hx
    split at h
    · rename_i hi
      cases h
      rw [hx] at ir fr
      obtain ⟨a, us, hv, ht, hl, hr⟩ := ir
      refine ⟨ds, us, a, rfl, hv, ht.1, hl, hr.len, .inr ht.2, key hr hi fun n => ?_⟩
      obtain ⟨a', us', hv', ht', _, hr'⟩ := fr n
      rw [hv] at hv'
      cases hv'
      have := ht.2.symm.trans ht'.2
      cases this
      exact hr'
    · cases h
  · rename_i ds hx
    split at h
    · rename_i hi
      cases h
      rw [hx] at ir fr
      obtain ⟨a, us, hv, ht, hl, hr⟩ := ir
      refine ⟨ds, us, a, rfl, hv, ht.1, hl, hr.len, .inl ht.2, key hr hi fun n => ?_⟩
      obtain ⟨a', us', hv', ht', _, hr'⟩ := fr n
      rw [hv] at hv'
      cases hv'
      have := ht.2.symm.trans ht'.2
      cases this
      exact hr'
    · cases h
  · cases h
theorem lcS_run {X : Cx} (hk : X.K = c.K) {asg : GD → Slots → Option Slots} {is ws : List Nat} {f : Ex τ} {cd : Tx τ} {elt : Ex τ} [StabT cd] [Stab elt] (his : ∀ j ∈ is, j ∈ ws) {Q : VK} (h : rd c (xLc asg ws f cd elt) σ H Q) :
    tLc (iSq X.K (rd c f)) (rdGr c τ asg is) (rdT c cd) (rd c elt) ws σ H Q := by
  obtain ⟨H0, res, t, e, fp, t', e', z, G, ev, k⟩ := h
  unfold xLc at ev
  rw [Option.bind_eq_some_iff] at ev
  obtain ⟨⟨t1, e1, x⟩, ev1, ev⟩ := ev
  rw [Option.bind_eq_some_iff] at ev
  obtain ⟨xs, ev2, ev⟩ := ev
  rw [Option.map_eq_some_iff] at ev
  obtain ⟨⟨t2, ys⟩, ev3, ev⟩ := ev
  cases ev
  refine ⟨H0, res, t, e, fp, t1, e', x, G, ev1, fun H1 fp1 v q s1 u1 G1 V1 => ?_⟩
  have G1 := G1.less (res' := res) fun a m => List.mem_append_right _ m
  obtain ⟨ds, us, a, ex, hv, na, hl, hu, hs, hi⟩ := itmsC_ok ev2 V1
  subst ex
  rcases hs with hs | hs
  · refine ⟨a, hv, .inl ⟨⟨us, .inl (.inl hs)⟩, fun D hD => ?_⟩⟩
    have ne : a ≠ D := fun z => by rw [z, hD] at hs; cases hs
    exact lc_run (wk_list (c := c) (K := X.K)) his G1 hD ⟨na, ne, by rw [upd_ne ne]; exact hs⟩ hl hu hi ev3 fun H' q' sm G' V' => k H' fp1 _ q' (s1.tr sm) u1 G' V'
  · refine ⟨a, hv, .inr ⟨⟨us, .inl (.inl hs)⟩, fun D hD => ?_⟩⟩
    have ne : a ≠ D := fun z => by rw [z, hD] at hs; cases hs
    exact lc_run (wk_tup (c := c) (K := X.K)) his G1 hD ⟨na, ne, by rw [upd_ne ne]; exact hs⟩ hl hu hi ev3 fun H' q' sm G' V' => k H' fp1 _ q' (s1.tr sm) u1 G' V'
section
variable {X : Cx} {elt tg iter : Expr} {ifs : List Expr} {scope : Scope} {own : List (Str × Nat)} {pos spos py : Pos} {y : Str} {i : Nat} {asg : GD → Slots → Option Slots} {is : List Nat} {f g : Ex τ} {cd : Tx τ} [StabT cd] [Stab g]
theorem d_lc {ws : List Nat} (hk : X.K = c.K) (hc : X.calm = true) (hN : X.N.Nodup) (hi : PE X iter (rd c f)) (ok : BlkOk X.N X.env.scope scope own) (his : ∀ j ∈ is, j ∈ own.map (·.2))
    (hg : ∀ (s : Shared) (H : Hp) (C : Addr) (cl : List (Str × Addr)) (fp : List Addr), PG (X.blk s H scope (compEnvC scope cl C X.env) fp) tg (rdGr c τ asg is)) (ht : ∀ (s : Shared) (H : Hp) (C : Addr) (cl : List (Str × Addr)) (fp : List Addr), PTs (X.blk s H scope (compEnvC scope cl C X.env) fp) ifs (rdT c cd))
    (he : ∀ (s : Shared) (H : Hp) (C : Addr) (cl : List (Str × Addr)) (fp : List Addr), PE (X.blk s H scope (compEnvC scope cl C X.env) fp) elt (rd c g)) (hs : ∀ x, foldedSetIterable iter X.env x = pure x := by intro _; rfl) (hw : own.map (·.2) = ws := by rfl) :
    PE X (.ListComp elt [⟨tg, iter, ifs, 0⟩] scope pos) (rd c (xLc asg ws f cd g)) := by
  subst hw
  exact imE (pe_lc hc hN (pi_sq hi) ok hg ht he hs) fun σ H Q h => lcS_run hk his h
theorem s_setLc {ws : List Nat} (hk : X.K = c.K) (hc : X.calm = true) (hN : X.N.Nodup) (hy : X.N[i]? = some y) (hyl : X.env.scope.names.lookup y = some .local) (hsw : swapsWith (.ListComp elt [⟨tg, iter, ifs, 0⟩] scope pos) (some (.Name y py)) spos.line X.env = pure true)
    (hi : PE X iter (rd c f)) (ok : BlkOk X.N X.env.scope scope own) (his : ∀ j ∈ is, j ∈ own.map (·.2))
    (hg : ∀ (s : Shared) (H : Hp) (C : Addr) (cl : List (Str × Addr)) (fp : List Addr), PG (X.blk s H scope (compEnvC scope cl C X.env) fp) tg (rdGr c τ asg is)) (ht : ∀ (s : Shared) (H : Hp) (C : Addr) (cl : List (Str × Addr)) (fp : List Addr), PTs (X.blk s H scope (compEnvC scope cl C X.env) fp) ifs (rdT c cd))
    (he : ∀ (s : Shared) (H : Hp) (C : Addr) (cl : List (Str × Addr)) (fp : List Addr), PE (X.blk s H scope (compEnvC scope cl C X.env) fp) elt (rd c g)) (hs : ∀ x, foldedSetIterable iter X.env x = pure x := by intro _; rfl) (hw : own.map (·.2) = ws := by rfl) :
    PS X (.Assign [.Name y py] (.ListComp elt [⟨tg, iter, ifs, 0⟩] scope pos) spos) (rdS c (sTo (stI i) (xLc asg ws f cd g))) := by
  subst hw
  exact imS (ps_setLc hc hN hy hyl hsw (pi_sq hi) ok hg ht he hs) fun W σ H h => by
    obtain ⟨H0, res, t, e, fp, t', e', x, G, ev, k⟩ := asg_run h
    refine lcS_run hk his ⟨H0, res, t, e, fp, t', e', x, G, ev, fun H1 fp1 v q s1 u1 G1 V1 => ?_⟩
    obtain ⟨H0', t2, e2, fp2, x2, q2, e3, G2, V2, ev2, k2⟩ := k H1 fp1 v q s1 u1 G1 V1
    obtain ⟨fp', G'⟩ := st_ok (res := []) (by rw [List.append_nil]; exact G2) V2 ev2 fun _ => rfl
    exact k2 _ fp' G'
end
def xLcR (asg : GD → Slots → Option Slots) (ws : List Nat) (fs : List (Ex τ)) (cd : Tx τ) (elt : Ex τ) : Ex τ := fun t e => (evA fs t e).bind fun (t1, e1, xs) => (rgOf xs).bind fun p => if p.2 ≤ 16777216 then (sLc asg cd elt (wipeE e1 ws) (rgD p.1 p.2) t1).map fun (t2, ys) => (t2, e1, jn ys, .lst (ys.map (·.2))) else none
instance {asg : GD → Slots → Option Slots} {ws : List Nat} {fs : List (Ex τ)} {cd : Tx τ} {elt : Ex τ} [StabA fs] : Stab (xLcR asg ws fs cd elt) := ⟨fun {t e t' e' x} h => by
  unfold xLcR at h
  rw [Option.bind_eq_some_iff] at h
  obtain ⟨_, h1, h⟩ := h
  rw [Option.bind_eq_some_iff] at h
  obtain ⟨_, _, h⟩ := h
  split at h
  · rw [Option.map_eq_some_iff] at h
    obtain ⟨_, _, h⟩ := h
    cases h
    exact StabA.h h1
  · cases h⟩
theorem rgD_up {lo : Int} {n : Nat} : rgD lo n = ((List.range n).map fun (k : Nat) => D.int (lo + (k : Int))).map (up .frz) := by
  unfold rgD
  rw [List.map_map]
  rfl
theorem lcR_core {J : It} {asg : GD → Slots → Option Slots} {is ws : List Nat} {cd : Tx τ} {elt : Ex τ} [StabT cd] [Stab elt] (his : ∀ j ∈ is, j ∈ ws) {Q : VK} {lo : Int} {n : Nat} {ys : List GD} {H1 : Hp} (hn : n ≤ 16777216) (G1 : Good c H0 res t e fp σ H1)
    (ev3 : sLc asg cd elt (wipeE e ws) (rgD lo n) t = some (t', ys)) (k : ∀ D H' q, SameT c.T H1 H' → Good c H0 (q ++ res) t' e fp σ H' → VOk c H0 res fp H' (jn ys, .lst (ys.map (·.2))) (.ref D) q → Q (.ref D) H') (hJ : J = Itr lo n) :
    ∀ D, H1 D = none → ∃ Wi : Nat → Nat → Hp → Prop, (∃ m, Wi 0 m (upd H1 D (.lst []))) ∧ ∀ i m H, Wi i m H → (J.stop i H ∧ Q (.ref D) H) ∨ (J.go i H ∧ ∃ Nx : Hp → Prop, (∀ H', Nx H' → ∃ m', m' < m ∧ Wi (i + 1) m' H') ∧
      ∀ x H', J.yld i H x H' → rdGr c τ asg is x (L2.wipe σ ws) H' fun σ2 H2 => L2.wipe σ2 ws = L2.wipe σ ws ∧ rdT c cd σ2 H2 fun b H3 =>
        if b = true then rd c elt σ2 H3 fun y H4 => ∃ acc, H4 D = some (.lst acc) ∧ acc.length < sizeLine ∧ Nx (upd H4 D (.lst (acc ++ [y]))) else Nx H3) := fun D hD => by
  subst hJ
  rw [rgD_up] at ev3
  refine lc_run (wk_rng (c := c)) his G1 hD trivial (by rw [rgV_len]; exact hn) (by rw [rgV_len]; simp) (fun i d u h1 h2 => ?_) ev3 fun H' q' sm G' V' => k D H' q' sm G' V'
  have hi : i < n := by
    have := (List.getElem?_eq_some_iff.mp h2).1
    rw [rgV_len] at this
    exact this
  rw [rgV_get hi] at h2
  cases h2
  rw [List.getElem?_map, List.getElem?_range hi] at h1
  cases h1
  exact isc
theorem rg1_ok {f : Ex τ} {lo : Int} {n : Nat} (l1 : xs.length = 1) (V1 : VOkA c H0 res fp H xs vs q) (ev2 : rgOf xs = some (lo, n)) : ∃ j : Int, vs = [.int j] ∧ -(2 ^ 62) ≤ j ∧ j < 2 ^ 62 ∧ lo = 0 ∧ n = j.toNat := by
  match xs, l1 with
  | [(_, d)], _ =>
    cases d with
    | int j =>
      have ev2' : (if inB j then some ((0 : Int), j.toNat) else none) = some (lo, n) := ev2
      split at ev2'
      · rename_i hb
        cases ev2'
        obtain ⟨v, r, q1, q2, e3, e4, a1, a2⟩ := V1
        have hr : r = [] := a2.1
        have hv : v = .int j := a1.rp
        subst hr hv
        exact ⟨j, e3, (inB_ok hb).1, (inB_ok hb).2, rfl, rfl⟩
      · cases ev2'
    | _ => cases ev2
theorem lcR1_run {asg : GD → Slots → Option Slots} {is ws : List Nat} {f : Ex τ} {cd : Tx τ} {elt : Ex τ} [StabT cd] [Stab elt] (his : ∀ j ∈ is, j ∈ ws) {Q : VK} (h : rd c (xLcR asg ws [f] cd elt) σ H Q) :
    tLc (iRng1 (rdA c (evA [f]))) (rdGr c τ asg is) (rdT c cd) (rd c elt) ws σ H Q := by
  obtain ⟨H0, res, t, e, fp, t', e', z, G, ev, k⟩ := h
  unfold xLcR at ev
  rw [Option.bind_eq_some_iff] at ev
  obtain ⟨⟨t1, e1, xs⟩, ev1, ev⟩ := ev
  rw [Option.bind_eq_some_iff] at ev
  obtain ⟨⟨lo, n⟩, ev2, ev⟩ := ev
  dsimp only at ev
  split at ev
  · rename_i hn
    rw [Option.map_eq_some_iff] at ev
    obtain ⟨⟨t2, ys⟩, ev3, ev⟩ := ev
    cases ev
    refine ⟨H0, res, t, e, fp, t1, e', xs, G, ev1, fun H1 fp1 vs q s1 u1 G1 V1 => ?_⟩
    have G1 := G1.less (res' := res) fun a m => List.mem_append_right _ m
    obtain ⟨j, ev, b1, b2, rfl, rfl⟩ := rg1_ok (f := f) (evA_len ev1) V1 ev2
    exact ⟨j, ev, b1, b2, lcR_core his hn G1 ev3 (fun D H' q' sm G' V' => k H' fp1 _ q' (s1.tr sm) u1 G' V') rfl⟩
  · cases ev
section
variable {X : Cx} {elt tg a b : Expr} {ifs : List Expr} {scope : Scope} {own : List (Str × Nat)} {pos spos py p pos' : Pos} {y : Str} {i : Nat} {asg : GD → Slots → Option Slots} {is : List Nat} {f f' g : Ex τ} {cd : Tx τ} [StabT cd] [Stab g]
theorem d_lcR1 {ws : List Nat} (hc : X.calm = true) (hN : X.N.Nodup) (hgl : Gl X "range") (hm : X.mg "range" = none) (ha : PA X [a] (rdA c (evA [f]))) (ok : BlkOk X.N X.env.scope scope own) (his : ∀ j ∈ is, j ∈ own.map (·.2))
    (hg : ∀ (s : Shared) (H : Hp) (C : Addr) (cl : List (Str × Addr)) (fp : List Addr), PG (X.blk s H scope (compEnvC scope cl C X.env) fp) tg (rdGr c τ asg is)) (ht : ∀ (s : Shared) (H : Hp) (C : Addr) (cl : List (Str × Addr)) (fp : List Addr), PTs (X.blk s H scope (compEnvC scope cl C X.env) fp) ifs (rdT c cd))
    (he : ∀ (s : Shared) (H : Hp) (C : Addr) (cl : List (Str × Addr)) (fp : List Addr), PE (X.blk s H scope (compEnvC scope cl C X.env) fp) elt (rd c g)) (hs : starEach [a] X.env = [(false, eval a X.env)] := by rfl) (hw : own.map (·.2) = ws := by rfl) :
    PE X (.ListComp elt [⟨tg, .Call (.Name "range" p) [a] [] pos', ifs, 0⟩] scope pos) (rd c (xLcR asg ws [f] cd g)) := by
  subst hw
  exact imE (pe_lc hc hN (pi_range1 hgl hm ha hs) ok hg ht he) fun σ H Q h => lcR1_run his h
theorem asg_fin {W : Ends} {fx : Ex τ} {i : Nat} (h : rdS c (sTo (stI i) fx) W σ H) : rd c fx σ H (fun x H1 => W.nx (σ.set i (some x)) H1) := by
  obtain ⟨H0, res, t, e, fp, t', e', x, G, ev, k⟩ := asg_run h
  refine ⟨H0, res, t, e, fp, t', e', x, G, ev, fun H1 fp1 v q s1 u1 G1 V1 => ?_⟩
  obtain ⟨H0', t2, e2, fp2, x2, q2, e3, G2, V2, ev2, k2⟩ := k H1 fp1 v q s1 u1 G1 V1
  obtain ⟨fp', G'⟩ := st_ok (res := []) (by rw [List.append_nil]; exact G2) V2 ev2 fun _ => rfl
  exact k2 _ fp' G'
theorem s_setLcR1 {ws : List Nat} (hc : X.calm = true) (hN : X.N.Nodup) (hy : X.N[i]? = some y) (hyl : X.env.scope.names.lookup y = some .local) (hsw : swapsWith (.ListComp elt [⟨tg, .Call (.Name "range" p) [a] [] pos', ifs, 0⟩] scope pos) (some (.Name y py)) spos.line X.env = pure true) (hgl : Gl X "range") (hm : X.mg "range" = none) (ha : PA X [a] (rdA c (evA [f]))) (ok : BlkOk X.N X.env.scope scope own) (his : ∀ j ∈ is, j ∈ own.map (·.2))
    (hg : ∀ (s : Shared) (H : Hp) (C : Addr) (cl : List (Str × Addr)) (fp : List Addr), PG (X.blk s H scope (compEnvC scope cl C X.env) fp) tg (rdGr c τ asg is)) (ht : ∀ (s : Shared) (H : Hp) (C : Addr) (cl : List (Str × Addr)) (fp : List Addr), PTs (X.blk s H scope (compEnvC scope cl C X.env) fp) ifs (rdT c cd))
    (he : ∀ (s : Shared) (H : Hp) (C : Addr) (cl : List (Str × Addr)) (fp : List Addr), PE (X.blk s H scope (compEnvC scope cl C X.env) fp) elt (rd c g)) (hs : starEach [a] X.env = [(false, eval a X.env)] := by rfl) (hw : own.map (·.2) = ws := by rfl) :
    PS X (.Assign [.Name y py] (.ListComp elt [⟨tg, .Call (.Name "range" p) [a] [] pos', ifs, 0⟩] scope pos) spos) (rdS c (sTo (stI i) (xLcR asg ws [f] cd g))) := by
  subst hw
  exact imS (ps_setLc hc hN hy hyl hsw (pi_range1 hgl hm ha hs) ok hg ht he) fun W σ H h => lcR1_run his (asg_fin h)
theorem ts_nil {X : Cx} : PTs X [] (rdT c (xYes (τ := τ))) := ⟨fun pins s σ H Q I h => by
  obtain ⟨H0, res, t, e, fp, t', e', b, G, ev, k⟩ := h
  cases ev
  exact pts_nil.run pins s σ H Q I (k H fp SameT.rf Sub.rf G)⟩
end
end
end Fw
set_option Elab.async false
set_option linter.all false
set_option maxRecDepth 100000
namespace Fw
open PySem L2
section
variable {τ : Type} [Tp τ]
variable {c : Cz} {res res' q q' q1 q2 : List Addr} {t t' : τ} {e e' : Slots} {fp fp' : FP} {σ σ' : L2.St} {H H' H0 : Hp} {x y z : GD} {v w : V} {xs : List GD} {vs : List V}
def upL (g : Gr) (ds : List D) : GD := (if immA ds then .own else match g with | .pk => .pk | _ => .frz, .lst ds)
theorem mk_lst (G : Good c H0 res t e fp σ H) {p : Addr} (hp : H p = none) {g : Gr} {A : Addr → Prop} {ds : List D} {us : List V} (hz : us.length ≤ sizeLine) (hA : g ≠ .pk → A = Fz c.T res fp) (h1 : ∀ a, A a → Fr1 c.T a) (r : RpA c.K c.T H A ds us) :
    ∃ q', Good c H0 (q' ++ res) t e fp σ (upd H p (.lst us)) ∧ VOk c H0 res fp (upd H p (.lst us)) (upL g ds) (.ref p) q' := by
  cases k : immA ds with
  | true =>
    obtain ⟨a, b⟩ := new_lst (res := res) (q := []) (by exact G) hp hz (r.ow _ _ k) List.nodup_nil fun a m => nomatch m
    exact ⟨[p], a, by unfold upL; rw [k, if_pos rfl]; exact b⟩
  | false =>
    refine ⟨[], G.new hp, ?_⟩
    unfold upL
    rw [k, if_neg Bool.false_ne_true]
    have hl : ∀ B : Addr → Prop, B p → LstAt c.K (upd H p (.lst us)) B p (.lst us) := fun B b => ⟨b, upd_same⟩
    cases g with
    | pk => exact ⟨rfl, p, us, rfl, hl _ (G.ntp hp), hz, r.same (SameT.nu hp) fun a z => ⟨h1 a z, fun _ => h1 a z⟩⟩
    | own =>
      have e := hA (fun z => nomatch z)
      subst e
      exact ⟨rfl, p, us, rfl, hl _ ⟨G.ntp hp, G.nres hp, G.nfp hp⟩, hz, r.same (SameT.nu hp) fun a z => ⟨z.1, fun _ => z⟩⟩
    | frz =>
      have e := hA (fun z => nomatch z)
      subst e
      exact ⟨rfl, p, us, rfl, hl _ ⟨G.ntp hp, G.nres hp, G.nfp hp⟩, hz, r.same (SameT.nu hp) fun a z => ⟨z.1, fun _ => z⟩⟩
theorem mk_tup (G : Good c H0 res t e fp σ H) {p : Addr} (hp : H p = none) {g : Gr} {A : Addr → Prop} {ds : List D} {us : List V} (hz : us.length ≤ sizeLine) (hA : g ≠ .pk → A = Fz c.T res fp) (h1 : ∀ a, A a → Fr1 c.T a) (r : RpA c.K c.T H A ds us) :
    Good c H0 res t e fp σ (upd H p (.tup us)) ∧ VOk c H0 res fp (upd H p (.tup us)) (up g (.tup ds)) (.ref p) [] := by
  refine ⟨G.new hp, up_ok (d := .tup ds) (A := fun a => A a ∧ Fr1 c.T a) (fun n => ?_) (fun a z => z.2) ⟨p, us, rfl, ⟨G.ntp hp, upd_same⟩, hz, r.same (SameT.nu hp) fun a z => ⟨h1 a z, fun _ => ⟨z, h1 a z⟩⟩⟩⟩
  rw [hA n]
  funext a
  exact propext ⟨fun z => z.1, fun z => ⟨z, z.1⟩⟩
def gj (a b : Gr) : Gr := match a, b with | .pk, _ => .pk | _, .pk => .pk | _, _ => .frz
/-- two values read at once -/
theorem best2 (V1 : VOk c H0 res fp H x v q1) (V2 : VOk c H0 (q1 ++ res) fp H y w q2) : ∃ A : Addr → Prop, (gj x.1 y.1 ≠ .pk → A = Fz c.T res fp) ∧ (∀ a, A a → Fr1 c.T a) ∧ Rp c.K c.T H A x.2 v ∧ Rp c.K c.T H A y.2 w := by
  have V2' := V2.less (res' := res) fun a m => List.mem_append_right _ m
  by_cases n : gj x.1 y.1 = .pk
  · exact ⟨Fr1 c.T, fun z => absurd n z, fun _ z => z, V1.rp, V2.rp⟩
  · refine ⟨Fz c.T res fp, fun _ => rfl, fun _ z => z.1, V1.frz fun z => n ?_, V2'.frz fun z => n ?_⟩
    · rw [z]; rfl
    · rw [z]; cases x.1 <;> rfl
theorem RpA.app {K : PySem.W.Frag} {T : Addr × Addr} {A : Addr → Prop} : ∀ {ds es : List D} {us ws : List V}, RpA K T H A ds us → RpA K T H A es ws → RpA K T H A (ds ++ es) (us ++ ws)
  | [], es, us, ws, h, k => by rw [show us = [] from h]; exact k
  | d :: ds, es, us, ws, h, k => by
    obtain ⟨v, r, e, a, b⟩ := h
    rw [e]
    exact ⟨v, r ++ ws, rfl, a, RpA.app b k⟩
theorem RpA.drop {K : PySem.W.Frag} {T : Addr × Addr} {A : Addr → Prop} : ∀ {ds : List D} {us : List V} (n : Nat), RpA K T H A ds us → RpA K T H A (ds.drop n) (us.drop n)
  | ds, us, 0, h => h
  | [], us, n + 1, h => by rw [show us = [] from h]; rfl
  | d :: ds, us, n + 1, h => by
    obtain ⟨v, r, e, a, b⟩ := h
    rw [e]
    exact RpA.drop n b
theorem RpA.take {K : PySem.W.Frag} {T : Addr × Addr} {A : Addr → Prop} : ∀ {ds : List D} {us : List V} (n : Nat), RpA K T H A ds us → RpA K T H A (ds.take n) (us.take n)
  | ds, us, 0, h => rfl
  | [], us, n + 1, h => by rw [show us = [] from h]; rfl
  | d :: ds, us, n + 1, h => by
    obtain ⟨v, r, e, a, b⟩ := h
    rw [e]
    exact ⟨v, r.take n, rfl, a, RpA.take n b⟩
theorem RpA.flat {K : PySem.W.Frag} {T : Addr × Addr} {A : Addr → Prop} {ds : List D} {us : List V} (h : RpA K T H A ds us) : ∀ n : Nat, RpA K T H A (List.replicate n ds).flatten (List.replicate n us).flatten
  | 0 => rfl
  | n + 1 => by
    rw [List.replicate_succ, List.replicate_succ, List.flatten_cons, List.flatten_cons]
    exact h.app (RpA.flat h n)
def szB (n : Nat) : Bool := decide (n ≤ 16777216)
def sPlus (x y : GD) : Option GD := match x.2, y.2 with
  | .int i, .int j => some (.own, .int (i + j))
  | .tup ds, .tup es => if szB (ds.length + es.length) then some (up (gj x.1 y.1) (.tup (ds ++ es))) else none
  | .lst ds, .lst es => if szB (ds.length + es.length) then some (upL (gj x.1 y.1) (ds ++ es)) else none
  | .str a, .str b => if szB (a.length + b.length) then some (.own, .str (a ++ b)) else none
  | _, _ => none
def rPlus (K : PySem.W.Frag) : R2 := fun x y H Q => (rI0 (fun i j => .int (i + j)) x y H Q ∨ rCatA K x y H Q) ∨ (rCat x y H Q ∨ ∃ i j, x = .str i ∧ y = .str j ∧ i.length + j.length ≤ sizeLine ∧ Q (.str (i ++ j)) H)
theorem op_plus {X : Cx} : OpR X (binaryOp .Add) (rPlus X.K) := (op_add.or op_catA).or (op_cat.or op_add_str)
theorem op2_plus : Op2 c τ (rPlus c.K) sPlus := by
  intro H0 res t e fp σ H x y v w qv qw z Q G V1 V2 ev k
  have G' := G.less (res' := res) fun a m => List.mem_append_right _ (List.mem_append_right _ m)
  obtain ⟨A, a1, a2, r1, r2⟩ := best2 V1 V2
  obtain ⟨gx, dx⟩ := x
  obtain ⟨gy, dy⟩ := y
  unfold sPlus at ev
  dsimp only at ev r1 r2 a1
  split at ev
  · rename_i i j
    cases ev
    exact .inl (.inl ⟨i, j, r1, r2, k H _ [] SameT.rf G' isc⟩)
  · rename_i ds es
    split at ev
    · rename_i hs
      cases ev
      obtain ⟨a, us, hv, ht, hl, hr⟩ := r1
      obtain ⟨b, ws, hw, ht', hl', hr'⟩ := r2
      have hz : us.length + ws.length ≤ sizeLine := by
        rw [hr.len, hr'.len]; exact of_decide_eq_true hs
      refine .inl (.inr ⟨a, b, us, ws, hv, hw, ht.sq, ht'.sq, hz, fun n => ?_, fun n n' => ?_, fun n n' p hp => ?_⟩)
      · subst n
        have : ds = [] := List.length_eq_zero_iff.mp hr.len.symm
        subst this
        exact k H _ [] SameT.rf G' (up_ok (d := .tup es) a1 a2 ⟨b, ws, rfl, ht', hl', hr'⟩)
      · subst n'
        have : es = [] := List.length_eq_zero_iff.mp hr'.len.symm
        subst this
        rw [List.append_nil] at *
        exact k H _ [] SameT.rf G' (up_ok (d := .tup ds) a1 a2 ⟨a, us, rfl, ht, hl, hr⟩)
      · obtain ⟨g1, g2⟩ := mk_tup G' hp (ds := ds ++ es) (by rw [List.length_append]; exact hz) a1 a2 (hr.app hr')
        exact k _ _ [] (SameT.nu hp) g1 g2
    · cases ev
  · rename_i ds es
    split at ev
    · rename_i hs
      cases ev
      obtain ⟨a, us, hv, ht, hl, hr⟩ := r1
      obtain ⟨b, ws, hw, ht', hl', hr'⟩ := r2
      have hz : us.length + ws.length ≤ sizeLine := by
        rw [hr.len, hr'.len]; exact of_decide_eq_true hs
      refine .inr (.inl ⟨a, b, us, ws, hv, hw, ht.2, ht'.2, hz, fun p hp => ?_⟩)
      obtain ⟨q', g1, g2⟩ := mk_lst G' hp (ds := ds ++ es) (by rw [List.length_append]; exact hz) a1 a2 (hr.app hr')
      exact k _ _ q' (SameT.nu hp) g1 g2
    · cases ev
  · rename_i i j
    split at ev
    · rename_i hs
      cases ev
      exact .inr (.inr ⟨i, j, r1, r2, of_decide_eq_true hs, k H _ [] SameT.rf G' (scl_ok rfl)⟩)
    · cases ev
  · cases ev
/-- a tuple once: the same tuple -/
theorem tuple_mul1 (l : Addr) (items : Array Value) (n : Nat) (dd : Option Addr) (sl : Array (Option Value)) (u : Tok) :
    Meets (Builtin.«tuple.__mul__» ⟨[.ref l, .int 1 u], []⟩) (fun _ R s => s.heap.get? l = some { cls := .type "tuple", dict := dd, data := .seq items n, slots := sl } ∧ R (.ok (.ret (Value.ref l))) s) :=
  .of_wp fun prog w A R s h => by
    obtain ⟨hp, g, d, tk, os⟩ := s
    obtain ⟨hl, h⟩ := h
    have f1 := AutoSeq1.idx_int
    have c0 : (decide ((1 : Int) < -(2 ^ 63)) || decide ((1 : Int) ≥ 2 ^ 63)) = false := by decide
    have c1 : (items.isEmpty || (1 : Int) == 1) = true := Bool.or_true _
    have c2 : ((Value.type "tuple") == (Value.type "tuple")) = true := by decide +kernel
    wp_walk using wpAny_loadPart' hl
    repeat (first
      | (refine wpAny_ite_false (decide_eq_false (by rw [c0]; exact Bool.false_ne_true)) ?_; wp_walk using wpAny_loadPart' hl)
      | (refine wpAny_ite_true (decide_eq_true c1) ?_; wp_walk using wpAny_loadPart' hl))
    exact ⟨_, rfl, h⟩
def rRepT1 (K : PySem.W.Frag) : R2 := fun x y H Q => ∃ l xs, x = .ref l ∧ y = .int 1 ∧ SqT K H l xs ∧ Q (.ref l) H
theorem op_repT1 {X : Cx} : OpR X (binaryOp .Mult) (rRepT1 X.K) := by
  intro pins s σ H x y v u Q I rx ry h
  obtain ⟨l, xs, rfl, rfl, hT, q⟩ := h
  cases rx
  obtain ⟨t, rfl⟩ := ry
  obtain ⟨its, r, ⟨⟨cls, dd, data, sl⟩, ho, hc, n, hd⟩, hs⟩ := I.tuple hT
  simp only at hc hd
  subst hc hd
  exact wpAny_binaryOp_repeat_ref (T := "tuple") (U := "int") (by decide) ⟨_, ho, rfl⟩ (fun s' => typeIs_int s' 1 t) noFill_tuple_mul PySem.F.fills_int_mul PySem.F.slot_int_rmul repeat_tuple PySem.F.slot_int_index.lookup
    (call_meets PySem.F.slot_int_rmul (typeIs_int s 1 t) PySem.F.entry_int_rmul (PySem.F.args_int_rmul_2 _ _) (int_rmul_tuple 1 t l its.toArray n dd sl)
      ⟨ho, rfl, ⟨_, ho, rfl⟩, call_meets PySem.F.slot_tuple_mul ⟨_, ho, rfl⟩ PySem.F.entry_tuple_mul (PySem.F.args_tuple_mul_2 _ _) (tuple_mul1 l its.toArray n dd sl t) ⟨ho, .ref l, H, I, rfl, q⟩⟩)
def sTimes (x y : GD) : Option GD := match x.2, y.2 with
  | .int i, .int j => if bnd i || bnd j then some (.own, .int (i * j)) else none
  | .lst ds, .int k => if decide (-(2 ^ 63) ≤ k) && decide (k < 2 ^ 63) && szB (ds.length * k.toNat) then some (upL (gj x.1 y.1) (List.replicate k.toNat ds).flatten) else none
  | .tup ds, .int k => if !ds.isEmpty && decide (1 ≤ k) && decide (k ≤ 1000) && decide (ds.length ≤ 1000) then some (up (gj x.1 y.1) (.tup (List.replicate k.toNat ds).flatten)) else none
  | _, _ => none
def rTimes (K : PySem.W.Frag) : R2 := fun x y H Q => rI CMul (fun i j => .int (i * j)) x y H Q ∨ (rRep x y H Q ∨ (rRepT K x y H Q ∨ rRepT1 K x y H Q))
theorem op_times {X : Cx} : OpR X (binaryOp .Mult) (rTimes X.K) := op_mul.or (op_rep.or (op_repT.or op_repT1))
theorem flat_len {α : Type} (l : List α) : ∀ n : Nat, (List.replicate n l).flatten.length = l.length * n
  | 0 => by simp
  | n + 1 => by rw [List.replicate_succ, List.flatten_cons, List.length_append, flat_len l n, Nat.mul_succ, Nat.add_comm]
theorem op2_times : Op2 c τ (rTimes c.K) sTimes := by
  intro H0 res t e fp σ H x y v w qv qw z Q G V1 V2 ev k
  have G' := G.less (res' := res) fun a m => List.mem_append_right _ (List.mem_append_right _ m)
  obtain ⟨A, a1, a2, r1, r2⟩ := best2 V1 V2
  obtain ⟨gx, dx⟩ := x
  obtain ⟨gy, dy⟩ := y
  unfold sTimes at ev
  dsimp only at ev r1 r2 a1
  split at ev
  · rename_i i j
    split at ev
    · rename_i hs
      cases ev
      refine .inl ⟨i, j, r1, r2, ?_, k H _ [] SameT.rf G' isc⟩
      rcases (Bool.or_eq_true _ _).mp hs with h | h
      · exact .inl (of_decide_eq_true h)
      · exact .inr (of_decide_eq_true h)
    · cases ev
  · rename_i ds n
    split at ev
    · rename_i hs
      rw [Bool.and_eq_true, Bool.and_eq_true] at hs
      cases ev
      obtain ⟨a, us, hv, ht, hl, hr⟩ := r1
      have hz : us.length * n.toNat ≤ sizeLine := by rw [hr.len]; exact of_decide_eq_true hs.2
      refine .inr (.inl ⟨a, n, us, hv, r2, ht.2, of_decide_eq_true hs.1.1, of_decide_eq_true hs.1.2, hz, fun p hp => ?_⟩)
      obtain ⟨q', g1, g2⟩ := mk_lst G' hp (ds := (List.replicate n.toNat ds).flatten) (by rw [flat_len]; exact hz) a1 a2 (hr.flat _)
      exact k _ _ q' (SameT.nu hp) g1 g2
    · cases ev
  · rename_i ds n
    split at ev
    · rename_i hs
      rw [Bool.and_eq_true, Bool.and_eq_true, Bool.and_eq_true] at hs
      obtain ⟨⟨⟨s1, s2⟩, s3⟩, s4⟩ := hs
      have s2 := of_decide_eq_true s2
      have s3 := of_decide_eq_true s3
      have s4 := of_decide_eq_true s4
      cases ev
      obtain ⟨a, us, hv, ht, hl, hr⟩ := r1
      have hz : (List.replicate n.toNat us).flatten.length ≤ sizeLine := by
        rw [flat_len, hr.len]
        refine Nat.le_trans (Nat.mul_le_mul s4 (show n.toNat ≤ 1000 by omega)) (by decide)
      by_cases z1 : n = 1
      · subst z1
        have e1 : (List.replicate (1 : Int).toNat ds).flatten = ds := by
          show ds ++ [] = ds
          rw [List.append_nil]
        rw [e1] at k
        refine .inr (.inr (.inr ⟨a, us, hv, r2, ht.sq, ?_⟩))
        exact k H _ [] SameT.rf G' (up_ok (d := .non) a1 a2 ⟨a, us, rfl, ht, hl, hr⟩)
      refine .inr (.inr (.inl ⟨a, n, us, hv, r2, ht.sq, fun z => ?_, by omega, s3, by rw [hr.len]; exact s4, fun p hp => ?_⟩))
      · subst z
        have : ds = [] := List.length_eq_zero_iff.mp hr.len.symm
        subst this
        cases s1
      · obtain ⟨g1, g2⟩ := mk_tup G' hp (ds := (List.replicate n.toNat ds).flatten) hz a1 a2 (hr.flat _)
        exact k _ _ [] (SameT.nu hp) g1 g2
    · cases ev
  · cases ev
section
variable {X : Cx} {a b : Expr} {pos : Pos} {f g : Ex τ} (hk : X.K = c.K) (ha : PE X a (rd c f)) (hb : PE X b (rd c g))
include hk ha hb
theorem d_plus : PE X (.BinOp a .Add b pos) (rd c (x2 sPlus f g)) := d_op op2_plus (hk ▸ op_plus) ha hb
theorem d_times : PE X (.BinOp a .Mult b pos) (rd c (x2 sTimes f g)) := d_op op2_times (hk ▸ op_times) ha hb
end
def flatD : D → Bool | .non => true | .bl _ => true | .int _ => true | .str x => PyData.strOk x | _ => false
theorem flat_rp {A : Addr → Prop} {K : PySem.W.Frag} {T : Addr × Addr} {d : D} (r : Rp K T H A d v) (f : flatD d = true) : flatV v = true := by
  cases d <;> first | (cases f; done) | (rw [show v = _ from r]; rfl)
theorem eqV_rp {A B : Addr → Prop} {K : PySem.W.Frag} {T : Addr × Addr} {d d' : D} (r : Rp K T H A d v) (r' : Rp K T H B d' w) (f : flatD d = true) (f' : flatD d' = true) : eqV v w = deq d d' := by
  cases d <;> first | (cases f; done) | (cases d' <;> first | (cases f'; done) | (rw [show v = _ from r, show w = _ from r']; rfl))
theorem inV_rp {A B : Addr → Prop} {K : PySem.W.Frag} {T : Addr × Addr} {d : D} (r : Rp K T H A d v) (f : flatD d = true) : ∀ {ds : List D} {us : List V}, RpA K T H B ds us → ds.all flatD = true → us.all flatV = true ∧ inV v us = ds.any fun z => deq z d
  | [], us, h, _ => by rw [show us = [] from h]; exact ⟨rfl, rfl⟩
  | x :: ds, us, h, k => by
    obtain ⟨u, us', e, a, b⟩ := h
    rw [List.all_cons, Bool.and_eq_true] at k
    obtain ⟨h1, h2⟩ := inV_rp r f b k.2
    rw [e]
    refine ⟨by rw [List.all_cons, flat_rp a k.1, h1]; rfl, ?_⟩
    show (eqV u v || inV v us') = _
    rw [eqV_rp a r k.1 f, h2, List.any_cons]
def sIn (neg : Bool) (x y : GD) : Option GD := match y.2 with
  | .lst ds => if (flatD x.2 && ds.all flatD) || (cok 7 x.2 && ds.all (cok 7)) then some (.own, .bl (neg ^^ ds.any fun z => deq z x.2)) else none
  | .tup ds => if flatD x.2 && ds.all flatD then some (.own, .bl (neg ^^ ds.any fun z => deq z x.2)) else none
  | _ => none
def rInX (K : PySem.W.Frag) (neg : Bool) : R2 := fun x y H Q => rIn K neg x y H Q ∨ (if neg then rNotInD K x y H Q else rInD K x y H Q)
theorem any_py {d : D} : ∀ {ds : List D}, ((pyA ds).any fun z => PyData.eqv z (py d)) = ds.any fun z => deq z d
  | [] => rfl
  | x :: ds => by
    show (PyData.eqv (py x) (py d) || (pyA ds).any _) = _
    rw [any_py, List.any_cons]
    rfl
theorem op2_in {neg : Bool} : Op2 c τ (rInX c.K neg) (sIn neg) := by
  intro H0 res t e fp σ H x y v w qv qw z Q G V1 V2 ev k
  have G' := G.less (res' := res) fun a m => List.mem_append_right _ (List.mem_append_right _ m)
  have r1 := V1.rp
  have r2 := V2.rp
  obtain ⟨gy, dy⟩ := y
  unfold sIn at ev
  dsimp only at ev r2
  split at ev
  · rename_i ds
    split at ev
    · rename_i hs
      cases ev
      by_cases hf : (flatD x.2 && ds.all flatD) = true
      · rw [Bool.and_eq_true] at hf
        obtain ⟨a, us, hw, ht, hl, hr⟩ := r2
        obtain ⟨h1, h2⟩ := inV_rp r1 hf.1 hr hf.2
        refine .inl ⟨a, us, hw, .inl ht.sq, flat_rp r1 hf.1, h1, ?_⟩
        have e : (if neg = true then !inV v us else inV v us) = (neg ^^ ds.any fun z => deq z x.2) := by rw [h2]; cases neg <;> simp
        rw [e]
        exact k H _ [] SameT.rf G' bsc
      · have hc : (cok 7 x.2 && ds.all (cok 7)) = true := by
          rcases (Bool.or_eq_true _ _).mp hs with h | h
          · exact absurd h hf
          · exact h
        rw [Bool.and_eq_true] at hc
        have c2 : cok 8 (.lst ds) = true := hc.2
        refine .inr ?_
        cases neg with
        | true =>
          rw [if_pos rfl]
          refine ⟨py x.2, pyA ds, r1.dp 7 _ _ hc.1, r2.dp 8 _ _ c2, cok_shaped hc.1 (by decide), cok_shaped c2 (by decide), ?_⟩
          rw [any_py]
          exact k H _ [] SameT.rf G' (by rw [Bool.true_xor]; exact bsc)
        | false =>
          rw [if_neg Bool.false_ne_true]
          refine ⟨py x.2, pyA ds, r1.dp 7 _ _ hc.1, r2.dp 8 _ _ c2, cok_shaped hc.1 (by decide), cok_shaped c2 (by decide), ?_⟩
          rw [any_py]
          exact k H _ [] SameT.rf G' (by rw [Bool.false_xor]; exact bsc)
    · cases ev
  · rename_i ds
    split at ev
    · rename_i hf
      cases ev
      rw [Bool.and_eq_true] at hf
      obtain ⟨a, us, hw, ht, hl, hr⟩ := r2
      obtain ⟨h1, h2⟩ := inV_rp r1 hf.1 hr hf.2
      refine .inl ⟨a, us, hw, .inr ht.sq, flat_rp r1 hf.1, h1, ?_⟩
      have e : (if neg = true then !inV v us else inV v us) = (neg ^^ ds.any fun z => deq z x.2) := by rw [h2]; cases neg <;> simp
      rw [e]
      exact k H _ [] SameT.rf G' bsc
    · cases ev
  · cases ev
section
variable {X : Cx} {a b : Expr} {pos : Pos} {f g : Ex τ} (hk : X.K = c.K) (hu : X.A.units + 65 < cLine) (ha : PE X a (rd c f)) (hb : PE X b (rd c g))
theorem op_inX (hu : X.A.units + 65 < cLine) : OpR X (compareOp .In) (rInX X.K false) := op_in_seq.or (op_inD hu)
theorem op_ninX (hu : X.A.units + 65 < cLine) : OpR X (compareOp .NotIn) (rInX X.K true) := op_notIn_seq.or (op_notInD hu)
include hk hu ha hb
theorem d_in (hm : behindInMarks .In b = false) : PE X (.Compare a [.In] [b] pos) (rd c (x2 (sIn false) f g)) := d_cmp op2_in (hk ▸ op_inX hu) hm ha hb
theorem t_in (hm : behindInMarks .In b = false) : PT X (.Compare a [.In] [b] pos) (rdT c (xB (x2 (sIn false) f g))) := t_cmp op2_in (hk ▸ op_inX hu) hm ha hb
theorem t_nin (hm : behindInMarks .NotIn b = false) : PT X (.Compare a [.NotIn] [b] pos) (rdT c (xB (x2 (sIn true) f g))) := t_cmp op2_in (hk ▸ op_ninX hu) hm ha hb
end
def sNeg : GD → Option GD | (_, .int i) => some (.own, .int (-i)) | _ => none
theorem d_neg {X : Cx} {a : Expr} {pos : Pos} {f : Ex τ} (ha : PE X a (rd c f)) : PE X (.UnaryOp .USub a pos) (rd c (x1 sNeg f)) := imE (pe_un un_neg ha) fun σ H Q h => by
  obtain ⟨H0, res, t, e, fp, t', e', z, G, ev, k⟩ := h
  unfold x1 at ev
  rw [Option.bind_eq_some_iff] at ev
  obtain ⟨⟨t1, e1, gx, dx⟩, ev1, ev⟩ := ev
  rw [Option.map_eq_some_iff] at ev
  obtain ⟨z', ev2, ev⟩ := ev
  cases ev
  refine ⟨H0, res, t, e, fp, t', e', _, G, ev1, fun H1 fp1 v q s1 u1 G1 V1 => ?_⟩
  cases dx with
  | int i => cases ev2; exact ⟨i, V1.rp, k H1 fp1 _ [] s1 u1 (G1.less fun a m => List.mem_append_right _ m) isc⟩
  | _ => cases ev2
end
end Fw
set_option Elab.async false
set_option linter.all false
set_option maxRecDepth 100000
namespace Fw
open PySem L2
section
variable {τ : Type} [Tp τ]
variable {c : Cz} {res res' q q' q1 q2 : List Addr} {t t' : τ} {e e' : Slots} {fp fp' : FP} {σ σ' : L2.St} {H H' H0 : Hp} {x y z : GD} {v w : V} {xs : List GD} {vs : List V}
def OpC (c : Cz) (τ : Type) [Tp τ] (r : List V → Hp → VK → Prop) (s : List GD → Option GD) : Prop := ∀ H0 res (t : τ) e fp σ H xs vs q z (Q : VK), Good c H0 (q ++ res) t e fp σ H → VOkA c H0 res fp H xs vs q → s xs = some z →
  (∀ H' u q', SameT c.T H H' → Good c H0 (q' ++ res) t e fp σ H' → VOk c H0 res fp H' z u q' → Q u H') → r vs H Q
def xBt (s : List GD → Option GD) (fs : List (Ex τ)) : Ex τ := fun t e => (evA fs t e).bind fun (t1, e1, xs) => (s xs).map fun z => (t1, e1, z)
instance {s : List GD → Option GD} {fs : List (Ex τ)} [StabA fs] : Stab (xBt s fs) := ⟨fun {t e t' e' x} h => by
  unfold xBt at h
  rw [Option.bind_eq_some_iff] at h
  obtain ⟨_, h1, h⟩ := h
  rw [Option.map_eq_some_iff] at h
  obtain ⟨_, _, h⟩ := h
  cases h
  exact StabA.h h1⟩
theorem bt_run {s : List GD → Option GD} {fs : List (Ex τ)} {r : List V → Hp → VK → Prop} (hs : OpC c τ r s) {Q : VK} (h : rd c (xBt s fs) σ H Q) : tCB r (rdA c (evA fs)) σ H Q := by
  obtain ⟨H0, res, t, e, fp, t', e', z, G, ev, k⟩ := h
  unfold xBt at ev
  rw [Option.bind_eq_some_iff] at ev
  obtain ⟨⟨t1, e1, xs⟩, ev1, ev⟩ := ev
  rw [Option.map_eq_some_iff] at ev
  obtain ⟨z', ev2, ev⟩ := ev
  cases ev
  exact ⟨H0, res, t, e, fp, t', e', xs, G, ev1, fun H1 fp1 vs q s1 u1 G1 V1 => hs H0 res t' e' fp1 σ H1 xs vs q z Q G1 V1 ev2 fun H' u q' s2 G2 V2 => k H' fp1 u q' (s1.tr s2) u1 G2 V2⟩
section
variable {X : Cx} {s : List GD → Option GD} {f : Ex τ} {fs : List (Ex τ)} {r : List V → Hp → VK → Prop} {id T : String} {nm : Str} {a : Expr} {as : List Expr} {p pos : Pos}
theorem d_blt (hs : OpC c τ r s) (hc : CallR X (.builtin id) r) (hg : Gl X nm) (hm : X.mg nm = none) (hv : bootBuiltins nm = some (.builtin id)) (ha : PA X (a :: as) (rdA c (evA (f :: fs)))) (hn : nm ≠ "__name__" := by decide) (hdb : (nm == ("__debug__" : Str)) = false := by decide)
    (he : starEach (a :: as) X.env = (false, eval a X.env) :: starEach as X.env := by rfl) (hpl : (backTo pos (starEach as X.env)).any (·.1) = false := by rfl) : PE X (.Call (.Name nm p) (a :: as) [] pos) (rd c (xBt s (f :: fs))) :=
  imE (pe_callB hc hg hm hv ha hn hdb he hpl) fun σ H Q h => bt_run hs h
theorem d_ty (hs : OpC c τ r s) (hc : CallR X (.type T) r) (hg : Gl X nm) (hm : X.mg nm = none) (hv : bootBuiltins nm = some (.type T)) (ha : PA X (a :: as) (rdA c (evA (f :: fs)))) (hn : nm ≠ "__name__" := by decide) (hdb : (nm == ("__debug__" : Str)) = false := by decide)
    (he : starEach (a :: as) X.env = (false, eval a X.env) :: starEach as X.env := by rfl) (hpl : (backTo pos (starEach as X.env)).any (·.1) = false := by rfl) : PE X (.Call (.Name nm p) (a :: as) [] pos) (rd c (xBt s (f :: fs))) :=
  imE (pe_callTy hc hg hm hv ha hn hdb he hpl) fun σ H Q h => bt_run hs h
end
theorem VOkA.one (h : VOkA c H0 res fp H [x] vs q) : ∃ v, vs = [v] ∧ VOk c H0 res fp H x v q := by
  obtain ⟨v, r, q1, q2, e1, e2, a, b⟩ := h
  obtain ⟨rfl, rfl⟩ := (show r = [] ∧ q2 = [] from b)
  rw [List.append_nil] at e2
  subst e2
  exact ⟨v, e1, a⟩
theorem VOkA.two (h : VOkA c H0 res fp H [x, y] vs q) : ∃ v w q1 q2, vs = [v, w] ∧ q = q1 ++ q2 ∧ VOk c H0 res fp H x v q1 ∧ VOk c H0 (q1 ++ res) fp H y w q2 := by
  obtain ⟨v, r, q1, q2, e1, e2, a, b⟩ := h
  obtain ⟨w, e3, b⟩ := b.one
  exact ⟨v, w, q1, q2, by rw [e1, e3], e2, a, b⟩
def sLen : List GD → Option GD
  | [(_, .tup ds)] => some (.own, .int ds.length)
  | [(_, .lst ds)] => some (.own, .int ds.length)
  | _ => none
theorem opc_len : OpC c τ (fun xs H Q => ∃ p ys, xs = [.ref p] ∧ (SqL c.K H p ys ∨ SqT c.K H p ys) ∧ Q (.int ys.length) H) sLen := by
  intro H0 res t e fp σ H xs vs q z Q G V1 ev k
  have G' := G.less (res' := res) fun a m => List.mem_append_right _ m
  unfold sLen at ev
  split at ev
  · cases ev
    obtain ⟨v, ev, a⟩ := V1.one
    obtain ⟨p, us, hv, ht, _, hr⟩ := a.rp
    subst hv
    exact ⟨p, us, ev, .inr ht.sq, k H _ [] SameT.rf G' (by rw [hr.len]; exact isc)⟩
  · cases ev
    obtain ⟨v, ev, a⟩ := V1.one
    obtain ⟨p, us, hv, ht, _, hr⟩ := a.rp
    subst hv
    exact ⟨p, us, ev, .inl ht.sq, k H _ [] SameT.rf G' (by rw [hr.len]; exact isc)⟩
  · cases ev
def sAbs : List GD → Option GD
  | [(_, .int i)] => some (.own, .int (if i < 0 then -i else i))
  | _ => none
theorem opc_abs : OpC c τ (fun xs H Q => ∃ i, xs = [.int i] ∧ Q (.int (if i < 0 then -i else i)) H) sAbs := by
  intro H0 res t e fp σ H xs vs q z Q G V1 ev k
  have G' := G.less (res' := res) fun a m => List.mem_append_right _ m
  unfold sAbs at ev
  split at ev
  · cases ev
    obtain ⟨v, ev, a⟩ := V1.one
    have hv : v = .int _ := a.rp
    subst hv
    exact ⟨_, ev, k H _ [] SameT.rf G' isc⟩
  · cases ev
def sMax2 : List GD → Option GD
  | [(_, .int i), (_, .int j)] => some (.own, .int (if j > i then j else i))
  | _ => none
def sMin2 : List GD → Option GD
  | [(_, .int i), (_, .int j)] => some (.own, .int (if j < i then j else i))
  | _ => none
theorem opc_max2 : OpC c τ (fun xs H Q => ∃ i j, xs = [.int i, .int j] ∧ Q (.int (if j > i then j else i)) H) sMax2 := by
  intro H0 res t e fp σ H xs vs q z Q G V1 ev k
  have G' := G.less (res' := res) fun a m => List.mem_append_right _ m
  unfold sMax2 at ev
  split at ev
  · cases ev
    obtain ⟨v, w, q1, q2, ev, _, a, b⟩ := V1.two
    have hv : v = .int _ := a.rp
    have hw : w = .int _ := b.rp
    subst hv hw
    exact ⟨_, _, ev, k H _ [] SameT.rf G' isc⟩
  · cases ev
theorem opc_min2 : OpC c τ (fun xs H Q => ∃ i j, xs = [.int i, .int j] ∧ Q (.int (if j < i then j else i)) H) sMin2 := by
  intro H0 res t e fp σ H xs vs q z Q G V1 ev k
  have G' := G.less (res' := res) fun a m => List.mem_append_right _ m
  unfold sMin2 at ev
  split at ev
  · cases ev
    obtain ⟨v, w, q1, q2, ev, _, a, b⟩ := V1.two
    have hv : v = .int _ := a.rp
    have hw : w = .int _ := b.rp
    subst hv hw
    exact ⟨_, _, ev, k H _ [] SameT.rf G' isc⟩
  · cases ev
def intsD : List D → Option (List Int)
  | [] => some []
  | .int i :: ds => (intsD ds).map (i :: ·)
  | _ :: _ => none
theorem intsD_rp {K : PySem.W.Frag} {T : Addr × Addr} {A : Addr → Prop} : ∀ {ds : List D} {ns : List Int} {us : List V}, intsD ds = some ns → RpA K T H A ds us → us = ns.map V.int
  | [], ns, us, h, r => by cases h; exact r
  | .int i :: ds, ns, us, h, r => by
    have h' : (intsD ds).map (i :: ·) = some ns := h
    rw [Option.map_eq_some_iff] at h'
    obtain ⟨ms, h1, h2⟩ := h'
    obtain ⟨v, r', e, a, b⟩ := r
    have hv : v = .int i := a
    rw [e, hv, intsD_rp h1 b, ← h2]
    rfl
  | .non :: _, _, _, h, _ => by cases h
  | .bl _ :: _, _, _, h, _ => by cases h
  | .str _ :: _, _, _, h, _ => by cases h
  | .tok :: _, _, _, h, _ => by cases h
  | .dct :: _, _, _, h, _ => by cases h
  | .tup _ :: _, _, _, h, _ => by cases h
  | .lst _ :: _, _, _, h, _ => by cases h
  | .dk _ _ :: _, _, _, h, _ => by cases h
theorem intsD_map (ns : List Int) : intsD (ns.map D.int) = some ns := by
  induction ns with
  | nil => rfl
  | cons n ns ih =>
    show (intsD (ns.map D.int)).map (n :: ·) = _
    rw [ih]
    rfl
def blsD : List D → Option (List Bool)
  | [] => some []
  | .bl i :: ds => (blsD ds).map (i :: ·)
  | _ :: _ => none
theorem blsD_rp {K : PySem.W.Frag} {T : Addr × Addr} {A : Addr → Prop} : ∀ {ds : List D} {ns : List Bool} {us : List V}, blsD ds = some ns → RpA K T H A ds us → us = ns.map V.bl
  | [], ns, us, h, r => by cases h; exact r
  | .bl i :: ds, ns, us, h, r => by
    have h' : (blsD ds).map (i :: ·) = some ns := h
    rw [Option.map_eq_some_iff] at h'
    obtain ⟨ms, h1, h2⟩ := h'
    obtain ⟨v, r', e, a, b⟩ := r
    have hv : v = .bl i := a
    rw [e, hv, blsD_rp h1 b, ← h2]
    rfl
  | .non :: _, _, _, h, _ => by cases h
  | .int _ :: _, _, _, h, _ => by cases h
  | .str _ :: _, _, _, h, _ => by cases h
  | .tok :: _, _, _, h, _ => by cases h
  | .dct :: _, _, _, h, _ => by cases h
  | .tup _ :: _, _, _, h, _ => by cases h
  | .lst _ :: _, _, _, h, _ => by cases h
  | .dk _ _ :: _, _, _, h, _ => by cases h
theorem blsD_map (ns : List Bool) : blsD (ns.map D.bl) = some ns := by
  induction ns with
  | nil => rfl
  | cons n ns ih =>
    show (blsD (ns.map D.bl)).map (n :: ·) = _
    rw [ih]
    rfl
def sSum : List GD → Option GD
  | [(_, .lst ds)] => (intsD ds).map fun ns => (.own, .int ns.sum)
  | _ => none
theorem opc_sum : OpC c τ (rSum c.K) sSum := by
  intro H0 res t e fp σ H xs vs q z Q G V1 ev k
  have G' := G.less (res' := res) fun a m => List.mem_append_right _ m
  unfold sSum at ev
  split at ev
  · rw [Option.map_eq_some_iff] at ev
    obtain ⟨ns, h1, h2⟩ := ev
    cases h2
    obtain ⟨v, ev, a⟩ := V1.one
    obtain ⟨p, us, hv, ht, _, hr⟩ := a.rp
    subst hv
    have e := intsD_rp h1 hr
    subst e
    exact ⟨p, ns, ev, ht.sq, k H _ [] SameT.rf G' isc⟩
  · cases ev
def minI : List Int → Int
  | [] => 0
  | [a] => a
  | a :: b :: l => min a (minI (b :: l))
theorem minI_ok : ∀ {l : List Int}, l ≠ [] → minI l ∈ l ∧ ∀ y ∈ l, minI l ≤ y
  | [], h => absurd rfl h
  | [a], _ => ⟨List.mem_singleton.mpr rfl, fun y m => by rw [List.mem_singleton.mp m]; exact Int.le_refl _⟩
  | a :: b :: l, _ => by
    obtain ⟨h1, h2⟩ := minI_ok (l := b :: l) (by simp)
    have e : minI (a :: b :: l) = min a (minI (b :: l)) := rfl
    rw [e]
    refine ⟨?_, fun y m => ?_⟩
    · rcases Int.le_total a (minI (b :: l)) with h | h
      · rw [Int.min_eq_left h]; exact List.mem_cons_self
      · rw [Int.min_eq_right h]; exact List.mem_cons_of_mem _ h1
    · rcases List.mem_cons.mp m with r | r
      · rw [r]; exact Int.min_le_left _ _
      · exact Int.le_trans (Int.min_le_right _ _) (h2 y r)
def sMinL : List GD → Option GD
  | [(_, .lst ds)] => (intsD ds).bind fun ns => if ns.isEmpty then none else some (.own, .int (minI ns))
  | _ => none
theorem opc_minL : OpC c τ (rMin c.K) sMinL := by
  intro H0 res t e fp σ H xs vs q z Q G V1 ev k
  have G' := G.less (res' := res) fun a m => List.mem_append_right _ m
  unfold sMinL at ev
  split at ev
  · rw [Option.bind_eq_some_iff] at ev
    obtain ⟨ns, h1, h2⟩ := ev
    split at h2
    · cases h2
    · rename_i hn
      cases h2
      obtain ⟨v, ev, a⟩ := V1.one
      obtain ⟨p, us, hv, ht, _, hr⟩ := a.rp
      subst hv
      have e := intsD_rp h1 hr
      subst e
      have hn' : ns ≠ [] := fun z => hn (by rw [z]; rfl)
      refine ⟨p, ns, ev, ht.sq, List.length_pos_iff.mpr hn', fun m h3 h4 => ?_⟩
      have : m = minI ns := Int.le_antisymm (h4 _ (minI_ok hn').1) ((minI_ok hn').2 m h3)
      rw [this]
      exact k H _ [] SameT.rf G' isc
  · cases ev
def sAll : List GD → Option GD
  | [(_, .lst ds)] => (blsD ds).map fun ns => (.own, .bl (ns.all id))
  | _ => none
def sAny : List GD → Option GD
  | [(_, .lst ds)] => (blsD ds).map fun ns => (.own, .bl (ns.any id))
  | _ => none
theorem opc_all : OpC c τ (rAll c.K) sAll := by
  intro H0 res t e fp σ H xs vs q z Q G V1 ev k
  have G' := G.less (res' := res) fun a m => List.mem_append_right _ m
  unfold sAll at ev
  split at ev
  · rw [Option.map_eq_some_iff] at ev
    obtain ⟨ns, h1, h2⟩ := ev
    cases h2
    obtain ⟨v, ev, a⟩ := V1.one
    obtain ⟨p, us, hv, ht, _, hr⟩ := a.rp
    subst hv
    have e := blsD_rp h1 hr
    subst e
    exact ⟨p, ns, ev, ht.sq, k H _ [] SameT.rf G' bsc⟩
  · cases ev
def sTuple : List GD → Option GD
  | [(g, .lst ds)] => some (match g with | .own => (.own, .tup ds) | g => up g (.tup ds))
  | [(g, .tup ds)] => some (g, .tup ds)
  | _ => none
theorem opc_tuple : OpC c τ (fun xs H Q => ∃ p ys, xs = [.ref p] ∧ ((SqL c.K H p ys ∧ ∀ l, H l = none → Q (.ref l) (upd H l (.tup ys))) ∨ (SqT c.K H p ys ∧ Q (.ref p) H))) sTuple := by
  intro H0 res t e fp σ H xs vs q z Q G V1 ev k
  unfold sTuple at ev
  split at ev
  · rename_i g ds
    cases ev
    obtain ⟨v, ev, Vx⟩ := V1.one
    obtain ⟨A, a1, a2, r⟩ := Vx.best
    obtain ⟨p, us, hv, ht, hl, hr⟩ := r
    subst hv
    refine ⟨p, us, ev, .inl ⟨ht.sq, fun l hp => ?_⟩⟩
    cases g with
    | own =>
      obtain ⟨⟨p', us', r', e1, e2, e3, _, o⟩, n, kq⟩ := Vx
      cases e1
      subst e2
      have := ht.2.symm.trans e3
      cases this
      have n' := (List.nodup_cons.mp n).2
      refine k _ _ r' (SameT.nu hp) ((G.new hp).less fun a m => ?_) ⟨⟨l, us, rfl, ⟨G.ntp hp, upd_same⟩, hl, o.same (SameT.nu hp) fun a m => (kq a (List.mem_cons_of_mem _ m)).2.1⟩, n', fun a m => kq a (List.mem_cons_of_mem _ m)⟩
      rcases List.mem_append.mp m with m | m
      · exact List.mem_append_left _ (List.mem_cons_of_mem _ m)
      · exact List.mem_append_right _ m
    | frz =>
      obtain ⟨g1, g2⟩ := mk_tup (G.less (res' := res) fun a m => List.mem_append_right _ m) hp (ds := ds) hl a1 a2 hr
      exact k _ _ [] (SameT.nu hp) g1 g2
    | pk =>
      obtain ⟨g1, g2⟩ := mk_tup (G.less (res' := res) fun a m => List.mem_append_right _ m) hp (ds := ds) hl a1 a2 hr
      exact k _ _ [] (SameT.nu hp) g1 g2
  · rename_i g ds
    cases ev
    obtain ⟨v, ev, Vx⟩ := V1.one
    obtain ⟨p, us, hv, ht, hl, hr⟩ := Vx.rp
    subst hv
    exact ⟨p, us, ev, .inr ⟨ht.sq, k H _ q SameT.rf G Vx⟩⟩
  · cases ev
def sList : List GD → Option GD
  | [(g, .lst ds)] => some (match g with | .own => (.own, .lst ds) | g => upL g ds)
  | [(g, .tup ds)] => some (match g with | .own => (.own, .lst ds) | g => upL g ds)
  | _ => none
theorem opc_list : OpC c τ (fun xs H Q => ∃ p ys, xs = [.ref p] ∧ (SqL c.K H p ys ∨ SqT c.K H p ys) ∧ ∀ l, H l = none → Q (.ref l) (upd H l (.lst ys))) sList := by
  intro H0 res t e fp σ H xs vs q z Q G V1 ev k
  unfold sList at ev
  split at ev
  · rename_i g ds
    cases ev
    obtain ⟨v, ev, Vx⟩ := V1.one
    obtain ⟨A, a1, a2, r⟩ := Vx.best
    obtain ⟨p, us, hv, ht, hl, hr⟩ := r
    subst hv
    refine ⟨p, us, ev, .inl ht.sq, fun l hp => ?_⟩
    cases g with
    | own =>
      obtain ⟨⟨p', us', r', e1, e2, e3, _, o⟩, n, kq⟩ := Vx
      cases e1
      subst e2
      have := ht.2.symm.trans e3
      cases this
      have n' := (List.nodup_cons.mp n).2
      obtain ⟨g1, g2⟩ := new_lst (q := r') (res := res) (G.less fun a m => by
        rcases List.mem_append.mp m with m | m
        · exact List.mem_append_left _ (List.mem_cons_of_mem _ m)
        · exact List.mem_append_right _ m) hp hl o n' fun a m => kq a (List.mem_cons_of_mem _ m)
      exact k _ _ _ (SameT.nu hp) g1 g2
    | frz =>
      obtain ⟨q', g1, g2⟩ := mk_lst (G.less (res' := res) fun a m => List.mem_append_right _ m) hp (ds := ds) hl a1 a2 hr
      exact k _ _ q' (SameT.nu hp) g1 g2
    | pk =>
      obtain ⟨q', g1, g2⟩ := mk_lst (G.less (res' := res) fun a m => List.mem_append_right _ m) hp (ds := ds) hl a1 a2 hr
      exact k _ _ q' (SameT.nu hp) g1 g2
  · rename_i g ds
    cases ev
    obtain ⟨v, ev, Vx⟩ := V1.one
    obtain ⟨A, a1, a2, r⟩ := Vx.best
    obtain ⟨p, us, hv, ht, hl, hr⟩ := r
    subst hv
    refine ⟨p, us, ev, .inr ht.sq, fun l hp => ?_⟩
    cases g with
    | own =>
      obtain ⟨⟨p', us', e1, e3, _, o⟩, n, kq⟩ := Vx
      cases e1
      have := ht.2.symm.trans e3.2
      cases this
      obtain ⟨g1, g2⟩ := new_lst (q := q) (res := res) G hp hl o n kq
      exact k _ _ _ (SameT.nu hp) g1 g2
    | frz =>
      obtain ⟨q', g1, g2⟩ := mk_lst (G.less (res' := res) fun a m => List.mem_append_right _ m) hp (ds := ds) hl a1 a2 hr
      exact k _ _ q' (SameT.nu hp) g1 g2
    | pk =>
      obtain ⟨q', g1, g2⟩ := mk_lst (G.less (res' := res) fun a m => List.mem_append_right _ m) hp (ds := ds) hl a1 a2 hr
      exact k _ _ q' (SameT.nu hp) g1 g2
  · cases ev
def insI (a : Int) : List Int → List Int
  | [] => [a]
  | b :: l => if a ≤ b then a :: b :: l else b :: insI a l
def srtI : List Int → List Int
  | [] => []
  | a :: l => insI a (srtI l)
theorem insI_perm (a : Int) : ∀ l, (insI a l).Perm (a :: l)
  | [] => .refl _
  | b :: l => by
    unfold insI
    split
    · exact .refl _
    · exact ((insI_perm a l).cons b).trans (.swap a b l)
theorem insI_sorted (a : Int) : ∀ {l : List Int}, l.Pairwise (· ≤ ·) → (insI a l).Pairwise (· ≤ ·)
  | [], _ => List.pairwise_singleton _ _
  | b :: l, h => by
    unfold insI
    obtain ⟨h1, h2⟩ := List.pairwise_cons.mp h
    split
    · rename_i hab
      refine List.pairwise_cons.mpr ⟨fun y m => ?_, h⟩
      rcases List.mem_cons.mp m with r | r
      · rw [r]; exact hab
      · exact Int.le_trans hab (h1 y r)
    · rename_i hab
      refine List.pairwise_cons.mpr ⟨fun y m => ?_, insI_sorted a h2⟩
      rcases List.mem_cons.mp ((insI_perm a l).mem_iff.mp m) with r | r
      · rw [r]; omega
      · exact h1 y r
theorem srtI_perm : ∀ l, (srtI l).Perm l
  | [] => .refl _
  | a :: l => (insI_perm a _).trans ((srtI_perm l).cons a)
theorem srtI_sorted : ∀ l, (srtI l).Pairwise (· ≤ ·)
  | [] => List.Pairwise.nil
  | a :: l => insI_sorted a (srtI_sorted l)
theorem sorted_one {l m : List Int} (p : l.Perm m) (hl : l.Pairwise (· ≤ ·)) (hm : m.Pairwise (· ≤ ·)) : l = m := p.eq_of_pairwise (fun a b _ _ h1 h2 => Int.le_antisymm h1 h2) hl hm
def sSort : List GD → Option GD
  | [(_, .lst ds)] => (intsD ds).map fun ns => (.own, .lst ((srtI ns).map D.int))
  | _ => none
theorem ints_own {K : PySem.W.Frag} {T : Addr × Addr} : ∀ {ns : List Int}, OwA K T H (ns.map D.int) [] (ns.map V.int)
  | [] => ⟨rfl, rfl⟩
  | n :: ns => ⟨[], [], .int n, ns.map V.int, rfl, rfl, ⟨rfl, rfl⟩, ints_own⟩
theorem opc_sort : OpC c τ (rSortedI c.K) sSort := by
  intro H0 res t e fp σ H xs vs q z Q G V1 ev k
  have G' := G.less (res' := res) fun a m => List.mem_append_right _ m
  unfold sSort at ev
  split at ev
  · rw [Option.map_eq_some_iff] at ev
    obtain ⟨ns, h1, h2⟩ := ev
    cases h2
    obtain ⟨v, ev, a⟩ := V1.one
    obtain ⟨p, us, hv, ht, hl, hr⟩ := a.rp
    subst hv
    have e := intsD_rp h1 hr
    subst e
    refine ⟨p, ns, ev, ht.sq, fun ns' l hp hs hn => ?_⟩
    have : ns' = srtI ns := sorted_one (hp.trans (srtI_perm ns).symm) hs (srtI_sorted ns)
    subst this
    obtain ⟨g1, g2⟩ := new_lst (q := []) (res := res) (ds := (srtI ns).map D.int) (xs := (srtI ns).map V.int) (by exact G') hn (by rw [List.length_map, hp.length_eq]; rw [List.length_map] at hl; exact hl) ints_own List.nodup_nil fun a m => nomatch m
    exact k _ _ [l] (SameT.nu hn) g1 g2
  · cases ev
end
end Fw
set_option Elab.async false
set_option linter.all false
set_option maxRecDepth 100000
namespace Fw
open PySem L2
section
variable {τ : Type} [Tp τ]
variable {c : Cz} {res res' q q' q1 q2 : List Addr} {t t' : τ} {e e' : Slots} {fp fp' : FP} {σ σ' : L2.St} {H H' H0 : Hp} {x y z : GD} {v w : V} {xs : List GD} {vs : List V}
def evO : Option (Ex τ) → τ → Slots → Option (τ × Slots × Option Int)
  | none => fun t e => some (t, e, none)
  | some f => fun t e => (f t e).bind fun (t1, e1, x) => match x.2 with | .int i => some (t1, e1, some i) | _ => none
def rdO (c : Cz) (o : Option (Ex τ)) : TO := fun σ H Q => ∃ H0 res t e fp t' e' i, Good c H0 res t e fp σ H ∧ evO o t e = some (t', e', i) ∧ ∀ H' fp', SameT c.T H H' → Sub fp' fp → Good c H0 res t' e' fp' σ H' → Q i H'
theorem imO {X : Cx} {ex : Option Expr} {u u' : TO} (h : PO X ex u) (k : ∀ σ H Q, u' σ H Q → u σ H Q) : PO X ex u' := ⟨fun pins s σ H Q I r => h.run pins s σ H Q I (k σ H Q r)⟩
theorem o_none {X : Cx} : PO X none (rdO c (none : Option (Ex τ))) := imO po_none fun σ H Q h => by
  obtain ⟨H0, res, t, e, fp, t', e', i, G, ev, k⟩ := h
  cases ev
  exact k H fp SameT.rf Sub.rf G
theorem o_some {X : Cx} {a : Expr} {f : Ex τ} (ha : PE X a (rd c f)) : PO X (some a) (rdO c (some f)) := imO (po_some ha) fun σ H Q h => by
  obtain ⟨H0, res, t, e, fp, t', e', i, G, ev, k⟩ := h
  unfold evO at ev
  rw [Option.bind_eq_some_iff] at ev
  obtain ⟨⟨t1, e1, gx, dx⟩, ev1, ev⟩ := ev
  refine ⟨H0, res, t, e, fp, t1, e1, _, G, ev1, fun H1 fp1 v q s1 u1 G1 V1 => ?_⟩
  cases dx with
  | int j => cases ev; exact ⟨j, V1.rp, k H1 fp1 s1 u1 (G1.less fun a m => List.mem_append_right _ m)⟩
  | _ => cases ev
def cutD (ds : List D) (lo hi : Option Int) : List D := (ds.drop (HT.sIx ds.length 0 lo)).take (HT.sIx ds.length ds.length hi - HT.sIx ds.length 0 lo)
theorem cut_rp {K : PySem.W.Frag} {T : Addr × Addr} {A : Addr → Prop} {ds : List D} {us : List V} {lo hi : Option Int} (h : RpA K T H A ds us) : RpA K T H A (cutD ds lo hi) (cutV us lo hi) := by
  unfold cutD cutV
  rw [h.len]
  exact (h.drop _).take _
def sCut (x : GD) (lo hi : Option Int) : Option GD := match x.2 with
  | .tup ds => some (up (gj x.1 .own) (.tup (cutD ds lo hi)))
  | .lst ds => some (upL (gj x.1 .own) (cutD ds lo hi))
  | _ => none
def xSl (f : Ex τ) (lo hi : Option (Ex τ)) : Ex τ := fun t e => (f t e).bind fun (t1, e1, x) => (evO lo t1 e1).bind fun (t2, e2, i) => (evO hi t2 e2).bind fun (t3, e3, j) => (sCut x i j).map fun z => (t3, e3, z)
class StabO (o : Option (Ex τ)) : Prop where h : ∀ {t e t' e' x}, evO o t e = some (t', e', x) → e' = e
instance : StabO (none : Option (Ex τ)) := ⟨fun h => by cases h; rfl⟩
instance {f : Ex τ} [Stab f] : StabO (some f) := ⟨fun {t e t' e' x} h => by
  unfold evO at h
  rw [Option.bind_eq_some_iff] at h
  obtain ⟨⟨t1, e1, g, d⟩, h1, h⟩ := h
  cases d with
  | int i => cases h; exact Stab.h h1
  | _ => cases h⟩
instance {f : Ex τ} {lo hi : Option (Ex τ)} [Stab f] [StabO lo] [StabO hi] : Stab (xSl f lo hi) := ⟨fun {t e t' e' x} h => by
  unfold xSl at h
  rw [Option.bind_eq_some_iff] at h
  obtain ⟨⟨_, _, _⟩, h1, h⟩ := h
  rw [Option.bind_eq_some_iff] at h
  obtain ⟨⟨_, _, _⟩, h2, h⟩ := h
  rw [Option.bind_eq_some_iff] at h
  obtain ⟨⟨_, _, _⟩, h3, h⟩ := h
  rw [Option.map_eq_some_iff] at h
  obtain ⟨_, _, h⟩ := h
  cases h
  rw [StabO.h h3, StabO.h h2, Stab.h h1]⟩
theorem best1 (V1 : VOk c H0 res fp H x v q1) : ∃ A : Addr → Prop, (gj x.1 .own ≠ .pk → A = Fz c.T res fp) ∧ (∀ a, A a → Fr1 c.T a) ∧ Rp c.K c.T H A x.2 v := by
  obtain ⟨A, a1, a2, r⟩ := V1.best
  exact ⟨A, fun n => a1 fun z => n (by rw [z]; rfl), a2, r⟩
theorem d_sl {X : Cx} {a : Expr} {lo hi : Option Expr} {p2 pos : Pos} {f : Ex τ} {l u : Option (Ex τ)} (hk : X.K = c.K) (ha : PE X a (rd c f)) (hl : PO X lo (rdO c l)) (hu : PO X hi (rdO c u)) : PE X (.Subscript a (.Slice lo hi none p2) pos) (rd c (xSl f l u)) :=
  imE (pe_slice (sl_tupA.or sl_list) ha hl hu) fun σ H Q h => by
    obtain ⟨H0, res, t, e, fp, t', e', z, G, ev, k⟩ := h
    unfold xSl at ev
    rw [Option.bind_eq_some_iff] at ev
    obtain ⟨⟨t1, e1, x⟩, ev1, ev⟩ := ev
    rw [Option.bind_eq_some_iff] at ev
    obtain ⟨⟨t2, e2, i⟩, ev2, ev⟩ := ev
    rw [Option.bind_eq_some_iff] at ev
    obtain ⟨⟨t3, e3, j⟩, ev3, ev⟩ := ev
    rw [Option.map_eq_some_iff] at ev
    obtain ⟨z', ev4, ev⟩ := ev
    cases ev
    refine ⟨H0, res, t, e, fp, t1, e1, x, G, ev1, fun H1 fp1 v q s1 u1 G1 V1 => ?_⟩
    refine ⟨H0, _, t1, e1, fp1, t2, e2, i, G1, ev2, fun H2 fp2 s2 u2 G2 => ?_⟩
    refine ⟨H0, _, t2, e2, fp2, t', e', j, G2, ev3, fun H3 fp3 s3 u3 G3 => ?_⟩
    have V3 := (V1.step s2 u2).step s3 u3
    have G' := G3.less (res' := res) fun a m => List.mem_append_right _ m
    have s := (s1.tr s2).tr s3
    have uu := (u1.tr u2).tr u3
    obtain ⟨A, a1, a2, r⟩ := best1 V3
    unfold sCut at ev4
    split at ev4
    · rename_i ds hx
      cases ev4
      rw [hx] at r
      obtain ⟨p, us, hv, ht, hz, hr⟩ := r
      subst hv
      refine .inl ⟨p, us, rfl, hk ▸ ht.sq, fun n => ?_, fun n l hp => ?_⟩
      · have e : cutD ds i j = ds := by
          unfold cutD
          rw [← hr.len, n.1, n.2, List.drop_zero, Nat.sub_zero, hr.len, List.take_length]
        rw [e] at k
        exact k H3 fp3 _ [] s uu G' (up_ok (d := .tup ds) a1 a2 ⟨p, us, rfl, ht, hz, hr⟩)
      · obtain ⟨g1, g2⟩ := mk_tup G' hp (ds := cutD ds i j) (Nat.le_trans (cutV_length _ _ _) hz) a1 a2 (cut_rp hr)
        exact k _ fp3 _ [] (s.tr (SameT.nu hp)) uu g1 g2
    · rename_i ds hx
      cases ev4
      rw [hx] at r
      obtain ⟨p, us, hv, ht, hz, hr⟩ := r
      subst hv
      refine .inr ⟨p, us, rfl, hk ▸ ht.sq, fun l hp => ?_⟩
      obtain ⟨q', g1, g2⟩ := mk_lst G' hp (ds := cutD ds i j) (Nat.le_trans (cutV_length _ _ _) hz) a1 a2 (cut_rp hr)
      exact k _ fp3 _ q' (s.tr (SameT.nu hp)) uu g1 g2
    · cases ev4
def isi (T : String) : D → Option Bool
  | .non => kitB "NoneType" T
  | .bl _ => kitB "bool" T
  | .int _ => kitB "int" T
  | .str _ => kitB "str" T
  | .tup _ => kitB "tuple" T
  | .lst _ => kitB "list" T
  | .tok => none
  | .dct => kitB "dict" T
  | .dk _ _ => none
theorem isi_rp {K : PySem.W.Frag} {Tt : Addr × Addr} {A : Addr → Prop} {T : String} {d : D} {b : Bool} (r : Rp K Tt H A d v) (h : isi T d = some b) : ∃ u, TyX K H v (.type u) ∧ kitB u T = some b := by
  cases d with
  | non => rw [show v = _ from r]; exact ⟨_, .base .non, h⟩
  | bl _ => rw [show v = _ from r]; exact ⟨_, .base (.bl _), h⟩
  | int _ => rw [show v = _ from r]; exact ⟨_, .base (.int _), h⟩
  | str _ => rw [show v = _ from r]; exact ⟨_, .base (.str _), h⟩
  | tup _ =>
    obtain ⟨a, us, e, t, _⟩ := r
    rw [e]; exact ⟨_, .base (.tup t.2), h⟩
  | lst _ =>
    obtain ⟨a, us, e, t, _⟩ := r
    rw [e]; exact ⟨_, .base (.lst t.2), h⟩
  | tok => cases h
  | dk _ _ => cases h
  | dct =>
    obtain ⟨a, e, t⟩ := r
    rw [e]; exact ⟨_, .base (.dK t.2), h⟩
def xIsi (T : String) (f : Ex τ) : Ex τ := x1 (fun x => (isi T x.2).map fun b => (.own, .bl b)) f
theorem d_isi {X : Cx} {T : String} {nm cn : Str} {a : Expr} {p p2 pos : Pos} {f : Ex τ} (hk : X.K = c.K) (hg : Gl X nm) (hm : X.mg nm = none) (hv : bootBuiltins nm = some (.builtin "isinstance")) (hg2 : Gl X cn) (hm2 : X.mg cn = none) (hv2 : bootBuiltins cn = some (.type T)) (ha : PE X a (rd c f)) (hn : nm ≠ "__name__" := by decide) (hdb : (nm == ("__debug__" : Str)) = false := by decide)
    (hn2 : cn ≠ "__name__" := by decide) (hdb2 : (cn == ("__debug__" : Str)) = false := by decide)
    (he : starEach [a, .Name cn p2] X.env = (false, eval a X.env) :: starEach [.Name cn p2] X.env := by rfl) (hpl : (backTo pos (starEach [.Name cn p2] X.env)).any (·.1) = false := by rfl) : PE X (.Call (.Name nm p) [a, .Name cn p2] [] pos) (rd c (xIsi T f)) :=
  imE (pe_callB call_isi hg hm hv (pa_cons ha (pa_cons (pe_bltn (v := .ty T) hg2 hm2 hv2 rfl hn2 hdb2) pa_nil) he) hn hdb he hpl) fun σ H Q h => by
    obtain ⟨H0, res, t, e, fp, t', e', z, G, ev, k⟩ := h
    unfold xIsi x1 at ev
    rw [Option.bind_eq_some_iff] at ev
    obtain ⟨⟨t1, e1, x⟩, ev1, ev⟩ := ev
    rw [Option.map_eq_some_iff] at ev
    obtain ⟨z', ev2, ev⟩ := ev
    cases ev
    rw [Option.map_eq_some_iff] at ev2
    obtain ⟨b, ev2, ev3⟩ := ev2
    cases ev3
    refine ⟨H0, res, t, e, fp, t', e', x, G, ev1, fun H1 fp1 v q s1 u1 G1 V1 => ?_⟩
    obtain ⟨u, k1, k2⟩ := isi_rp V1.rp ev2
    exact ⟨v, .ty T, _, _, b, rfl, .ty T, hk ▸ k1, kit_ty k2, k H1 fp1 _ [] s1 u1 (G1.less fun a m => List.mem_append_right _ m) bsc⟩
theorem mut_ok (G : Good c H0 q t e fp σ H) {i : Nat} {d d' : D} {a : Addr} {us ws : List V} (hi : e[i]? = some (some (true, d))) (ha : a ∈ fp i) (hl : H a = some (.lst us)) (hv : σ[i]? = some (some v)) (o : Ow c.K c.T (upd H a (.lst ws)) d' q' v) (n : q'.Nodup)
    (hq : ∀ b, b ∈ q' → b ∈ fp i ∨ b ∈ q) (h0 : ∀ b, b ∈ q → H0 b = none) : Good c H0 [] t (e.set i (some (true, d'))) (fun j => if j = i then q' else fp j) σ (upd H a (.lst ws)) := by
  have hli : i < e.length := by
    by_cases z : i < e.length
    · exact z
    · rw [List.getElem?_eq_none (by omega)] at hi; cases hi
  have nt : ¬ tp c.T a := (G.nw i a ha).2.1
  have cs : ∀ j b, b ∈ (if j = i then q' else fp j) → (j = i ∧ b ∈ q') ∨ (j ≠ i ∧ b ∈ fp j) := fun j b m => by
    by_cases z : j = i
    · rw [if_pos z] at m; exact .inl ⟨z, m⟩
    · rw [if_neg z] at m; exact .inr ⟨z, m⟩
  refine { s0 := fun b o k w => ?_, ti := Tp.loc G.ti (upd_ne fun z => nt (.inl z.symm)) (upd_ne fun z => nt (.inr z.symm)), len := by rw [List.length_set]; exact G.len, ow := fun j d1 k => ?_, fz := fun j d1 k => ?_, fe := fun j k => ?_, nd := fun j => ?_, dj := fun j l b m1 m2 => ?_, nw := fun j b m => ?_, rs := fun b m => nomatch m }
  · rw [upd_ne fun z => by rw [z, (G.nw i a ha).1] at w; cases w]
    exact G.s0 b o k w
  · rw [set_get hli] at k
    by_cases z : j = i
    · rw [if_pos z] at k ⊢
      cases k
      rw [z]
      exact ⟨v, hv, o⟩
    · rw [if_neg z] at k ⊢
      obtain ⟨v', h1, h2⟩ := G.ow j d1 k
      exact ⟨v', h1, h2.updR hl fun b m w => z (G.dj j i a (by rw [← w]; exact m) ha)⟩
  · rw [set_get hli] at k
    by_cases z : j = i
    · rw [if_pos z] at k; cases k
    · rw [if_neg z] at k
      obtain ⟨v', h1, h2⟩ := G.fz j d1 k
      refine ⟨v', h1, (h2.updR hl fun b m w => m.2.2 i (by rw [w]; exact ha)).same SameT.rf fun b m => ⟨m.1, fun _ => ⟨m.1, fun w => (nomatch w), fun l w => ?_⟩⟩⟩
      rcases cs l b w with ⟨_, w⟩ | ⟨_, w⟩
      · rcases hq b w with w | w
        · exact m.2.2 i w
        · exact m.2.1 w
      · exact m.2.2 l w
  · by_cases z : j = i
    · exact absurd (by rw [set_get hli, if_pos z]) (k d')
    · rw [if_neg z]
      refine G.fe j fun d1 w => k d1 ?_
      rw [set_get hli, if_neg z]; exact w
  · by_cases z : j = i
    · rw [if_pos z]; exact n
    · rw [if_neg z]; exact G.nd j
  · rcases cs j b m1 with ⟨e1, m1⟩ | ⟨e1, m1⟩ <;> rcases cs l b m2 with ⟨e2, m2⟩ | ⟨e2, m2⟩
    · rw [e1, e2]
    · rcases hq b m1 with w | w
      · rw [e1]; exact G.dj i l b w m2
      · exact absurd w (G.nw l b m2).2.2
    · rcases hq b m2 with w | w
      · rw [e2]; exact G.dj j i b m1 w
      · exact absurd w (G.nw j b m1).2.2
    · exact G.dj j l b m1 m2
  · rcases cs j b m with ⟨e1, m⟩ | ⟨e1, m⟩
    · rcases hq b m with w | w
      · exact ⟨(G.nw i b w).1, (G.nw i b w).2.1, fun w => nomatch w⟩
      · exact ⟨h0 b w, (G.rs b w).2, fun w => nomatch w⟩
    · exact ⟨(G.nw j b m).1, (G.nw j b m).2.1, fun w => nomatch w⟩
theorem OwA.snoc {K : PySem.W.Frag} {T : Addr × Addr} : ∀ {ds : List D} {q q1 : List Addr} {us : List V} {d : D}, OwA K T H ds q us → Ow K T H d q1 v → OwA K T H (ds ++ [d]) (q ++ q1) (us ++ [v])
  | [], q, q1, us, d, o, k => by
    obtain ⟨h1, h2⟩ := o
    subst h1 h2
    exact ⟨q1, [], v, [], by rw [List.append_nil]; rfl, rfl, k, rfl, rfl⟩
  | d0 :: ds, q, q1, us, d, o, k => by
    obtain ⟨a, b, u, r, e1, e2, o1, o2⟩ := o
    subst e1 e2
    exact ⟨a, b ++ q1, u, r ++ [v], by rw [List.append_assoc], rfl, o1, OwA.snoc o2 k⟩
/-- a slot's own list, as it stands -/
theorem own_at (G : Good c H0 res t e fp σ H) {i : Nat} {ds : List D} (hi : e[i]? = some (some (true, .lst ds))) : ∃ a us r, σ[i]? = some (some (.ref a)) ∧ H a = some (.lst us) ∧ us.length ≤ sizeLine ∧ OwA c.K c.T H ds r us ∧ fp i = a :: r ∧ a ∉ r ∧ r.Nodup := by
  obtain ⟨v, hv, a, us, r, e1, e2, h1, h2, o⟩ := G.ow i _ hi
  have n := G.nd i
  rw [e2] at n
  obtain ⟨n1, n2⟩ := List.nodup_cons.mp n
  exact ⟨a, us, r, by rw [hv, e1], h1, h2, o, e2, n1, n2⟩
def ownL (e : Slots) (i : Nat) : Option (List D) := match e[i]? with
  | some (some (true, .lst ds)) => some ds
  | _ => none
theorem ownL_ok {e : Slots} {i : Nat} {ds : List D} (h : ownL e i = some ds) : e[i]? = some (some (true, .lst ds)) := by
  unfold ownL at h
  split at h
  · rename_i k; cases h; exact k
  · cases h
def sApp (i : Nat) (f : Ex τ) : Sx τ := fun t e => (ownL e i).bind fun _ => (f t e).bind fun (t1, e1, x) => (ownL e1 i).bind fun ds => match x with
  | (.own, d) => if szB (ds.length + 1) then some (t1, e1.set i (some (true, .lst (ds ++ [d]))), .nx) else none
  | _ => none
theorem s_app {X : Cx} {i : Nat} {nm : Str} {a : Expr} {f : Ex τ} {p apos cpos pos : Pos} (hk : X.K = c.K) (hn : PE X (.Name nm p) (tVar i)) (ha : PA X [a] (rdA c (evA [f])))
    (hfew : ((backTo cpos (starEach [a] X.env)).all (fun x => !x.1) && (backToKw cpos (keywordEach [] X.env)).all (fun x => x.1.isSome) && decide ([a].length + ([] : List Keyword).length + (if ([] : List Keyword).isEmpty then 0 else 1) < 30)) = true := by rfl) (hline : (apos.endLine == cpos.line) = true := by rfl)
    (hs : starEach [a] X.env = (false, eval a X.env) :: starEach [] X.env := by rfl) (hplain : (backTo cpos (starEach [] X.env)).any (·.1) = false := by rfl) (hsw : swapsWith (.Call (.Attribute (.Name nm p) "append" apos) [a] [] cpos) none pos.line X.env = pure false := by rfl) (hbase : attributeBase (.Name nm p) "append" X.env (eval (.Name nm p) X.env) = eval (.Name nm p) X.env := by rfl) :
    PS X (.Expr (.Call (.Attribute (.Name nm p) "append" apos) [a] [] cpos) pos) (rdS c (sApp i f)) :=
  imS (ps_expr (pe_bm PySem.F.plainAttrs_list PySem.F.slot_list_append PySem.F.type_list_append mt_append hn ha hbase hfew hline hs hplain) hsw) fun W σ H h => by
    obtain ⟨H0, t, e, fp, t', e', fl, G, ev, k⟩ := h
    unfold sApp at ev
    rw [Option.bind_eq_some_iff] at ev
    obtain ⟨ds0, ev0, ev⟩ := ev
    rw [Option.bind_eq_some_iff] at ev
    obtain ⟨⟨t1, e1, x⟩, ev1, ev⟩ := ev
    rw [Option.bind_eq_some_iff] at ev
    obtain ⟨ds, hi, ev⟩ := ev
    have hi := ownL_ok hi
    obtain ⟨a, us, _, hv, hl, _⟩ := own_at G (ownL_ok ev0)
    split at ev
    · rename_i d
      split at ev
      · rename_i hs
        cases ev
        · -- the receiver stands ahead of the argument
          refine ⟨.ref a, hv, .inl ⟨rfl, us, .inl (.inl hl)⟩, ?_⟩
          refine ⟨H0, [], t, e, fp, t', e1, _, G, (show evA [f] t e = _ by unfold evA evA; rw [ev1]; rfl), fun H1 fp1 vs q s1 u1 G1 V1 => ?_⟩
          obtain ⟨y, hy, Vx⟩ := V1.one
          obtain ⟨a', us', r, h1, h2, h3, h4, h5, h6, h7⟩ := own_at G1 hi
          rw [hv] at h1
          cases h1
          have hz : us'.length < sizeLine := by
            have a1 := h4.len
            have a2 := of_decide_eq_true hs
            show us'.length < 16777216
            omega
          refine ⟨a, us', y, rfl, hy, h2, hz, ?_⟩
          rw [List.append_nil] at G1
          have ne : ∀ b ∈ q, b ≠ a := fun b m z => (G1.nw i a (by rw [h5]; exact List.mem_cons_self)).2.2 (by rw [← z]; exact m)
          have o1 := h4.mono (H' := upd H1 a (.lst (us' ++ [y]))) (fun b ws z => z.updR h2) (fun b z => z.updR h2) _ _ _ fun b m => upd_ne fun z => h6 (by rw [← z]; exact m)
          have o2 := Vx.1.updR (o := .lst (us' ++ [y])) h2 ne
          have G2 := mut_ok (ws := us' ++ [y]) (q' := a :: (r ++ q)) (d' := .lst (ds ++ [d])) G1 hi (by rw [h5]; exact List.mem_cons_self) h2 hv ⟨a, us' ++ [y], r ++ q, rfl, rfl, upd_same, by rw [List.length_append]; exact hz, o1.snoc o2⟩ (List.nodup_cons.mpr ⟨fun m => (List.mem_append.mp m).elim h6 fun w => ne a w rfl, List.nodup_append.mpr ⟨h7, Vx.2.1, fun b m b' m' z => by
              subst z
              exact (Vx.2.2 b m').2.2.2 i (by rw [h5]; exact List.mem_cons_of_mem _ m)⟩⟩) (fun b m => by
              rw [h5]
              rcases List.mem_cons.mp m with w | w
              · exact .inl (by rw [w]; exact List.mem_cons_self)
              · exact (List.mem_append.mp w).elim (fun w => .inl (List.mem_cons_of_mem _ w)) .inr) fun b m => (Vx.2.2 b m).1
          exact k _ _ _ G2
      · cases ev
    · cases ev
end
end Fw
set_option Elab.async false
set_option linter.all false
set_option maxRecDepth 100000
namespace Fw
open PySem L2
section
variable {τ : Type} [Tp τ]
variable {c : Cz} {res res' q q' q1 q2 : List Addr} {t t' : τ} {e e' : Slots} {fp fp' : FP} {σ σ' : L2.St} {H H' H0 : Hp} {x y z : GD} {v w : V} {xs : List GD} {vs : List V}
def fnOf (n N : Nat) (bd : Sx τ) : Fn τ := fun t ds => if ds.length = n then (bd t (ds.map (fun d => some (false, d)) ++ List.replicate (N - n) none)).bind fun (t', _, fl) => match fl with
  | .rt b d => some (t', b, d)
  | .nx => some (t', true, .non)
  | _ => none else none
theorem good_start {K : PySem.W.Frag} {T : Addr × Addr} {N : List Str} {ds : List D} {us : List V} (hn : ds.length ≤ N.length) (r : RpA K T H (Fr1 T) ds us) (ht : Tp.ti T H t) : Good ⟨K, T⟩ H [] t (ds.map (fun d => some (false, d)) ++ List.replicate (N.length - ds.length) none) (fun _ => []) (L2.start N us) H where
  s0 := SameT.rf
  ti := ht
  len := by unfold L2.start; rw [List.length_append, List.length_append, List.length_map, List.length_map, List.length_replicate, List.length_replicate, r.len]
  ow := fun i d h => by
    exfalso
    rw [List.getElem?_append] at h
    split at h
    · rw [List.getElem?_map, Option.map_eq_some_iff] at h
      obtain ⟨_, _, h⟩ := h
      cases h
    · rw [List.getElem?_replicate] at h
      split at h <;> cases h
  fz := fun i d h => by
    rw [List.getElem?_append] at h
    split at h
    · rw [List.getElem?_map, Option.map_eq_some_iff] at h
      obtain ⟨d', h1, h⟩ := h
      cases h
      obtain ⟨v, h2, h3⟩ := r.get h1
      refine ⟨v, ?_, h3.same SameT.rf fun a n => ⟨n, fun _ => ⟨n, fun m => (nomatch m), fun _ m => nomatch m⟩⟩⟩
      unfold L2.start
      rw [List.getElem?_append_left (by rw [List.length_map]; exact (List.getElem?_eq_some_iff.mp h2).1), List.getElem?_map, h2]
      rfl
    · rw [List.getElem?_replicate] at h
      split at h <;> cases h
  fe := fun _ _ => rfl
  nd := fun _ => List.nodup_nil
  dj := fun _ _ _ m => nomatch m
  nw := fun _ _ m => nomatch m
  rs := fun _ m => nomatch m
theorem fn_ok {P : Program} {w : World} {K : PySem.W.Frag} {mg : Str → Option Value} {base : Heap} {nm qual : Str} {st : Stmt} {f : Addr} {fd : FuncData} {N ps : List Str} {bd : Sx τ} {k : Nat} (F : L2.Fun K nm qual st f fd) (S : FnScope N ps (defScope st)) (hN : ps.length ≤ N.length)
    (body : ∀ (cdv : Value) (A : Around) (outer : List Env) (s : Shared) (H : Hp) (E : XK) (T : Addr × Addr), Room k (A.deeper (PyProof.Rows.envOfC qual (defScope st) s.heap.objs.size f cdv)) → PSs (cxOf CX0 P w K mg base N qual (defScope st) f cdv A outer s H E).nox (defBody st) (rdS ⟨K, T⟩ bd)) :
    FnOk P w K mg base CX0 (k + 1) f fd ps (spF K (fnOf ps.length N.length bd)) := by
  refine F.ok S (fun vs H Q E h => ?_) fun cdv A outer s H vs Q E hr h => ?_
  · obtain ⟨T, t, ds, t', b, d, r, _, ev, _⟩ := h
    unfold fnOf at ev
    split at ev
    · rename_i hl
      rw [r.len, hl]
    · cases ev
  · obtain ⟨T, t, ds, t', b, d, r, ht, ev, k⟩ := h
    unfold fnOf at ev
    split at ev
    · rename_i hl
      rw [Option.bind_eq_some_iff] at ev
      obtain ⟨⟨t1, e1, fl⟩, ev1, ev⟩ := ev
      refine ⟨_, body cdv A outer s H E T hr, H, t, _, _, t1, e1, fl, good_start (by rw [hl]; exact hN) r ht, by rw [hl]; exact ev1, ?_⟩
      cases fl with
      | rt b' d' => cases ev; exact fun H' v s ti r => k H' v s ti r
      | nx => cases ev; exact fun H' σ' fp' G => k H' .non G.s0 G.ti ⟨[], ⟨rfl, rfl⟩, List.nodup_nil, fun a m => nomatch m⟩
      | bk => cases ev
      | ct => cases ev
    · cases ev
def lexP (a b : Int × Int) : Bool := decide (a.1 < b.1) || (decide (a.1 = b.1) && decide (a.2 ≤ b.2))
def insP (a : Int × Int) : List (Int × Int) → List (Int × Int)
  | [] => [a]
  | b :: l => if lexP a b then a :: b :: l else b :: insP a l
def srtP : List (Int × Int) → List (Int × Int)
  | [] => []
  | a :: l => insP a (srtP l)
theorem lexP_iff {a b : Int × Int} : lexP a b = true ↔ a.1 < b.1 ∨ (a.1 = b.1 ∧ a.2 ≤ b.2) := by
  unfold lexP
  rw [Bool.or_eq_true, Bool.and_eq_true, decide_eq_true_iff, decide_eq_true_iff, decide_eq_true_iff]
theorem insP_perm (a : Int × Int) : ∀ l, (insP a l).Perm (a :: l)
  | [] => .refl _
  | b :: l => by
    unfold insP
    split
    · exact .refl _
    · exact ((insP_perm a l).cons b).trans (.swap a b l)
theorem insP_sorted (a : Int × Int) : ∀ {l : List (Int × Int)}, l.Pairwise (fun x y => lexP x y = true) → (insP a l).Pairwise (fun x y => lexP x y = true)
  | [], _ => List.pairwise_singleton _ _
  | b :: l, h => by
    unfold insP
    obtain ⟨h1, h2⟩ := List.pairwise_cons.mp h
    split
    · rename_i hab
      refine List.pairwise_cons.mpr ⟨fun y m => ?_, h⟩
      rcases List.mem_cons.mp m with r | r
      · rw [r]; exact hab
      · have := h1 y r
        rw [lexP_iff] at hab this ⊢
        omega
    · rename_i hab
      refine List.pairwise_cons.mpr ⟨fun y m => ?_, insP_sorted a h2⟩
      rcases List.mem_cons.mp ((insP_perm a l).mem_iff.mp m) with r | r
      · rw [r]
        rw [lexP_iff] at hab ⊢
        omega
      · exact h1 y r
theorem srtP_perm : ∀ l, (srtP l).Perm l
  | [] => .refl _
  | a :: l => (insP_perm a _).trans ((srtP_perm l).cons a)
theorem srtP_sorted : ∀ l, (srtP l).Pairwise (fun x y => lexP x y = true)
  | [] => List.Pairwise.nil
  | a :: l => insP_sorted a (srtP_sorted l)
theorem sortedP_one {l m : List (Int × Int)} (p : l.Perm m) (hl : l.Pairwise (fun x y => lexP x y = true)) (hm : m.Pairwise (fun x y => lexP x y = true)) : l = m := p.eq_of_pairwise (fun a b _ _ h1 h2 => by
  rw [lexP_iff] at h1 h2
  exact Prod.ext (by omega) (by omega)) hl hm
def pairD (p : Int × Int) : D := .tup [.int p.1, .int p.2]
def prsD : List D → Option (List (Int × Int))
  | [] => some []
  | .tup [.int a, .int b] :: ds => (prsD ds).map ((a, b) :: ·)
  | _ :: _ => none
theorem prsD_map (ns : List (Int × Int)) : prsD (ns.map pairD) = some ns := by
  induction ns with
  | nil => rfl
  | cons n ns ih =>
    show (prsD (ns.map pairD)).map ((n.1, n.2) :: ·) = _
    rw [ih]
    rfl
theorem prsD_eq : ∀ {ds : List D} {ns}, prsD ds = some ns → ds = ns.map pairD
  | [], ns, h => by cases h; rfl
  | d :: ds, ns, h => by
    unfold prsD at h
    split at h
    · cases h; rename_i h; cases h
    · rename_i a b ds' he
      cases he
      rw [Option.map_eq_some_iff] at h
      obtain ⟨ms, h1, h2⟩ := h
      rw [prsD_eq h1, ← h2]
      rfl
    · cases h
def sSortP : List GD → Option GD
  | [(_, .lst ds)] => match intsD ds with
    | some ns => some (.own, .lst ((srtI ns).map D.int))
    | none => (prsD ds).map fun ns => (.own, .lst ((srtP ns).map pairD))
  | _ => none
/-- the pair that stands at a value -/
theorem pair_key {K : PySem.W.Frag} {T : Addr × Addr} {A : Addr → Prop} : ∀ {ns : List (Int × Int)} {us : List V}, RpA K T H A (ns.map pairD) us → ∃ f : V → Int × Int, us.map f = ns ∧ ∀ u ∈ us, ∃ a, u = .ref a ∧ ¬ tp T a ∧ H a = some (.tup [.int (f u).1, .int (f u).2]) := by
  intro ns us r
  have each : ∀ {ns : List (Int × Int)} {us : List V}, RpA K T H A (ns.map pairD) us → ∀ (i : Nat) p u, ns[i]? = some p → us[i]? = some u → ∃ a, u = .ref a ∧ ¬ tp T a ∧ H a = some (.tup [.int p.1, .int p.2]) := by
    intro ns us r i p u h1 h2
    obtain ⟨v, h3, h4⟩ := r.get (i := i) (d := pairD p) (by rw [List.getElem?_map, h1]; rfl)
    rw [h2] at h3
    cases h3
    obtain ⟨a, ws, e, t, _, k⟩ := h4
    obtain ⟨v1, r1, e1, k1, v2, r2, e2, k2, k3⟩ := k
    have : r2 = [] := k3
    have h1' : v1 = .int p.1 := k1
    have h2' : v2 = .int p.2 := k2
    subst this h1' h2' e2 e1
    exact ⟨a, e, t.1, t.2⟩
  let f : V → Int × Int := fun u => match u with
    | .ref a => match H a with
      | some (.tup [.int i, .int j]) => (i, j)
      | _ => (0, 0)
    | _ => (0, 0)
  have hl : us.length = ns.length := by rw [r.len, List.length_map]
  have ff : ∀ (i : Nat) p u, ns[i]? = some p → us[i]? = some u → f u = p := fun i p u h1 h2 => by
    obtain ⟨a, e, _, h⟩ := each r i p u h1 h2
    subst e
    show (match H a with | some (.tup [.int i, .int j]) => (i, j) | _ => (0, 0)) = p
    rw [h]
  refine ⟨f, List.ext_getElem? fun i => ?_, fun u m => ?_⟩
  · rw [List.getElem?_map]
    cases h : us[i]? with
    | none =>
      have := List.getElem?_eq_none_iff.mp h
      rw [List.getElem?_eq_none (by omega)]
      rfl
    | some u =>
      have hi := (List.getElem?_eq_some_iff.mp h).1
      have h1 : ns[i]? = some (ns[i]'(by omega)) := by simp [show i < ns.length by omega]
      rw [h1]
      exact congrArg some (ff i _ u h1 h)
  · obtain ⟨i, hi, rfl⟩ := List.getElem_of_mem m
    have h : us[i]? = some us[i] := by simp [hi]
    have h1 : ns[i]? = some (ns[i]'(by omega)) := by simp [show i < ns.length by omega]
    rw [ff i _ _ h1 h]
    exact each r i _ _ h1 h
theorem pair_own {K : PySem.W.Frag} {T : Addr × Addr} {f : V → Int × Int} : ∀ {us : List V}, (∀ u ∈ us, ∃ a, u = .ref a ∧ ¬ tp T a ∧ H a = some (.tup [.int (f u).1, .int (f u).2])) → OwA K T H ((us.map f).map pairD) [] us
  | [], _ => ⟨rfl, rfl⟩
  | u :: us, h => by
    obtain ⟨a, e, n, k⟩ := h u List.mem_cons_self
    exact ⟨[], [], u, us, rfl, rfl, ⟨a, _, e, ⟨n, k⟩, Nat.le_of_ble_eq_true rfl, [], [], _, _, rfl, rfl, ⟨rfl, rfl⟩, [], [], _, _, rfl, rfl, ⟨rfl, rfl⟩, rfl, rfl⟩, pair_own fun x m => h x (List.mem_cons_of_mem _ m)⟩
def rSrt (K : PySem.W.Frag) : List V → Hp → VK → Prop := fun xs H Q => rSortedI K xs H Q ∨ rSortedPO K xs H Q
theorem cr_srt {X : Cx} : CallR X (.builtin "sorted") (rSrt X.K) := cr_sortedI.or cr_sortedPO
theorem opc_sortP : OpC c τ (rSrt c.K) sSortP := by
  intro H0 res t e fp σ H xs vs q z Q G V1 ev k
  have G' := G.less (res' := res) fun a m => List.mem_append_right _ m
  unfold sSortP at ev
  split at ev
  · rename_i g ds
    split at ev
    · rename_i ns hi
      refine .inl (opc_sort H0 res t e fp σ H _ vs q z Q G V1 ?_ k)
      show (intsD ds).map _ = some z
      rw [hi]
      exact ev
    · rw [Option.map_eq_some_iff] at ev
      obtain ⟨ns, h1, h2⟩ := ev
      cases h2
      obtain ⟨v, ev, a⟩ := V1.one
      obtain ⟨p, us, hv, ht, hl, hr⟩ := a.rp
      subst hv
      have e := prsD_eq h1
      subst e
      obtain ⟨f, hf, hu⟩ := pair_key hr
      refine .inr ⟨p, us, f, ev, ht.sq, fun u m => ?_, fun ys l hs hst hn => ?_⟩
      · obtain ⟨a, h1, _, h2⟩ := hu u m
        exact ⟨a, h1, h2⟩
      · have hp := hst.perm
        have hy : ∀ u ∈ ys, ∃ a, u = .ref a ∧ ¬ tp c.T a ∧ H a = some (.tup [.int (f u).1, .int (f u).2]) := fun u m => hu u (hp.mem_iff.mp m)
        have srt : ys.map f = srtP ns := by
          refine sortedP_one (((hp.map f).trans (by rw [hf])).trans (srtP_perm ns).symm) ?_ (srtP_sorted ns)
          rw [List.pairwise_map]
          refine hs.imp fun {a b} h => ?_
          have h2 := SrtO.lexB_no.mp (show SrtO.lexB (f b) (f a) = false from h)
          rw [lexP_iff]
          omega
        have o := pair_own (K := c.K) hy
        rw [srt] at o
        obtain ⟨g1, g2⟩ := new_lst (q := []) (res := res) (by exact G') hn (by rw [hp.length_eq]; exact hl) o List.nodup_nil fun a m => nomatch m
        exact k _ _ [l] (SameT.nu hn) g1 g2
  · cases ev
end
end Fw
set_option Elab.async false
set_option linter.all false
set_option maxRecDepth 100000
namespace Fw
open PySem L2
section
variable {τ : Type} [Tp τ]
variable {c : Cz} {res res' q q' q1 q2 : List Addr} {t t' : τ} {e e' : Slots} {fp fp' : FP} {σ σ' : L2.St} {H H' H0 : Hp} {x y z : GD} {v w : V} {xs : List GD} {vs : List V}
theorem b64 {A : Around} {k : Nat} (r : Room k A) : A.units + 64 < cLine := r.units
theorem b65 {A : Around} {k : Nat} (r : Room k A) : A.units + 65 < cLine := by
  have := r.un
  omega
theorem d_gint {X : Cx} {nm : Str} {i : Int} {pos : Pos} (hg : Gl X nm) (hm : ∃ u, X.mg nm = some (.int i u)) (hd : (nm == ("__debug__" : Str)) = false := by decide) : PE X (.Name nm pos) (rd c (xC (τ := τ) (.int i))) := by
  obtain ⟨u, hm⟩ := hm
  exact imE (pe_glob (v := .int i) hg hm ⟨u, rfl⟩ hd) fun σ H Q h => by
    obtain ⟨H0, res, t, e, fp, t', e', x, G, ev, k⟩ := h
    cases ev
    exact k H fp _ [] SameT.rf Sub.rf G (scl_ok rfl)
theorem d_xM {X : Cx} {i : Nat} {nm : Str} {pos : Pos} (h : PE X (.Name nm pos) (tVar i)) : PE X (.Name nm pos) (rd c (xM (τ := τ) i)) := imE h fun σ H Q r => by
  obtain ⟨H0, res, t, e, fp, t', e', x, G, ev, k⟩ := r
  unfold xM at ev
  split at ev
  · rename_i d hs
    cases ev
    obtain ⟨v, h1, h2⟩ := G.ow i d hs
    have hi : i < e.length := (List.getElem?_eq_some_iff.mp hs).1
    refine ⟨v, h1, ?_⟩
    have sub : ∀ j a, a ∈ (if j = i then [] else fp j) → a ∈ fp j ∧ j ≠ i := fun j a m => by
      by_cases z : j = i
      · rw [if_pos z] at m; cases m
      · rw [if_neg z] at m; exact ⟨m, z⟩
    refine k H (fun j => if j = i then [] else fp j) v (fp i) SameT.rf (fun j a m => (sub j a m).1) ?_ ⟨h2, G.nd i, fun a m => ⟨(G.nw i a m).1, (G.nw i a m).2.1, (G.nw i a m).2.2, fun j z => (sub j a z).2 (G.dj j i a (sub j a z).1 m)⟩⟩
    refine { s0 := G.s0, ti := G.ti, len := by rw [List.length_set]; exact G.len, ow := fun j d' z => ?_, fz := fun j d' z => ?_, fe := fun j z => ?_, nd := fun j => ?_, dj := fun j l a m n => G.dj j l a (sub j a m).1 (sub l a n).1, nw := fun j a m => ⟨(G.nw j a (sub j a m).1).1, (G.nw j a (sub j a m).1).2.1, fun z => ?_⟩, rs := fun a m => ?_ }
    · rw [set_get hi] at z
      by_cases n : j = i
      · rw [if_pos n] at z; cases z
      · rw [if_neg n] at z ⊢; exact G.ow j d' z
    · rw [set_get hi] at z
      by_cases n : j = i
      · rw [if_pos n] at z; cases z
      · rw [if_neg n] at z
        obtain ⟨u, k1, k2⟩ := G.fz j d' z
        exact ⟨u, k1, k2.same SameT.rf fun a w => ⟨w.1, fun _ => ⟨w.1, fun m => (List.mem_append.mp m).elim (w.2.2 i) w.2.1, fun l m => w.2.2 l (sub l a m).1⟩⟩⟩
    · by_cases n : j = i
      · rw [if_pos n]
      · rw [if_neg n]
        refine G.fe j fun d' w => z d' ?_
        rw [set_get hi, if_neg n]; exact w
    · by_cases n : j = i
      · rw [if_pos n]; exact List.nodup_nil
      · rw [if_neg n]; exact G.nd j
    · rcases List.mem_append.mp z with z | z
      · exact (sub j a m).2 (G.dj j i a (sub j a m).1 z)
      · exact (G.nw j a (sub j a m).1).2.2 z
    · rcases List.mem_append.mp m with m | m
      · obtain ⟨ys, hy, hm⟩ := G.fpt m
        exact ⟨by rw [hy]; exact fun z => (nomatch z), (G.nw i a m).2.1⟩
      · exact G.rs a m
  · rename_i d hs
    obtain ⟨v, h1, h2⟩ := G.fz i d hs
    refine ⟨v, h1, ?_⟩
    cases ev
    by_cases hi : imm d = true
    · exact k H fp v [] SameT.rf Sub.rf G (by rw [if_pos hi]; exact VOk.imm h2 hi)
    · exact k H fp v [] SameT.rf Sub.rf G (by rw [if_neg hi]; exact ⟨rfl, h2⟩)
  · cases ev
theorem d_xF {X : Cx} {i : Nat} {nm : Str} {pos : Pos} (h : PE X (.Name nm pos) (tVar i)) : PE X (.Name nm pos) (rd c (xF (τ := τ) i)) := imE h fun σ H Q r => by
  obtain ⟨H0, res, t, e, fp, t', e', x, G, ev, k⟩ := r
  unfold xF at ev
  split at ev
  · rename_i b d hs
    obtain ⟨v, h1, h2, h3⟩ := G.sigma hs
    have hi : i < e.length := (List.getElem?_eq_some_iff.mp hs).1
    refine ⟨v, h1, ?_⟩
    split at ev
    · rename_i hm
      cases ev
      exact k H fp v [] SameT.rf Sub.rf G (VOk.imm h2 hm)
    · cases ev
      cases b with
      | false =>
        have G' := st_frz G hi (h3 rfl)
        have e1 : σ.set i (some v) = σ := by
          refine List.ext_getElem? fun j => ?_
          by_cases z : j = i
          · rw [z, List.getElem?_set_self (by rw [← G.len]; exact hi), h1]
          · rw [List.getElem?_set_ne (Ne.symm z)]
        rw [e1] at G'
        have sub : Sub (fun j => if j = i then [] else fp j) fp := fun j a m => by
          dsimp only at m
          by_cases z : j = i
          · rw [if_pos z] at m; cases m
          · rw [if_neg z] at m; exact m
        exact k H _ v [] SameT.rf sub G' ⟨rfl, (h3 rfl).same SameT.rf fun a z => ⟨z.1, fun _ => ⟨z.1, z.2.1, fun j m => z.2.2 j (sub j a m)⟩⟩⟩
      | true =>
        obtain ⟨v', h1', o⟩ := G.ow i d hs
        rw [h1] at h1'
        cases h1'
        have sub : Sub (fun j => if j = i then [] else fp j) fp := fun j a m => by
          dsimp only at m
          by_cases z : j = i
          · rw [if_pos z] at m; cases m
          · rw [if_neg z] at m; exact m
        have fr : Rp c.K c.T H (Fz c.T res fun j => if j = i then [] else fp j) d v := o.rp _ _ _ fun a m => ⟨(G.nw i a m).2.1, (G.nw i a m).2.2, fun j z => by
          dsimp only at z
          by_cases n : j = i
          · rw [if_pos n] at z; cases z
          · rw [if_neg n] at z; exact n (G.dj j i a z m)⟩
        refine k H (fun j => if j = i then [] else fp j) v [] SameT.rf sub ?_ ⟨rfl, fr⟩
        refine { s0 := G.s0, ti := G.ti, len := by rw [List.length_set]; exact G.len, ow := fun j d' z => ?_, fz := fun j d' z => ?_, fe := fun j z => ?_, nd := fun j => ?_, dj := fun j l a m n => G.dj j l a (sub j a m) (sub l a n), nw := fun j a m => G.nw j a (sub j a m), rs := G.rs }
        · rw [set_get hi] at z
          by_cases n : j = i
          · rw [if_pos n] at z; cases z
          · rw [if_neg n] at z ⊢; exact G.ow j d' z
        · rw [set_get hi] at z
          by_cases n : j = i
          · rw [if_pos n] at z; cases z
            rw [n]
            exact ⟨v, h1, fr⟩
          · rw [if_neg n] at z
            obtain ⟨u, k1, k2⟩ := G.fz j d' z
            exact ⟨u, k1, k2.same SameT.rf fun a w => ⟨w.1, fun _ => ⟨w.1, w.2.1, fun l m => w.2.2 l (sub l a m)⟩⟩⟩
        · by_cases n : j = i
          · rw [if_pos n]
          · rw [if_neg n]
            refine G.fe j fun d' w => z d' ?_
            rw [set_get hi, if_neg n]; exact w
        · by_cases n : j = i
          · rw [if_pos n]; exact List.nodup_nil
          · rw [if_neg n]; exact G.nd j
  · cases ev
def parOk (xs : List GD) : Bool := xs.all (fun x => match x.1 with | .own => true | _ => false) || xs.all (fun x => match x.1 with | .own => imm x.2 | _ => true)
def sPar (is : List Nat) (fs : List (Ex τ)) : Sx τ := fun t e => (evA fs t e).bind fun (t1, e1, xs) => if parOk xs then (stA is xs e1).map fun e2 => (t1, e2, .nx) else none
theorem VOkA.nil_q : ∀ {xs : List GD} {res vs q}, VOkA c H0 res fp H xs vs q → xs.all (fun x => match x.1 with | .own => imm x.2 | _ => true) = true → q = []
  | [], _, _, _, h, _ => h.2
  | (g, d) :: xs, _, _, _, h, k => by
    obtain ⟨v, r, q1, q2, e1, e2, a, b⟩ := h
    rw [List.all_cons, Bool.and_eq_true] at k
    have hq2 := VOkA.nil_q b k.2
    have hq1 : q1 = [] := by
      cases g with
      | own => exact Ow.nil_of d q1 v k.1 a.1
      | frz => exact a.1
      | pk => exact a.1
    rw [e2, hq1, hq2]
    rfl
theorem par_core {is : List Nat} (hp : parOk xs = true) (G : Good c H0 (q ++ []) t e fp σ H) (Vx : VOkA c H0 [] fp H xs vs q) (ev : stA is xs e = some e') : ∃ fp', Good c H0 [] t e' fp' ((is.zip vs).foldl (fun s p => s.set p.1 (some p.2)) σ) H ∧ is.length = vs.length := by
  rw [List.append_nil] at G
  refine stA_ok G Vx ev fun ⟨x, m, n⟩ => ?_
  rcases (Bool.or_eq_true _ _).mp hp with h | h
  · rw [List.all_eq_true] at h
    have := h x m
    revert this n
    cases x.1 <;> intro n k
    · exact absurd rfl n
    · cases k
    · cases k
  · exact Vx.nil_q h
theorem s_par {X : Cx} {i j : Nat} {n1 n2 : Str} {a b : Expr} {f g : Ex τ} {px py pt pos : Pos} {kt k2 pt2} (hc : X.calm = true) (hN : X.N.Nodup) (hi : X.N[i]? = some n1) (hj : X.N[j]? = some n2) (hij : i ≠ j) (hx : X.env.scope.names.lookup n1 = some .local) (hy : X.env.scope.names.lookup n2 = some .local)
    (ha : PA X [a, b] (rdA c (evA [f, g]))) (hw : swappedStores [.Tuple [.Name n1 px, .Name n2 py] kt pt] (.Tuple [a, b] k2 pt2) X.env = pure (some [n1, n2])) (hs : swapsWithSole [.Tuple [.Name n1 px, .Name n2 py] kt pt] (.Tuple [a, b] k2 pt2) pos.line X.env = pure false := by rfl) :
    PS X (.Assign [.Tuple [.Name n1 px, .Name n2 py] kt pt] (.Tuple [a, b] k2 pt2) pos) (rdS c (sPar [i, j] [f, g])) := imS (ps_par hc hN hi hj hij hx hy ha hw hs) fun W σ H h => by
  obtain ⟨H0, t, e, fp, t', e', fl, G, ev, k⟩ := h
  unfold sPar at ev
  rw [Option.bind_eq_some_iff] at ev
  obtain ⟨⟨t1, e1, xs⟩, ev1, ev⟩ := ev
  dsimp only at ev
  split at ev
  · rename_i hp
    rw [Option.map_eq_some_iff] at ev
    obtain ⟨e2, ev2, ev⟩ := ev
    cases ev
    refine ⟨H0, [], t, e, fp, t', e1, xs, G, ev1, fun H1 fp1 vs q s1 u1 G1 V1 => ?_⟩
    obtain ⟨fp', G', l⟩ := par_core hp G1 V1 ev2
    match vs, l with
    | [v, w], _ => exact ⟨v, w, rfl, k H1 _ fp' G'⟩
  · cases ev
def sAug (i : Nat) (g : Int → Int → Int) (f : Ex τ) : Sx τ := fun t e => match e[i]? with
  | some (some (_, .int k)) => (f t e).bind fun (t1, e1, x) => match x.2 with
    | .int l => (stI i (.own, .int (g k l)) e1).map fun e2 => (t1, e2, .nx)
    | _ => none
  | _ => none
theorem OwA.set {K : PySem.W.Frag} {T : Addr × Addr} : ∀ {ds : List D} {q q1 : List Addr} {us : List V} {d : D} (j : Nat), OwA K T H ds q us → Ow K T H d q1 v → q.Nodup → q1.Nodup → (∀ a ∈ q1, a ∉ q) → ∃ q', OwA K T H (ds.set j d) q' (us.set j v) ∧ q'.Nodup ∧ ∀ a ∈ q', a ∈ q ∨ a ∈ q1
  | [], q, q1, us, d, j, o, k, n, n1, h => by
    obtain ⟨h1, h2⟩ := o
    subst h1 h2
    exact ⟨[], ⟨rfl, rfl⟩, List.nodup_nil, fun a m => nomatch m⟩
  | d0 :: ds, q, q1, us, d, 0, o, k, n, n1, h => by
    obtain ⟨a, b, u, r, e1, e2, o1, o2⟩ := o
    subst e1 e2
    refine ⟨q1 ++ b, ⟨q1, b, v, r, rfl, rfl, k, o2⟩, ?_, fun x m => ?_⟩
    · rw [List.nodup_append] at n ⊢
      exact ⟨n1, n.2.1, fun x m y m' z => h x m (by rw [z]; exact List.mem_append_right _ m')⟩
    · rcases List.mem_append.mp m with m | m
      · exact .inr m
      · exact .inl (List.mem_append_right _ m)
  | d0 :: ds, q, q1, us, d, j + 1, o, k, n, n1, h => by
    obtain ⟨a, b, u, r, e1, e2, o1, o2⟩ := o
    subst e1 e2
    rw [List.nodup_append] at n
    obtain ⟨q', o', n', k'⟩ := OwA.set j o2 k n.2.1 n1 fun x m z => h x m (List.mem_append_right _ z)
    refine ⟨a ++ q', ⟨a, q', u, r.set j v, rfl, rfl, o1, o'⟩, ?_, fun x m => ?_⟩
    · rw [List.nodup_append]
      refine ⟨n.1, n', fun x m y m' z => ?_⟩
      subst z
      rcases k' x m' with w | w
      · exact n.2.2 x m x w rfl
      · exact h x w (List.mem_append_left _ m)
    · rcases List.mem_append.mp m with m | m
      · exact .inl (List.mem_append_left _ m)
      · exact (k' x m).elim (fun w => .inl (List.mem_append_right _ w)) .inr
/-- a slot's list with one item changed -/
theorem set_ok (G : Good c H0 q t e fp σ H) {i j : Nat} {ds : List D} {d : D} (hi : e[i]? = some (some (true, .lst ds))) (Vx : VOk c H0 [] fp H (.own, d) v q) : ∃ a us, σ[i]? = some (some (.ref a)) ∧ H a = some (.lst us) ∧ us.length = ds.length ∧ ∃ fp', Good c H0 [] t (e.set i (some (true, .lst (ds.set j d)))) fp' σ (upd H a (.lst (us.set j v))) := by
  obtain ⟨a, us, r, h1, h2, h3, h4, h5, h6, h7⟩ := own_at G hi
  refine ⟨a, us, h1, h2, h4.len, ?_⟩
  obtain ⟨k1, k2, k3⟩ := Vx
  have ha : a ∈ fp i := by rw [h5]; exact List.mem_cons_self
  have ne : ∀ b ∈ q, b ≠ a := fun b m z => (k3 b m).2.2.2 i (by rw [z]; exact ha)
  have o1 := h4.mono (H' := upd H a (.lst (us.set j v))) (fun b ws z => z.updR h2) (fun b z => z.updR h2) _ _ _ fun b m => upd_ne fun z => h6 (by rw [← z]; exact m)
  have o2 := k1.updR (o := .lst (us.set j v)) h2 ne
  obtain ⟨q', o', n', k'⟩ := OwA.set j o1 o2 h7 k2 fun b m z => (k3 b m).2.2.2 i (by rw [h5]; exact List.mem_cons_of_mem _ z)
  refine ⟨_, mut_ok (q' := a :: q') (d' := .lst (ds.set j d)) G hi ha h2 h1 ⟨a, us.set j v, q', rfl, rfl, upd_same, by rw [List.length_set]; exact h3, o'⟩ (List.nodup_cons.mpr ⟨fun m => (k' a m).elim h6 fun w => ne a w rfl, n'⟩) (fun b m => ?_) fun b m => (k3 b m).1⟩
  rw [h5]
  rcases List.mem_cons.mp m with w | w
  · exact .inl (by rw [w]; exact List.mem_cons_self)
  · exact (k' b w).elim (fun z => .inl (List.mem_cons_of_mem _ z)) .inr
def sSetI (i : Nat) (g : Ex τ) (f : Ex τ) : Sx τ := fun t e => (f t e).bind fun (t1, e1, x) => (g t1 e1).bind fun (t2, e2, y) => (ownL e1 i).bind fun _ => (ownL e2 i).bind fun ds => match x, y.2 with
  | (.own, d), .int k => (L2.ixN ds.length k).map fun j => (t2, e2.set i (some (true, .lst (ds.set j d))), .nx)
  | _, _ => none
theorem s_setI {X : Cx} {i : Nat} {nm : Str} {ix ex : Expr} {f g : Ex τ} {p p' pos : Pos} (hn : PE X (.Name nm p) (tVar i)) (hg : PE X ix (rd c g)) (ha : PE X ex (rd c f)) (hs : swapsWithSole [.Subscript (.Name nm p) ix p'] ex pos.line X.env = pure false := by rfl) (hw : swappedStores [.Subscript (.Name nm p) ix p'] ex X.env = pure none := by rfl)
    (h1 : (assignEach [.Subscript (.Name nm p) ix p'] X.env).map (·.2) = [assign (.Subscript (.Name nm p) ix p') X.env] := by rfl)
    (has : ∀ v, assign (.Subscript (.Name nm p) ix p') X.env v = (do
      let ov ← holding [v] (eval (.Name nm p) X.env)
      let iv ← holding [v, ov] (eval ix X.env)
      standAt p'
      holding [v, ov, iv] (setItem ov iv v)
      release [v, ov, iv] []) := by intro _; rfl) : PS X (.Assign [.Subscript (.Name nm p) ix p'] ex pos) (rdS c (sSetI i g f)) := imS (ps_asg ha (pg_sub hn hg set_list has) hs hw h1) fun W σ H h => by
  obtain ⟨H0, t, e, fp, t', e', fl, G, ev, k⟩ := h
  unfold sSetI at ev
  rw [Option.bind_eq_some_iff] at ev
  obtain ⟨⟨t1, e1, x⟩, ev1, ev⟩ := ev
  rw [Option.bind_eq_some_iff] at ev
  obtain ⟨⟨t2, e2, y⟩, ev2, ev⟩ := ev
  rw [Option.bind_eq_some_iff] at ev
  obtain ⟨ds0, ev0, ev⟩ := ev
  rw [Option.bind_eq_some_iff] at ev
  obtain ⟨ds, hi, ev⟩ := ev
  have hi := ownL_ok hi
  obtain ⟨gy, dy⟩ := y
  refine ⟨H0, [], t, e, fp, t1, e1, x, G, ev1, fun H1 fp1 v q s1 u1 G1 V1 => ?_⟩
  obtain ⟨a, us, _, hv, _⟩ := own_at G1 (ownL_ok ev0)
  refine ⟨.ref a, hv, H0, _, t1, e1, fp1, t2, e2, _, G1, ev2, fun H2 fp2 w q2 s2 u2 G2 V2 => ?_⟩
  split at ev
  · rename_i d _ kk hdy
    cases hdy
    rw [Option.map_eq_some_iff] at ev
    obtain ⟨j, hj, ev⟩ := ev
    cases ev
    have G3 : Good c H0 q t' e2 fp2 σ H2 := G2.less fun a m => List.mem_append_right _ (List.mem_append_left _ m)
    obtain ⟨a', us', h1, h2, h3, fp', G'⟩ := set_ok (j := j) G3 hi (V1.step s2 u2)
    rw [hv] at h1
    cases h1
    exact ⟨a, us', kk, j, rfl, V2.rp, h2, by rw [h3]; exact hj, k _ _ fp' G'⟩
  · cases ev
end
theorem bt_len : bootBuiltins "len" = some (.builtin "len") := by decide +kernel
theorem bt_abs : bootBuiltins "abs" = some (.builtin "abs") := by decide +kernel
theorem bt_max : bootBuiltins "max" = some (.builtin "max") := by decide +kernel
theorem bt_min : bootBuiltins "min" = some (.builtin "min") := by decide +kernel
theorem bt_sum : bootBuiltins "sum" = some (.builtin "sum") := by decide +kernel
theorem bt_all : bootBuiltins "all" = some (.builtin "all") := by decide +kernel
theorem bt_sorted : bootBuiltins "sorted" = some (.builtin "sorted") := by decide +kernel
theorem bt_isinstance : bootBuiltins "isinstance" = some (.builtin "isinstance") := by decide +kernel
theorem bt_int : bootBuiltins "int" = some (.type "int") := by decide +kernel
theorem bt_bool : bootBuiltins "bool" = some (.type "bool") := by decide +kernel
theorem bt_list : bootBuiltins "list" = some (.type "list") := by decide +kernel
theorem bt_tuple : bootBuiltins "tuple" = some (.type "tuple") := by decide +kernel
end Fw
set_option Elab.async false
set_option linter.all false
set_option maxRecDepth 100000
namespace Fw
open PySem L2
structure Tpa where
  at_ : Int
  cells : List Int
instance : Tp Tpa where
  ti T H t := H T.1 = some (.lst [.int t.at_, .ref T.2]) ∧ H T.2 = some (.lst (t.cells.map V.int)) ∧ T.1 ≠ T.2
  loc := fun {T H H' t} h a b => ⟨by rw [a]; exact h.1, by rw [b]; exact h.2.1, h.2.2⟩
  df := fun {T H t} h => ⟨by rw [h.1]; exact fun z => (nomatch z), by rw [h.2.1]; exact fun z => nomatch z⟩
def takeA (t : Tpa) (m : Int) : Option (Tpa × Int) :=
  if m < 2 then some (t, 0) else if t.cells.length = 0 then none else
    let k := t.at_ % (t.cells.length : Int)
    let c := t.cells.getD k.toNat 0
    if 1000000000000000000 ≤ c then (if m.natAbs.log2 < 9000 then some (⟨t.at_, t.cells.set k.toNat (c / m)⟩, c % m) else none)
    else if c ≤ -18446744073709551616 then none else
      let a := t.at_ + 1
      let x := (c * 48271 + a * 69621) % 2147483647
      let y := (x * 16807 + a * 7919) % 1000000007
      some (⟨a, t.cells⟩, y / 7 % m)
def phTake : Fn Tpa := fun t ds => match ds with
  | [.tok, .int m] => (takeA t m).map fun (t', r) => (t', true, .int r)
  | _ => none
def initA (ns : List Int) : Tpa := ⟨0, if (ns.take 63).map (fun i : Int => if i < 0 then -i else i) = [] then [0] else (ns.take 63).map (fun i : Int => if i < 0 then -i else i)⟩
def spState (K : PySem.W.Frag) : Sp := fun vs H Q _ => ∃ (a : Addr) (ns : List Int), vs = [.ref a] ∧ SqL K H a (ns.map V.int) ∧ ns.length ≤ 63 ∧ ∀ (H' : Hp) (T : Addr × Addr), Same H H' → Tp.ti T H' (initA ns) → Q (.ref T.1) H'
def spLaw (K : PySem.W.Frag) : Sp := fun vs H Q _ => ∃ (a : Addr) (ns : List Int), vs = [.ref a] ∧ SqL K H a (ns.map V.int) ∧ ns.length ≤ 63 ∧ ∀ H', Q (.bl true) H'
/-- the rest of the law, behind its first row -/
def rdX {τ : Type} [Tp τ] (K : PySem.W.Frag) (bd : Sx τ) : TS := fun D σ H => ∃ T, rdS ⟨K, T⟩ bd D σ H
theorem b_X {τ : Type} [Tp τ] {X : Cx} {K : PySem.W.Frag} {bd : Sx τ} {sts : List Stmt} (h : ∀ T, PSs X sts (rdS ⟨K, T⟩ bd)) : PSs X sts (rdX K bd) := ⟨fun pins s σ H D I ⟨T, r⟩ => (h T).run pins s σ H D I r⟩
/-- the slots behind the first row: the tape at i, nothing else -/
def slotsX (N i : Nat) : Slots := (List.replicate N none).set i (some (false, .tok))
theorem law_rest {τ : Type} [Tp τ] {K : PySem.W.Frag} {bd : Sx τ} {W : Ends} {σ : L2.St} {H : Hp} {T : Addr × Addr} {t t' : τ} {e' : Slots} {b : Bool} {i : Nat} (ht : Tp.ti T H t) (hi : σ[i]? = some (some (.ref T.1))) (ev : bd t (slotsX σ.length i) = some (t', e', .rt b (.bl true))) (k : ∀ H', W.rt (.bl true) H') : rdX K bd W σ H := by
  refine ⟨T, H, t, slotsX σ.length i, fun _ => [], t', e', _, ?_, ev, fun H' v s ti' r => ?_⟩
  · have g : ∀ (j : Nat) p, (slotsX σ.length i)[j]? = some (some p) → j = i ∧ p = (false, .tok) := fun j p h => by
      unfold slotsX at h
      by_cases z : j = i
      · rw [z] at h
        by_cases l : i < (List.replicate σ.length (none : Option (Bool × D))).length
        · rw [List.getElem?_set_self l] at h
          cases h
          exact ⟨z, rfl⟩
        · rw [List.getElem?_eq_none (by rw [List.length_set]; omega)] at h
          cases h
      · rw [List.getElem?_set_ne (Ne.symm z), List.getElem?_replicate] at h
        split at h <;> cases h
    exact { s0 := SameT.rf, ti := ht, len := by unfold slotsX; rw [List.length_set, List.length_replicate], ow := (fun j d h => by
              have w := (g j _ h).2
              cases w),
            fz := (fun j d h => by
              obtain ⟨h1, h2⟩ := g j _ h
              cases h2
              rw [h1]
              exact ⟨_, hi, rfl⟩), fe := fun _ _ => rfl, nd := fun _ => List.nodup_nil, dj := fun _ _ _ m => (nomatch m), nw := fun _ _ m => (nomatch m), rs := fun _ m => nomatch m }
  · have : v = .bl true := by
      cases b with
      | true => obtain ⟨q, o, _⟩ := r; exact o.2
      | false => exact r
    rw [this]
    exact k H'
end Fw
set_option Elab.async false
set_option linter.all false
set_option maxRecDepth 100000
namespace Fw
open PySem L2 PySem.Spec
section
variable {prog : Program} {w : World} {A : Around} {E : Value → Shared → Prop} {s : Shared} {l : Addr} {its : List Value} {ns : List Int} {Q : Value → Shared → Prop}
theorem iter_tup {xs : Array Value} {Q : Value → Shared → Prop} (hl : s.heap.IsTuple l xs)
    (h : ∀ s₂ : Shared, s₂ = { s with heap := s.heap.push { cls := .type "tuple_iterator", data := .fields #[.ref l, .int 0 0] } } → (s₂.heap.IsTupleIter s.heap.objs.size l 0 ∧ s₂.heap.IsTuple l xs) →
      (∀ b ∈ [s.heap.objs.size, l], b < s₂.heap.objs.size) → l ≠ s.heap.objs.size → Q (.ref s.heap.objs.size) s₂) : wpAny (model prog w) A (pyIter (.ref l)) Q E s := by
  have lt : l < s.heap.objs.size := by
    obtain ⟨_, e, _⟩ := hl
    exact Heap.lt_size e
  refine wpAny_pyIter_tuple hl (h _ rfl ⟨⟨_, Heap.get?_push_size _ rfl, rfl, rfl⟩, hl.push _⟩ (fun b hb => ?_) (Nat.ne_of_lt lt))
  show b < (Heap.push s.heap _).objs.size
  rw [Heap.size_push]
  rcases List.mem_cons.mp hb with r | r
  · rw [r]; exact Nat.lt_succ_self _
  · rw [List.mem_singleton.mp r]; exact Nat.lt_succ_of_lt lt
theorem kept_tup {h' : Heap} (hk : ∀ b o, b ∉ [s.heap.objs.size] → (s.heap.push { cls := .type "tuple_iterator", data := .fields #[.ref l, .int 0 0] }).get? b = some o → h'.get? b = some o) : ∀ b o, s.heap.get? b = some o → h'.get? b = some o := fun b o e => by
  refine hk b o (fun m => ?_) (Heap.get?_push_of_some _ e)
  have z := List.mem_singleton.mp m
  exact absurd (z ▸ Heap.lt_size e) (Nat.lt_irrefl _)
theorem tup_sum (hh : A.handled = none) (hl : s.heap.IsTuple l its.toArray) (hi : PyProof.Rows.IntsAre its ns) (h : ∀ h' tk t', (∀ b o, s.heap.get? b = some o → h'.get? b = some o) → Q (.int ns.sum t') { s with heap := h', toks := tk }) : wpAny (model prog w) A (call (.builtin "sum") [.ref l]) Q E s := by
  obtain ⟨xs, e⟩ := hi.allInts.items
  have hn : numsOf (intItems xs).toList = ns := by rw [← e]; exact hi.numsOf
  rw [nums_intItems] at hn
  rw [e] at hl
  refine call_sum_walkG (iter_tup hl fun s₂ e2 st hfp ne => ?_)
  subst e2
  refine ⟨_, _, _, _, _, _, numAt xs, rfl, Walks.tuple (A := A.in1) hh _ l ne (intItems xs), st, hfp, fun _ _ => intItems_at, fun h' tk t' hk => ?_⟩
  have k := h h' tk t' (kept_tup hk)
  have e3 : preSum (numAt xs) (intItems xs).size = ns.sum := by
    rw [preSum_eq, hn, List.take_of_length_le]
    rw [← hn]
    simp [intItems]
  rw [e3]
  exact k
theorem tup_min (hh : A.handled = none) (hl : s.heap.IsTuple l its.toArray) (hi : PyProof.Rows.IntsAre its ns) (hne : 0 < ns.length)
    (h : ∀ h' tk M t', (∀ b o, s.heap.get? b = some o → h'.get? b = some o) → M ∈ ns → (∀ a, a ∈ ns → M ≤ a) → Q (.int M t') { s with heap := h', toks := tk }) : wpAny (model prog w) A (call (.builtin "min") [.ref l]) Q E s := by
  obtain ⟨xs, e⟩ := hi.allInts.items
  have hn : numsOf (intItems xs).toList = ns := by rw [← e]; exact hi.numsOf
  rw [nums_intItems] at hn
  subst hn
  rw [e] at hl
  have hsz : 0 < xs.size := by simpa using hne
  refine call_min_walk (iter_tup hl fun s₂ e2 st hfp ne => ?_)
  subst e2
  refine ⟨_, _, _, _, _, _, _, rfl, Walks.tuple (A := A.in1) hh _ l ne (intItems xs), st, hfp, by simpa [intItems] using hsz, CmpOf.ints_lt (numAt xs) (fun _ _ => intItems_at), fun v h' tk hP hk => ?_⟩
  have hv : (intItems xs)[argBest (fun i j => decide (numAt xs i < numAt xs j)) (xs.size - 1)]? = some v := by simpa [intItems] using hP
  obtain ⟨t, rfl⟩ := intItems_at hv
  obtain ⟨h1, h2⟩ := argBest_lt (numAt xs) (xs.size - 1)
  refine h h' tk _ t (kept_tup hk) ?_ fun a ha => ?_
  · rw [numAt_eq]
    exact PySem.getD_mem (by rw [List.length_map, Array.length_toList]; omega)
  · obtain ⟨j, hj, rfl⟩ := mem_getD ha
    rw [List.length_map, Array.length_toList] at hj
    rw [← numAt_eq]
    exact h2 j (by omega)
end
section
variable {τ : Type} [Tp τ] {X : Cx} {c : Cz}
def rSumT (K : PySem.W.Frag) : List V → Hp → VK → Prop := fun vs H Q => ∃ (a : Addr) (ns : List Int), vs = [V.ref a] ∧ SqT K H a (ns.map V.int) ∧ Q (.int ns.sum) H
def rMinT (K : PySem.W.Frag) : List V → Hp → VK → Prop := fun vs H Q => ∃ (a : Addr) (ns : List Int), vs = [V.ref a] ∧ SqT K H a (ns.map V.int) ∧ 0 < ns.length ∧ ∀ m, m ∈ ns → (∀ y, y ∈ ns → m ≤ y) → Q (.int m) H
theorem cr_sumT (hc : X.calm = true) : CallR X (.builtin "sum") (rSumT X.K) := by
  intro pins s σ H xs us Q I r h
  obtain ⟨a, ns, e, hs, q⟩ := h
  subst e
  rw [r.ref1]
  obtain ⟨its, rv, tu, _⟩ := I.tuple hs
  exact tup_sum (I.ok.hd hc) tu rv.ints fun h' tk t' hk => ⟨.int ns.sum, H, I.kept hk, ⟨t', rfl⟩, q⟩
theorem cr_minT (hc : X.calm = true) : CallR X (.builtin "min") (rMinT X.K) := by
  intro pins s σ H xs us Q I r h
  obtain ⟨a, ns, e, hs, hn, q⟩ := h
  subst e
  rw [r.ref1]
  obtain ⟨its, rv, tu, _⟩ := I.tuple hs
  exact tup_min (I.ok.hd hc) tu rv.ints hn fun h' tk M t' hk h1 h2 => ⟨.int M, H, I.kept hk, ⟨t', rfl⟩, q M h1 h2⟩
def rSumX (K : PySem.W.Frag) : List V → Hp → VK → Prop := fun vs H Q => rSum K vs H Q ∨ rSumT K vs H Q
def rMinX (K : PySem.W.Frag) : List V → Hp → VK → Prop := fun vs H Q => rMin K vs H Q ∨ rMinT K vs H Q
theorem cr_sumX (hc : X.calm = true) : CallR X (.builtin "sum") (rSumX X.K) := (cr_sum hc).or (cr_sumT hc)
theorem cr_minX (hc : X.calm = true) : CallR X (.builtin "min") (rMinX X.K) := (cr_min hc).or (cr_minT hc)
def sSumX : List GD → Option GD
  | [(_, .lst ds)] => (intsD ds).map fun ns => (.own, .int ns.sum)
  | [(_, .tup ds)] => (intsD ds).map fun ns => (.own, .int ns.sum)
  | _ => none
def sMinX : List GD → Option GD
  | [(_, .lst ds)] => (intsD ds).bind fun ns => if ns.isEmpty then none else some (.own, .int (minI ns))
  | [(_, .tup ds)] => (intsD ds).bind fun ns => if ns.isEmpty then none else some (.own, .int (minI ns))
  | _ => none
theorem opc_sumX : OpC c τ (rSumX c.K) sSumX := by
  intro H0 res t e fp σ H xs vs q z Q G V1 ev k
  unfold sSumX at ev
  split at ev
  · exact .inl (opc_sum H0 res t e fp σ H _ vs q z Q G V1 ev k)
  · have G' := G.less (res' := res) fun a m => List.mem_append_right _ m
    rw [Option.map_eq_some_iff] at ev
    obtain ⟨ns, h1, h2⟩ := ev
    cases h2
    obtain ⟨v, ev, a⟩ := V1.one
    obtain ⟨p, us, hv, ht, _, hr⟩ := a.rp
    subst hv
    have e := intsD_rp h1 hr
    subst e
    exact .inr ⟨p, ns, ev, ht.sq, k H _ [] SameT.rf G' isc⟩
  · cases ev
theorem opc_minX : OpC c τ (rMinX c.K) sMinX := by
  intro H0 res t e fp σ H xs vs q z Q G V1 ev k
  unfold sMinX at ev
  split at ev
  · exact .inl (opc_minL H0 res t e fp σ H _ vs q z Q G V1 ev k)
  · have G' := G.less (res' := res) fun a m => List.mem_append_right _ m
    rw [Option.bind_eq_some_iff] at ev
    obtain ⟨ns, h1, h2⟩ := ev
    split at h2
    · cases h2
    · rename_i hn
      cases h2
      obtain ⟨v, ev, a⟩ := V1.one
      obtain ⟨p, us, hv, ht, _, hr⟩ := a.rp
      subst hv
      have e := intsD_rp h1 hr
      subst e
      have hn' : ns ≠ [] := fun z => hn (by rw [z]; rfl)
      refine .inr ⟨p, ns, ev, ht.sq, List.length_pos_iff.mpr hn', fun m h3 h4 => ?_⟩
      have : m = minI ns := Int.le_antisymm (h4 _ (minI_ok hn').1) ((minI_ok hn').2 m h3)
      rw [this]
      exact k H _ [] SameT.rf G' isc
  · cases ev
def sPow := sI (fun i j => decide (0 ≤ j ∧ j ≤ 1000000 ∧ i.natAbs < 2 ^ 64)) fun i j => .int (i ^ j.toNat)
def sFdivW := sI (fun _ j => decide (0 < j ∧ j.natAbs.log2 < 9000)) fun i j => .int (i / j)
theorem d_fdivW {a b : Expr} {pos : Pos} {f g : Ex τ} (ha : PE X a (rd c f)) (hb : PE X b (rd c g)) : PE X (.BinOp a .FloorDiv b pos) (rd c (x2 sFdivW f g)) := d_op (op2_I (C' := CDivW) (g := fun i j => .int (i / j)) (fun i j h => show CDivW i j from of_decide_eq_true (p := 0 < j ∧ j.natAbs.log2 < 9000) h) fun _ _ => rfl) op_fdivW ha hb
end
end Fw
set_option Elab.async false
set_option linter.all false
set_option maxRecDepth 100000
namespace Fw
open PySem L2 PySem.Spec PyProof.Rows
section
variable {prog : Program} {w : World} {A : Around} {E : Value → Shared → Prop} {s : Shared} {l : Addr} {us : List Value}
/-- a tuple's values in a list, for sorted -/
theorem gather_tup {Q : List Value → Shared → Prop} (tu : s.heap.IsTuple l us.toArray) (sz : us.length ≤ sizeLine)
    (k : Q us { s with heap := (s.heap.push (seqObj "list" #[] 0)).update s.heap.objs.size (Obj.mapSeq (· ++ us.toArray)) }) : wpAny (model prog w) A (collect (.ref l)) Q E s := by
  obtain ⟨o, g1, g2, m, g3⟩ := id tu
  unfold collect
  refine wpAny_bind (wpAny_runValue (codeAny_builtin entry_proto_collect' (show wpAny _ _ (do again (.builtin "list.__iadd__" ⟨[← newList [], .ref l], []⟩)) _ _ s from ?_)))
  refine wpAny_bind (wpAny_newList (wpAny_pure ⟨Code.quiet_builtin _ (by decide +kernel), codeAny_builtin entry_list_iadd' (show wpAny _ _ (Builtin.List.listExtendWith (.ref s.heap.objs.size) (.ref l) (.ref s.heap.objs.size)) _ _ { s with heap := s.heap.push (seqObj "list" #[] 0) } from ?_)⟩))
  unfold Builtin.List.listExtendWith
  have g4 : (s.heap.push (seqObj "list" #[] 0)).get? l = some o := Heap.get?_push_of_some _ g1
  refine wpAny_bind (wpAny_typeOf (T := "tuple") ⟨o, g4, g2⟩ ?_)
  have tt : (Value.type "tuple" == Value.type "tuple") = true := by rfl
  rw [if_pos (by rw [tt]; simp)]
  refine wpAny_bind (listItems_at g4 g3 (wpAny_bind (listItems_at (xs := #[]) (n := 0) (Heap.get?_push_size _ rfl) rfl ?_)))
  rw [if_neg (by simp)]
  refine wpAny_bind (listUpdate_at (xs := #[]) (n := 0) (Heap.get?_push_size _ rfl) rfl (wpAny_pure ?_) (Nat.zero_le _) (by show (#[] ++ us.toArray).size ≤ sizeLine + 1; simp only [Array.size_append, List.size_toArray, List.length_nil]; omega))
  show wpAny (model prog w) A (do
      let o ← load s.heap.objs.size; match o.data with | .seq xs _ => pure xs.toList | _ => unsupported "internal:collect") Q E { s with heap := (s.heap.push (seqObj "list" #[] 0)).update s.heap.objs.size (Obj.mapSeq (· ++ us.toArray)) }
  refine wpAny_bind (wpAny_load (get?_update_seq (Heap.get?_push_size _ rfl) _) (show wpAny _ _ (pure ((#[] : Array Value) ++ us.toArray).toList) Q E _ from ?_))
  rw [show ((#[] : Array Value) ++ us.toArray).toList = us by simp]
  exact wpAny_pure k
open SrtO in
theorem tup_sorted {ltv : Value → Value → Bool} {Q : Value → Shared → Prop} (O : Swo ltv) (tu : s.heap.IsTuple l us.toArray) (sz : us.length ≤ sizeLine)
    (hS : 2 ≤ us.length → ∀ (h₁ : Heap) (a : Addr), h₁.get? a = some (seqObj "list" us.toArray 0) → (∀ b o, s.heap.get? b = some o → b ≠ a ∧ h₁.get? b = some o) → SortableO prog w A.in1.in1 { s with heap := h₁ } a us ltv)
    (k : ∀ out : List Value, Srtd ltv out → Stb ltv out us → Q (.ref (s.heap.objs.size + 1)) { s with heap := sortedAll s.heap us out.toArray }) : wpAny (model prog w) A (call (.builtin "sorted") [.ref l]) Q E s := by
  refine Calls.call_function_entry kind_sorted plain_sorted entry_sorted (args_sorted1 _) (?_ : wpAny _ _ (Builtin.«sorted» _) _ _ _)
  unfold Builtin.«sorted»
  refine wpAny_bind (m := checkCount "sorted" 1 1 _) (wpAny_pure (wpAny_bind (gather_tup tu sz (wpAny_bind (wpAny_newList ?_ sz)))))
  have n1 : ((s.heap.push (seqObj "list" #[] 0)).update s.heap.objs.size (Obj.mapSeq (· ++ us.toArray))).objs.size = s.heap.objs.size + 1 := by rw [Heap.size_update, size_push']
  have at1 : (((s.heap.push (seqObj "list" #[] 0)).update s.heap.objs.size (Obj.mapSeq (· ++ us.toArray))).push (seqObj "list" us.toArray 0)).get? (s.heap.objs.size + 1) = some (seqObj "list" us.toArray 0) := by rw [← n1]; exact Heap.get?_push_size _ rfl
  have old : ∀ b o, s.heap.get? b = some o → b ≠ s.heap.objs.size + 1 ∧ (((s.heap.push (seqObj "list" #[] 0)).update s.heap.objs.size (Obj.mapSeq (· ++ us.toArray))).push (seqObj "list" us.toArray 0)).get? b = some o := fun b o q => by
    have lt := Heap.lt_size q
    exact ⟨Nat.ne_of_lt (Nat.lt_succ_of_lt lt), Heap.get?_push_of_some _ (by rw [Heap.get?_update_ne _ _ _ _ (Nat.ne_of_lt lt)]; exact Heap.get?_push_of_some _ q)⟩
  show wpAny _ _ _ _ _ { s with heap := ((s.heap.push (seqObj "list" #[] 0)).update s.heap.objs.size (Obj.mapSeq (· ++ us.toArray))).push (seqObj "list" us.toArray 0) }
  rw [n1]
  exact wpAny_bind (wpAny_holding (wpAny_call_entry slot_list_sort ⟨_, at1, rfl⟩ entry_list_sort (list_sort_ord O at1 sz (fun h2 => hS h2 _ _ at1 old) fun out h1 h2 => ⟨_, rfl, wpAny_pure ⟨_, rfl, k out h1 h2⟩⟩) (args_list_sort _)))
end
section
variable {X : Cx} {c : Cz} {τ : Type} [Tp τ]
def rSortedTI (K : PySem.W.Frag) : List V → Hp → VK → Prop := fun vs H Q => ∃ (a : Addr) (ns : List Int), vs = [V.ref a] ∧ SqT K H a (ns.map V.int) ∧ (ns.map V.int).length ≤ sizeLine ∧
  ∀ (ns' : List Int) (p : Addr), ns'.Perm ns → ns'.Pairwise (· ≤ ·) → H p = none → Q (.ref p) (upd H p (.lst (ns'.map V.int)))
theorem cr_sortedTI : CallR X (.builtin "sorted") (rSortedTI X.K) := by
  intro pins s σ H vs us Q I r h
  obtain ⟨a, ns, rfl, hs, hz, q⟩ := h
  obtain ⟨its, rv, tu, _⟩ := I.tuple hs
  rw [Vals.ref1 r]
  have hi := rv.ints
  refine tup_sorted SrtO.swo_int tu (by rw [← rv.length]; exact hz) (fun h2 _ _ _ _ => SrtO.ints_sortable hi h2) fun out h1 h2 => ?_
  obtain ⟨k1, k2, k3⟩ := SrtO.ints_out hi h1 h2
  obtain ⟨ep, hep⟩ := PyProof.Rows.sortedAll_at s.heap its out.toArray
  have len : ((out.map SrtO.iv).map V.int).length ≤ sizeLine := by
    rw [List.length_map, k2.length_eq]
    rw [List.length_map] at hz
    exact hz
  refine ⟨.ref _, upd H (s.heap.objs.size + 1) (.lst ((out.map SrtO.iv).map V.int)), ?_, rfl, q _ _ k2 k3 (I.hok.fresh (Nat.le_succ _))⟩
  exact I.laid (t' := s.toks) (fun _ _ => PyProof.Rows.sortedAll_old) (Nat.le_succ _) ⟨len, out, ep, vals_of_ints k1, hep⟩
def rSrtX (K : PySem.W.Frag) : List V → Hp → VK → Prop := fun xs H Q => rSrt K xs H Q ∨ rSortedTI K xs H Q
def sSortX : List GD → Option GD
  | [(_, .tup ds)] => (intsD ds).map fun ns => (.own, .lst ((srtI ns).map D.int))
  | xs => sSortP xs
theorem cr_srtX {X : Cx} : CallR X (.builtin "sorted") (rSrtX X.K) := cr_srt.or cr_sortedTI
theorem opc_sortX : OpC c τ (rSrtX c.K) sSortX := by
  intro H0 res t e fp σ H xs vs q z Q G V1 ev k
  have G' := G.less (res' := res) fun a m => List.mem_append_right _ m
  unfold sSortX at ev
  split at ev
  · rw [Option.map_eq_some_iff] at ev
    obtain ⟨ns, h1, h2⟩ := ev
    cases h2
    obtain ⟨v, ev, a⟩ := V1.one
    obtain ⟨p, us, hv, ht, hl, hr⟩ := a.rp
    subst hv
    have e := intsD_rp h1 hr
    subst e
    refine .inr ⟨p, ns, ev, ht.sq, hl, fun ns' l hp hs hn => ?_⟩
    have : ns' = srtI ns := sorted_one (hp.trans (srtI_perm ns).symm) hs (srtI_sorted ns)
    subst this
    obtain ⟨g1, g2⟩ := new_lst (q := []) (res := res) (ds := (srtI ns).map D.int) (xs := (srtI ns).map V.int) (by exact G') hn (by rw [List.length_map, hp.length_eq]; rw [List.length_map] at hl; exact hl) ints_own List.nodup_nil fun a m => nomatch m
    exact k _ _ [l] (SameT.nu hn) g1 g2
  · exact .inl (opc_sortP H0 res t e fp σ H _ vs q z Q G V1 ev k)
end
end Fw
set_option Elab.async false
set_option linter.all false
set_option maxRecDepth 100000
namespace Fw
open PySem L2
def wp {α : Type} (o : Option α) (Q : α → Prop) : Prop := ∃ a, o = some a ∧ Q a
section
variable {α β : Type} {Q : α → Prop}
theorem w_eq {o : Option α} {a : α} (h : o = some a) (k : Q a) : wp o Q := ⟨a, h, k⟩
theorem w_of {o : Option α} {a : α} (h : wp o (fun r => r = a)) : o = some a := by
  obtain ⟨b, h, rfl⟩ := h; exact h
theorem wp.mono {o : Option α} {Q' : α → Prop} (h : wp o Q) (k : ∀ a, Q a → Q' a) : wp o Q' := by
  obtain ⟨b, h, z⟩ := h; exact ⟨b, h, k b z⟩
theorem wp_bind {o : Option α} {f : α → Option β} {Q : β → Prop} (h : wp o fun a => wp (f a) Q) : wp (o.bind f) Q := by
  obtain ⟨a, h1, b, h2, k⟩ := h
  exact ⟨b, by rw [h1]; exact h2, k⟩
theorem wp_map {o : Option α} {f : α → β} {Q : β → Prop} (h : wp o fun a => Q (f a)) : wp (o.map f) Q := by
  obtain ⟨a, h1, k⟩ := h
  exact ⟨f a, by rw [h1]; rfl, k⟩
theorem wp_some {a : α} (h : Q a) : wp (some a) Q := ⟨a, rfl, h⟩
end
section
variable {τ : Type} {t t1 : τ} {e e1 : Slots} {x y z : GD} {i : Nat} {d : D} {b : Bool} {g : Gr}
abbrev RX (τ : Type) := τ × Slots × GD → Prop
abbrev RT (τ : Type) := τ × Slots × Bool → Prop
abbrev RS (τ : Type) := τ × Slots × Fl → Prop
abbrev RA (τ : Type) := τ × Slots × List GD → Prop
theorem w_xC {Q : RX τ} (k : Q (t, e, .own, d)) : wp (xC d t e) Q := ⟨_, rfl, k⟩
theorem w_xV {Q : RX τ} (h : e[i]? = some (some (b, d))) (m : imm d = true) (k : Q (t, e, .own, d)) : wp (xV i t e) Q := ⟨_, by unfold xV; rw [h]; exact if_pos m, k⟩
theorem w_xVl {Q : RX τ} (h : e[i]? = some (some (false, d))) (m : imm d = false) (k : Q (t, e, .frz, d)) : wp (xV i t e) Q := ⟨_, by unfold xV; rw [h]; simp [m], k⟩
theorem w_xP {Q : RX τ} (h : e[i]? = some (some (b, d))) (m : imm d = true) (k : Q (t, e, .own, d)) : wp (xP i t e) Q := ⟨_, by unfold xP; rw [h]; simp only [m, if_true], k⟩
theorem w_xPl {Q : RX τ} (h : e[i]? = some (some (true, d))) (m : imm d = false) (k : Q (t, e, .pk, d)) : wp (xP i t e) Q := ⟨_, by unfold xP; rw [h]; simp [m], k⟩
theorem w_xPf {Q : RX τ} (h : e[i]? = some (some (false, d))) (m : imm d = false) (k : Q (t, e, .frz, d)) : wp (xP i t e) Q := ⟨_, by unfold xP; rw [h]; simp [m], k⟩
theorem w_xM {Q : RX τ} (h : e[i]? = some (some (true, d))) (k : Q (t, e.set i none, .own, d)) : wp (xM i t e) Q := ⟨_, by unfold xM; rw [h], k⟩
theorem w_xMi {Q : RX τ} (h : e[i]? = some (some (false, d))) (m : imm d = true) (k : Q (t, e, .own, d)) : wp (xM i t e) Q := ⟨_, by unfold xM; rw [h]; simp only [m, if_true], k⟩
theorem w_xMf {Q : RX τ} (h : e[i]? = some (some (false, d))) (m : imm d = false) (k : Q (t, e, .frz, d)) : wp (xM i t e) Q := ⟨_, by unfold xM; rw [h]; simp [m], k⟩
theorem w_xF {Q : RX τ} (h : e[i]? = some (some (b, d))) (m : imm d = true) (k : Q (t, e, .own, d)) : wp (xF i t e) Q := ⟨_, by unfold xF; rw [h]; exact if_pos m, k⟩
theorem w_xFl {Q : RX τ} (h : e[i]? = some (some (b, d))) (m : imm d = false) (k : Q (t, e.set i (some (false, d)), .frz, d)) : wp (xF i t e) Q := ⟨_, by unfold xF; rw [h]; simp [m], k⟩
def K2b {τ : Type} (s : GD → GD → Option GD) (x : GD) (Q : RX τ) : RX τ := fun (t, e, y) => wp (s x y) fun z => Q (t, e, z)
def K2a {τ : Type} (s : GD → GD → Option GD) (g : Ex τ) (Q : RX τ) : RX τ := fun (t, e, x) => wp (g t e) (K2b s x Q)
theorem w_x2 {Q : RX τ} {s : GD → GD → Option GD} {f g : Ex τ} (h : wp (f t e) (K2a s g Q)) : wp (x2 s f g t e) Q := wp_bind (h.mono fun _ h => wp_bind (h.mono fun _ h => wp_map h))
theorem k_2a {Q : RX τ} {s : GD → GD → Option GD} {g : Ex τ} (h : wp (g t e) (K2b s x Q)) : K2a s g Q (t, e, x) := h
theorem k_2b {Q : RX τ} {s : GD → GD → Option GD} (h : s x y = some z) (k : Q (t, e, z)) : K2b s x Q (t, e, y) := ⟨z, h, k⟩
def K1 {τ : Type} (s : GD → Option GD) (Q : RX τ) : RX τ := fun (t, e, y) => wp (s y) fun z => Q (t, e, z)
theorem w_x1 {Q : RX τ} {s : GD → Option GD} {f : Ex τ} (h : wp (f t e) (K1 s Q)) : wp (x1 s f t e) Q := wp_bind (h.mono fun _ h => wp_map h)
theorem k_1 {Q : RX τ} {s : GD → Option GD} (h : s y = some z) (k : Q (t, e, z)) : K1 s Q (t, e, y) := ⟨z, h, k⟩
theorem w_isi {Q : RX τ} {T : String} {f : Ex τ} (h : wp (f t e) (K1 (fun x => (isi T x.2).map fun b => (.own, .bl b)) Q)) : wp (xIsi T f t e) Q := w_x1 h
theorem k_isi {Q : RX τ} {T : String} (h : isi T y.2 = some b) (k : Q (t, e, .own, .bl b)) : K1 (fun x => (isi T x.2).map fun b => ((.own, .bl b) : GD)) Q (t, e, y) := ⟨_, by dsimp only; rw [h]; rfl, k⟩
def Kx {τ : Type} (x : GD) (Q : RA τ) : RA τ := fun (t, e, xs) => Q (t, e, x :: xs)
def Kc {τ : Type} (fs : List (Ex τ)) (Q : RA τ) : RX τ := fun (t, e, x) => wp (evA fs t e) (Kx x Q)
theorem w_nil {Q : RA τ} (k : Q (t, e, [])) : wp (evA [] t e) Q := ⟨_, rfl, k⟩
theorem w_cons {Q : RA τ} {f : Ex τ} {fs : List (Ex τ)} (h : wp (f t e) (Kc fs Q)) : wp (evA (f :: fs) t e) Q := wp_bind (h.mono fun _ h => wp_map (h.mono fun _ h => h))
theorem k_c {Q : RA τ} {fs : List (Ex τ)} (h : wp (evA fs t e) (Kx x Q)) : Kc fs Q (t, e, x) := h
theorem k_x {Q : RA τ} {xs : List GD} (h : Q (t, e, x :: xs)) : Kx x Q (t, e, xs) := h
def Ktup {τ : Type} (Q : RX τ) : RA τ := fun (t, e, xs) => Q (t, e, jn xs, .tup (xs.map (·.2)))
def Klst {τ : Type} (Q : RX τ) : RA τ := fun (t, e, xs) => Q (t, e, jn xs, .lst (xs.map (·.2)))
theorem w_tup {Q : RX τ} {fs : List (Ex τ)} (h : wp (evA fs t e) (Ktup Q)) : wp (xTup fs t e) Q := wp_map (h.mono fun _ h => h)
theorem w_lst {Q : RX τ} {fs : List (Ex τ)} (h : wp (evA fs t e) (Klst Q)) : wp (xLst fs t e) Q := wp_map (h.mono fun _ h => h)
theorem k_tup {Q : RX τ} {xs : List GD} {d : D} (hj : jn xs = g) (hd : D.tup (xs.map (·.2)) = d) (h : Q (t, e, g, d)) : Ktup Q (t, e, xs) := by subst hj hd; exact h
theorem k_lst {Q : RX τ} {xs : List GD} {d : D} (hj : jn xs = g) (hd : D.lst (xs.map (·.2)) = d) (h : Q (t, e, g, d)) : Klst Q (t, e, xs) := by subst hj hd; exact h
def Kcr {τ : Type} (e : Slots) (Q : RX τ) : τ × Bool × D → Prop := fun (t, b, d) => Q (t, e, if b then (.own, d) else up .pk d)
def Kcall {τ : Type} (φ : Fn τ) (Q : RX τ) : RA τ := fun (t, e, xs) => wp (φ t (xs.map (·.2))) (Kcr e Q)
theorem w_call {Q : RX τ} {φ : Fn τ} {fs : List (Ex τ)} (h : wp (evA fs t e) (Kcall φ Q)) : wp (xCall φ fs t e) Q := wp_bind (h.mono fun _ h => wp_map (h.mono fun _ h => h))
theorem k_call {Q : RX τ} {φ : Fn τ} {xs : List GD} {ds : List D} (hd : xs.map (·.2) = ds) (h : wp (φ t ds) (Kcr e Q)) : Kcall φ Q (t, e, xs) := by subst hd; exact h
theorem k_cr {Q : RX τ} (h : Q (t, e, .own, d)) : Kcr e Q (t, true, d) := h
def Kbt {τ : Type} (s : List GD → Option GD) (Q : RX τ) : RA τ := fun (t, e, xs) => wp (s xs) fun z => Q (t, e, z)
theorem w_bt {Q : RX τ} {s : List GD → Option GD} {fs : List (Ex τ)} (h : wp (evA fs t e) (Kbt s Q)) : wp (xBt s fs t e) Q := wp_bind (h.mono fun _ h => wp_map h)
theorem k_bt {Q : RX τ} {s : List GD → Option GD} {xs : List GD} (h : s xs = some z) (k : Q (t, e, z)) : Kbt s Q (t, e, xs) := ⟨z, h, k⟩
def KT {τ : Type} (Q : RT τ) : RX τ := fun (t, e, x) => wp (tru x.2) fun b => Q (t, e, b)
theorem w_xT {Q : RT τ} {f : Ex τ} (h : wp (f t e) (KT Q)) : wp (xT f t e) Q := wp_bind (h.mono fun _ h => wp_map h)
theorem k_T {Q : RT τ} (h : tru x.2 = some b) (k : Q (t, e, b)) : KT Q (t, e, x) := ⟨b, h, k⟩
def KB {τ : Type} (Q : RT τ) : RX τ := fun (t, e, x) => ∃ b, x.2 = .bl b ∧ Q (t, e, b)
theorem w_xB {Q : RT τ} {f : Ex τ} (h : wp (f t e) (KB Q)) : wp (xB f t e) Q := wp_bind (h.mono fun (t, e, x) h => by
  obtain ⟨b, e1, h⟩ := h
  dsimp only
  rw [e1]; exact ⟨_, rfl, h⟩)
theorem k_B {Q : RT τ} (k : Q (t, e, b)) : KB Q (t, e, g, .bl b) := ⟨b, rfl, k⟩
theorem w_yes {Q : RT τ} (k : Q (t, e, true)) : wp (xYes t e) Q := ⟨_, rfl, k⟩
def Knot {τ : Type} (Q : RT τ) : RT τ := fun (t, e, b) => Q (t, e, !b)
theorem w_notT {Q : RT τ} {f : Tx τ} (h : wp (f t e) (Knot Q)) : wp (xNotT f t e) Q := wp_map (h.mono fun _ h => h)
theorem k_not {Q : RT τ} {b' : Bool} (h : (!b) = b') (k : Q (t, e, b')) : Knot Q (t, e, b) := by subst h; exact k
def KandT {τ : Type} (g : Tx τ) (Q : RT τ) : RT τ := fun (t, e, b) => wp (if b then g t e else some (t, e, false)) Q
def KorT {τ : Type} (g : Tx τ) (Q : RT τ) : RT τ := fun (t, e, b) => wp (if b then some (t, e, true) else g t e) Q
theorem w_andT {Q : RT τ} {f g : Tx τ} (h : wp (f t e) (KandT g Q)) : wp (xAndT f g t e) Q := wp_bind h
theorem w_orT {Q : RT τ} {f g : Tx τ} (h : wp (f t e) (KorT g Q)) : wp (xOrT f g t e) Q := wp_bind h
theorem k_andT_t {Q : RT τ} {g : Tx τ} (h : b = true) (k : wp (g t e) Q) : KandT g Q (t, e, b) := by subst h; exact k
theorem k_andT_f {Q : RT τ} {g : Tx τ} (h : b = false) (k : Q (t, e, false)) : KandT g Q (t, e, b) := by subst h; exact ⟨_, rfl, k⟩
theorem k_orT_f {Q : RT τ} {g : Tx τ} (h : b = false) (k : wp (g t e) Q) : KorT g Q (t, e, b) := by subst h; exact k
theorem k_orT_t {Q : RT τ} {g : Tx τ} (h : b = true) (k : Q (t, e, true)) : KorT g Q (t, e, b) := by subst h; exact ⟨_, rfl, k⟩
def KandX {τ : Type} (g : Ex τ) (Q : RX τ) : RX τ := fun (t, e, x) => ∃ b, x.2 = .bl b ∧ wp (if b then g t e else some (t, e, .own, .bl false)) Q
def KorX {τ : Type} (g : Ex τ) (Q : RX τ) : RX τ := fun (t, e, x) => ∃ b, x.2 = .bl b ∧ wp (if b then some (t, e, .own, .bl true) else g t e) Q
theorem w_andX {Q : RX τ} {f g : Ex τ} (h : wp (f t e) (KandX g Q)) : wp (xAnd f g t e) Q := wp_bind (h.mono fun (t, e, x) h => by
  obtain ⟨b, e1, h⟩ := h
  dsimp only
  rw [e1]; cases b <;> exact h)
theorem w_orX {Q : RX τ} {f g : Ex τ} (h : wp (f t e) (KorX g Q)) : wp (xOr f g t e) Q := wp_bind (h.mono fun (t, e, x) h => by
  obtain ⟨b, e1, h⟩ := h
  dsimp only
  rw [e1]; cases b <;> exact h)
theorem k_and_t {Q : RX τ} {h : Ex τ} (hb : b = true) (k : wp (h t e) Q) : KandX h Q (t, e, g, .bl b) := by subst hb; exact ⟨_, rfl, k⟩
theorem k_and_f {Q : RX τ} {h : Ex τ} (hb : b = false) (k : Q (t, e, .own, .bl false)) : KandX h Q (t, e, g, .bl b) := by subst hb; exact ⟨_, rfl, _, rfl, k⟩
theorem k_or_f {Q : RX τ} {h : Ex τ} (hb : b = false) (k : wp (h t e) Q) : KorX h Q (t, e, g, .bl b) := by subst hb; exact ⟨_, rfl, k⟩
theorem k_or_t {Q : RX τ} {h : Ex τ} (hb : b = true) (k : Q (t, e, .own, .bl true)) : KorX h Q (t, e, g, .bl b) := by subst hb; exact ⟨_, rfl, _, rfl, k⟩
def KnotX {τ : Type} (Q : RX τ) : RX τ := fun (t, e, x) => ∃ b, x.2 = .bl b ∧ Q (t, e, .own, .bl (!b))
theorem w_notX {Q : RX τ} {f : Ex τ} (h : wp (f t e) (KnotX Q)) : wp (xNot f t e) Q := wp_bind (h.mono fun (t, e, x) h => by
  obtain ⟨b, e1, h⟩ := h
  dsimp only
  rw [e1]; exact ⟨_, rfl, h⟩)
theorem k_notX {Q : RX τ} (k : Q (t, e, .own, .bl (!b))) : KnotX Q (t, e, g, .bl b) := ⟨_, rfl, k⟩
def KifX {τ : Type} (f g : Ex τ) (Q : RX τ) : RT τ := fun (t, e, b) => wp (if b then f t e else g t e) Q
theorem w_ifX {Q : RX τ} {p : Tx τ} {f g : Ex τ} (h : wp (p t e) (KifX f g Q)) : wp (xIf p f g t e) Q := wp_bind h
theorem k_ifX_t {Q : RX τ} {f g : Ex τ} (h : b = true) (k : wp (f t e) Q) : KifX f g Q (t, e, b) := by subst h; exact k
theorem k_ifX_f {Q : RX τ} {f g : Ex τ} (h : b = false) (k : wp (g t e) Q) : KifX f g Q (t, e, b) := by subst h; exact k
theorem k_ifX {Q : RX τ} {f g : Ex τ} (k1 : b = true → wp (f t e) Q) (k2 : b = false → wp (g t e) Q) : KifX f g Q (t, e, b) := by
  cases b with
  | true => exact k1 rfl
  | false => exact k2 rfl
def Kch3 {τ : Type} (j : Int) (p : Int → Int → Bool) (Q : RX τ) : RX τ := fun (t, e, z) => ∃ k, z.2 = .int k ∧ Q (t, e, .own, .bl (p j k))
def Kch2 {τ : Type} (i : Int) (p1 p2 : Int → Int → Bool) (h : Ex τ) (Q : RX τ) : RX τ := fun (t, e, y) => ∃ j, y.2 = .int j ∧ if p1 i j = true then wp (h t e) (Kch3 j p2 Q) else Q (t, e, .own, .bl false)
def Kch1 {τ : Type} (p1 p2 : Int → Int → Bool) (g h : Ex τ) (Q : RX τ) : RX τ := fun (t, e, x) => ∃ i, x.2 = .int i ∧ wp (g t e) (Kch2 i p1 p2 h Q)
theorem w_ch {Q : RX τ} {p1 p2 : Int → Int → Bool} {f g h : Ex τ} (H : wp (f t e) (Kch1 p1 p2 g h Q)) : wp (xCh p1 p2 f g h t e) Q := wp_bind (H.mono fun (t, e, x) H => by
  obtain ⟨i, e1, H⟩ := H
  refine wp_bind (H.mono fun (t, e, y) H => ?_)
  obtain ⟨j, e2, H⟩ := H
  dsimp only at e1 e2 ⊢
  rw [e1, e2]
  dsimp only
  split at H
  · rename_i z
    rw [if_pos z]
    refine wp_bind (H.mono fun (t, e, y) H => ?_)
    obtain ⟨k, e3, H⟩ := H
    dsimp only at e3 ⊢
    rw [e3]
    exact ⟨_, rfl, H⟩
  · rename_i z
    rw [if_neg z]
    exact ⟨_, rfl, H⟩)
theorem k_ch1 {Q : RX τ} {p1 p2 : Int → Int → Bool} {h f : Ex τ} {i : Int} (k : wp (f t e) (Kch2 i p1 p2 h Q)) : Kch1 p1 p2 f h Q (t, e, g, .int i) := ⟨_, rfl, k⟩
theorem k_ch2_t {Q : RX τ} {p1 p2 : Int → Int → Bool} {h : Ex τ} {i j : Int} (hb : p1 i j = true) (k : wp (h t e) (Kch3 j p2 Q)) : Kch2 i p1 p2 h Q (t, e, g, .int j) := ⟨_, rfl, by rw [if_pos hb]; exact k⟩
theorem k_ch2_f {Q : RX τ} {p1 p2 : Int → Int → Bool} {h : Ex τ} {i j : Int} (hb : p1 i j = false) (k : Q (t, e, .own, .bl false)) : Kch2 i p1 p2 h Q (t, e, g, .int j) := ⟨_, rfl, by rw [if_neg (by rw [hb]; exact Bool.false_ne_true)]; exact k⟩
theorem k_ch3 {Q : RX τ} {p : Int → Int → Bool} {j k : Int} (z : Q (t, e, .own, .bl (p j k))) : Kch3 j p Q (t, e, g, .int k) := ⟨_, rfl, z⟩
def Kq {τ : Type} (g : Sx τ) (Q : RS τ) : RS τ := fun (t, e, fl) => match fl with | .nx => wp (g t e) Q | r => Q (t, e, r)
theorem w_seq {Q : RS τ} {f g : Sx τ} (h : wp (f t e) (Kq g Q)) : wp (sSeq f g t e) Q := wp_bind (h.mono fun (t, e, fl) h => by
  cases fl with
  | nx => exact h
  | _ => exact ⟨_, rfl, h⟩)
theorem k_qn {Q : RS τ} {g : Sx τ} (h : wp (g t e) Q) : Kq g Q (t, e, .nx) := h
theorem k_qr {Q : RS τ} {g : Sx τ} (h : Q (t, e, .rt b d)) : Kq g Q (t, e, .rt b d) := h
theorem k_qc {Q : RS τ} {g : Sx τ} (h : Q (t, e, .ct)) : Kq g Q (t, e, .ct) := h
theorem k_qb {Q : RS τ} {g : Sx τ} (h : Q (t, e, .bk)) : Kq g Q (t, e, .bk) := h
theorem w_nx {Q : RS τ} (h : Q (t, e, .nx)) : wp (sNx t e) Q := ⟨_, rfl, h⟩
def Kto {τ : Type} (a : GD → Slots → Option Slots) (Q : RS τ) : RX τ := fun (t, e, x) => wp (a x e) fun e2 => Q (t, e2, .nx)
theorem w_to {Q : RS τ} {a : GD → Slots → Option Slots} {f : Ex τ} (h : wp (f t e) (Kto a Q)) : wp (sTo a f t e) Q := wp_bind (h.mono fun _ h => wp_map h)
theorem k_to {Q : RS τ} {a : GD → Slots → Option Slots} (h : a x e = some e1) (k : Q (t, e1, .nx)) : Kto a Q (t, e, x) := ⟨_, h, k⟩
def Kret {τ : Type} (Q : RS τ) : RX τ := fun (t, e, x) => Q (t, e, .rt (match x.1 with | .own => true | _ => false) x.2)
theorem w_ret {Q : RS τ} {f : Ex τ} (h : wp (f t e) (Kret Q)) : wp (sRet f t e) Q := wp_map (h.mono fun _ h => h)
theorem k_ret {Q : RS τ} (h : Q (t, e, .rt true d)) : Kret Q (t, e, .own, d) := h
theorem k_retp {Q : RS τ} (h : Q (t, e, .rt false d)) : Kret Q (t, e, .pk, d) := h
theorem k_retf {Q : RS τ} (h : Q (t, e, .rt false d)) : Kret Q (t, e, .frz, d) := h
def Kdrop {τ : Type} (Q : RS τ) : RX τ := fun (t, e, _) => Q (t, e, .nx)
theorem w_drop {Q : RS τ} {f : Ex τ} (h : wp (f t e) (Kdrop Q)) : wp (sDrop f t e) Q := wp_map (h.mono fun _ h => h)
theorem k_drop {Q : RS τ} (h : Q (t, e, .nx)) : Kdrop Q (t, e, x) := h
def Kif {τ : Type} (f g : Sx τ) (Q : RS τ) : RT τ := fun (t, e, b) => wp (if b then f t e else g t e) Q
theorem w_if {Q : RS τ} {p : Tx τ} {f g : Sx τ} (h : wp (p t e) (Kif f g Q)) : wp (sIf p f g t e) Q := wp_bind h
theorem k_if_t {Q : RS τ} {f g : Sx τ} (h : b = true) (k : wp (f t e) Q) : Kif f g Q (t, e, b) := by subst h; exact k
theorem k_if_f {Q : RS τ} {f g : Sx τ} (h : b = false) (k : wp (g t e) Q) : Kif f g Q (t, e, b) := by subst h; exact k
theorem k_if {Q : RS τ} {f g : Sx τ} (k1 : b = true → wp (f t e) Q) (k2 : b = false → wp (g t e) Q) : Kif f g Q (t, e, b) := by
  cases b with
  | true => exact k1 rfl
  | false => exact k2 rfl
def Kapp {τ : Type} (i : Nat) (Q : RS τ) : RX τ := fun (t, e, x) => ∃ ds d, ownL e i = some ds ∧ x = (.own, d) ∧ ds.length < 16777216 ∧ Q (t, e.set i (some (true, .lst (ds ++ [d]))), .nx)
theorem w_app {Q : RS τ} {f : Ex τ} {ds : List D} (h0 : ownL e i = some ds) (h : wp (f t e) (Kapp i Q)) : wp (sApp i f t e) Q := by
  unfold sApp
  rw [h0]
  dsimp only [Option.bind_some]
  refine wp_bind (h.mono fun (t, e, x) h => ?_)
  obtain ⟨ds, d, h1, h2, h3, h⟩ := h
  subst h2
  dsimp only
  rw [h1]
  refine ⟨_, if_pos ?_, h⟩
  unfold szB
  exact decide_eq_true (by omega)
theorem k_app {Q : RS τ} {ds : List D} (h1 : ownL e i = some ds) (h3 : ds.length < 16777216) (h : Q (t, e.set i (some (true, .lst (ds ++ [d]))), .nx)) : Kapp i Q (t, e, .own, d) := ⟨ds, d, h1, rfl, h3, h⟩
def Kpar {τ : Type} (is : List Nat) (Q : RS τ) : RA τ := fun (t, e, xs) => parOk xs = true ∧ wp (stA is xs e) fun e2 => Q (t, e2, .nx)
theorem w_par {Q : RS τ} {is : List Nat} {fs : List (Ex τ)} (h : wp (evA fs t e) (Kpar is Q)) : wp (sPar is fs t e) Q := wp_bind (h.mono fun _ h => by
  dsimp only
  rw [if_pos h.1]
  exact wp_map h.2)
theorem k_par {Q : RS τ} {is : List Nat} {xs : List GD} (h1 : parOk xs = true) (h2 : stA is xs e = some e1) (h : Q (t, e1, .nx)) : Kpar is Q (t, e, xs) := ⟨h1, _, h2, h⟩
def Kaug {τ : Type} (i : Nat) (p : Int → Int → Int) (k : Int) (Q : RS τ) : RX τ := fun (t, e, x) => ∃ l, x.2 = .int l ∧ i < e.length ∧ Q (t, e.set i (some (true, .int (p k l))), .nx)
theorem w_aug {Q : RS τ} {p : Int → Int → Int} {f : Ex τ} {k : Int} (h0 : e[i]? = some (some (b, .int k))) (h : wp (f t e) (Kaug i p k Q)) : wp (sAug i p f t e) Q := by
  unfold sAug
  rw [h0]
  refine wp_bind (h.mono fun (t, e, x) h => ?_)
  obtain ⟨l, h1, h2, h⟩ := h
  dsimp only at h1 ⊢
  rw [h1]
  refine wp_map ⟨_, ?_, h⟩
  unfold stI
  rw [if_pos h2]
theorem k_aug {Q : RS τ} {p : Int → Int → Int} {k l : Int} (hi : i < e.length) (h : Q (t, e.set i (some (true, .int (p k l))), .nx)) : Kaug i p k Q (t, e, g, .int l) := ⟨l, rfl, hi, h⟩
def KsetI2 {τ : Type} (i : Nat) (x : GD) (Q : RS τ) : RX τ := fun (t, e, y) => ∃ ds d k j, ownL e i = some ds ∧ x = (.own, d) ∧ y.2 = .int k ∧ L2.ixN ds.length k = some j ∧ Q (t, e.set i (some (true, .lst (ds.set j d))), .nx)
def KsetI {τ : Type} (i : Nat) (g : Ex τ) (Q : RS τ) : RX τ := fun (t, e, x) => wp (g t e) fun r => (∃ ds, ownL e i = some ds) ∧ KsetI2 i x Q r
theorem w_setI {Q : RS τ} {f g : Ex τ} (h : wp (f t e) (KsetI i g Q)) : wp (sSetI i g f t e) Q := wp_bind (h.mono fun (t, e, x) h => wp_bind (wp.mono h fun (t2, e2, y) z => by
  obtain ⟨⟨ds0, h0⟩, ds, d, k, j, h1, h2, h3, h4, h5⟩ := z
  subst h2
  dsimp only at h3 ⊢
  rw [h0, h1]
  dsimp only [Option.bind_some]
  rw [h3]
  exact wp_map ⟨_, h4, h5⟩))
/-- the place is a pure reading -/
theorem k_setI {Q : RS τ} {f : Ex τ} {ds : List D} {k : Int} {j : Nat} (hg : f t e = some (t1, e1, g, .int k)) (h0 : ∃ ds, ownL e i = some ds) (h1 : ownL e1 i = some ds) (hj : L2.ixN ds.length k = some j) (h : Q (t1, e1.set i (some (true, .lst (ds.set j d))), .nx)) : KsetI i f Q (t, e, .own, d) := ⟨_, hg, h0, ds, d, k, j, h1, rfl, rfl, hj, h⟩
def Kfn {τ : Type} (Q : τ × Bool × D → Prop) : RS τ := fun (t, _, fl) => match fl with
  | .rt b d => Q (t, b, d)
  | .nx => Q (t, true, .non)
  | _ => False
theorem w_fn {Q : τ × Bool × D → Prop} {n N : Nat} {bd : Sx τ} {ds : List D} (hn : ds.length = n) (he : ds.map (fun d => some (false, d)) ++ List.replicate (N - n) none = e) (h : wp (bd t e) (Kfn Q)) : wp (fnOf n N bd t ds) Q := by
  subst he
  unfold fnOf
  rw [if_pos hn]
  refine wp_bind (h.mono fun (t, e, fl) h => ?_)
  cases fl with
  | nx => exact ⟨_, rfl, h⟩
  | rt b d => exact ⟨_, rfl, h⟩
  | bk => exact h.elim
  | ct => exact h.elim
theorem k_fn {Q : τ × Bool × D → Prop} (h : Q (t, b, d)) : Kfn Q (t, e, .rt b d) := h
theorem stI_own (h : i < e.length) (h' : e.set i (some (true, d)) = e1) : stI i (.own, d) e = some e1 := by subst h'; exact if_pos h
theorem stI_frz (h : i < e.length) (h' : e.set i (some (false, d)) = e1) : stI i (.frz, d) e = some e1 := by subst h'; exact if_pos h
theorem stI_pk (h : i < e.length) (h' : (frzAll e).set i (some (false, d)) = e1) : stI i (.pk, d) e = some e1 := by subst h'; exact if_pos h
theorem stA_nil : stA [] [] e = some e := rfl
theorem stA_cons {is : List Nat} {xs : List GD} {e2 : Slots} (h : stI i x e = some e1) (h2 : stA is xs e1 = some e2) : stA (i :: is) (x :: xs) e = some e2 := by
  show (stI i x e).bind _ = _
  rw [h]; exact h2
theorem stT_of {is : List Nat} {ds : List D} {xs : List GD} (hx : ds.map (subg g) = xs) (h : stA is xs e = some e1) : stT is (g, .tup ds) e = some e1 := by subst hx; exact h
def Kit {τ : Type} (J : τ → Slots → Prop) (Q : RS τ) : RS τ := fun (t, e, fl) => match fl with
  | .nx => J t e
  | .ct => J t e
  | .bk => Q (t, e, .nx)
  | .rt b d => Q (t, e, .rt b d)
theorem k_itn {J : τ → Slots → Prop} {Q : RS τ} (h : J t e) : Kit J Q (t, e, .nx) := h
theorem k_itc {J : τ → Slots → Prop} {Q : RS τ} (h : J t e) : Kit J Q (t, e, .ct) := h
theorem k_itb {J : τ → Slots → Prop} {Q : RS τ} (h : Q (t, e, .nx)) : Kit J Q (t, e, .bk) := h
theorem k_itr {J : τ → Slots → Prop} {Q : RS τ} (h : Q (t, e, .rt b d)) : Kit J Q (t, e, .rt b d) := h
theorem w_for {Q : RS τ} {asg : GD → Slots → Option Slots} {body : Sx τ} (I : Nat → τ → Slots → Prop) : ∀ (xs : List GD) {t : τ} {e : Slots}, I 0 t e →
    (∀ (k : Nat) (x : GD) (t : τ) (e : Slots), xs[k]? = some x → I k t e → wp (asg x e) fun e1 => wp (body t e1) (Kit (I (k + 1)) Q)) →
    (∀ t e, I xs.length t e → Q (t, e, .nx)) → wp (sFor asg body xs t e) Q := by
  intro xs
  induction xs generalizing I with
  | nil => intro t e h0 _ hq; exact ⟨_, rfl, hq _ _ h0⟩
  | cons x xs ih =>
    intro t e h0 hs hq
    refine wp_bind ((hs 0 x t e rfl h0).mono fun e1 h => wp_bind (h.mono fun (t2, e2, fl) h => ?_))
    have go : ∀ t e, I 1 t e → wp (sFor asg body xs t e) Q := fun t e h => ih (fun k => I (k + 1)) h (fun k x t e hx h => hs (k + 1) x t e hx h) hq
    cases fl with
    | nx => exact go _ _ h
    | ct => exact go _ _ h
    | bk => exact ⟨_, rfl, h⟩
    | rt b d => exact ⟨_, rfl, h⟩
def KforS {τ : Type} (asg : GD → Slots → Option Slots) (body : Sx τ) (Q : RS τ) : RX τ := fun (t, e, x) => wp (itms x) fun xs => wp (sFor asg body xs t e) Q
theorem w_forS {Q : RS τ} {asg : GD → Slots → Option Slots} {body : Sx τ} {f : Ex τ} (h : wp (f t e) (KforS asg body Q)) : wp (sForS asg f body t e) Q := wp_bind (h.mono fun _ h => wp_bind h)
theorem k_forS {Q : RS τ} {asg : GD → Slots → Option Slots} {body : Sx τ} {xs : List GD} (h : itms x = some xs) (k : wp (sFor asg body xs t e) Q) : KforS asg body Q (t, e, x) := ⟨_, h, k⟩
def KforR {τ : Type} (asg : GD → Slots → Option Slots) (body : Sx τ) (Q : RS τ) : RA τ := fun (t, e, xs) => wp (rgOf xs) fun p => wp (sFor asg body (rgD p.1 p.2) t e) Q
theorem w_forR {Q : RS τ} {asg : GD → Slots → Option Slots} {body : Sx τ} {fs : List (Ex τ)} (h : wp (evA fs t e) (KforR asg body Q)) : wp (sForR asg fs body t e) Q := wp_bind (h.mono fun _ h => wp_bind h)
theorem k_forR {Q : RS τ} {asg : GD → Slots → Option Slots} {body : Sx τ} {xs : List GD} {p : Int × Nat} (h : rgOf xs = some p) (k : wp (sFor asg body (rgD p.1 p.2) t e) Q) : KforR asg body Q (t, e, xs) := ⟨_, h, k⟩
theorem rgD_len {lo : Int} {n : Nat} : (rgD lo n).length = n := by unfold rgD; rw [List.length_map, List.length_range]
theorem rgD_some {lo : Int} {n k : Nat} {x : GD} (h : (rgD lo n)[k]? = some x) : k < n ∧ x = (.own, .int (lo + (k : Int))) := by
  unfold rgD at h
  rw [List.getElem?_map] at h
  by_cases z : k < n
  · rw [List.getElem?_range z] at h; cases h; exact ⟨z, rfl⟩
  · rw [List.getElem?_eq_none (by rw [List.length_range]; omega)] at h; cases h
def Klc {τ : Type} (J : τ → List GD → Prop) (ys : List GD) : RX τ := fun (t, _, y) => y.1 ≠ .pk ∧ J t (ys ++ [y])
theorem k_lc {J : τ → List GD → Prop} {ys : List GD} (h : J t (ys ++ [(.own, d)])) : Klc J ys (t, e, .own, d) := ⟨fun z => (nomatch z), h⟩
theorem k_lcf {J : τ → List GD → Prop} {ys : List GD} (h : J t (ys ++ [(.frz, d)])) : Klc J ys (t, e, .frz, d) := ⟨fun z => (nomatch z), h⟩
def Klcd {τ : Type} (elt : Ex τ) (J : τ → List GD → Prop) (ys : List GD) : RT τ := fun (t, e, b) => if b = true then wp (elt t e) (Klc J ys) else J t ys
theorem k_lcd_t {J : τ → List GD → Prop} {elt : Ex τ} {ys : List GD} (hb : b = true) (h : wp (elt t e) (Klc J ys)) : Klcd elt J ys (t, e, b) := by subst hb; exact h
theorem k_lcd_f {J : τ → List GD → Prop} {elt : Ex τ} {ys : List GD} (hb : b = false) (h : J t ys) : Klcd elt J ys (t, e, b) := by subst hb; exact h
theorem w_lc {Q : τ × List GD → Prop} {asg : GD → Slots → Option Slots} {cd : Tx τ} {elt : Ex τ} {ew : Slots} : ∀ (xs : List GD) (I : Nat → τ → List GD → Prop) {t : τ} {ys0 : List GD}, I 0 t ys0 →
    (∀ (k : Nat) (x : GD) (t : τ) (ys : List GD), xs[k]? = some x → I k t ys → wp (asg x ew) fun e1 => wp (cd t e1) (Klcd elt (I (k + 1)) ys)) →
    (∀ t ys, I xs.length t (ys0 ++ ys) → Q (t, ys)) → wp (sLc asg cd elt ew xs t) Q := by
  intro xs
  induction xs generalizing Q with
  | nil => intro I t ys0 h0 _ hq; exact ⟨_, rfl, hq _ _ (by rw [List.append_nil]; exact h0)⟩
  | cons x xs ih =>
    intro I t ys0 h0 hs hq
    refine wp_bind ((hs 0 x t ys0 rfl h0).mono fun e1 h => wp_bind (h.mono fun (t2, e2, b) h => ?_))
    cases b with
    | false => exact ih (fun k => I (k + 1)) (ys0 := ys0) h (fun k x t e hx h => hs (k + 1) x t e hx h) hq
    | true =>
      refine wp_bind (wp.mono h fun (t3, e3, y) h => ?_)
      obtain ⟨np, h⟩ := h
      have z := ih (Q := fun r => Q (r.1, y :: r.2)) (fun k => I (k + 1)) (ys0 := ys0 ++ [y]) h (fun k x t e hx h => hs (k + 1) x t e hx h) fun t ys h => hq t (y :: ys) (by rw [List.append_cons]; exact h)
      obtain ⟨gy, dy⟩ := y
      cases gy with
      | pk => exact absurd rfl np
      | own => exact wp_map z
      | frz => exact wp_map z
def Klce {τ : Type} (e : Slots) (Q : RX τ) : τ × List GD → Prop := fun (t, ys) => Q (t, e, jn ys, .lst (ys.map (·.2)))
theorem k_lce {Q : RX τ} {ys : List GD} {d : D} (hj : jn ys = g) (hd : D.lst (ys.map (·.2)) = d) (h : Q (t, e, g, d)) : Klce e Q (t, ys) := by subst hj hd; exact h
def KLc {τ : Type} (asg : GD → Slots → Option Slots) (ws : List Nat) (cd : Tx τ) (elt : Ex τ) (Q : RX τ) : RX τ := fun (t, e, x) => wp (itmsC x) fun xs => wp (sLc asg cd elt (wipeE e ws) xs t) (Klce e Q)
theorem w_xLc {Q : RX τ} {asg : GD → Slots → Option Slots} {ws : List Nat} {f : Ex τ} {cd : Tx τ} {elt : Ex τ} (h : wp (f t e) (KLc asg ws cd elt Q)) : wp (xLc asg ws f cd elt t e) Q := wp_bind (h.mono fun _ h => wp_bind (h.mono fun _ h => wp_map (h.mono fun _ h => h)))
theorem k_Lc {Q : RX τ} {asg : GD → Slots → Option Slots} {ws : List Nat} {cd : Tx τ} {elt : Ex τ} {xs : List GD} {ew : Slots} (h : itmsC x = some xs) (hw : wipeE e ws = ew) (k : wp (sLc asg cd elt ew xs t) (Klce e Q)) : KLc asg ws cd elt Q (t, e, x) := by subst hw; exact ⟨_, h, k⟩
def KLcR {τ : Type} (asg : GD → Slots → Option Slots) (ws : List Nat) (cd : Tx τ) (elt : Ex τ) (Q : RX τ) : RA τ := fun (t, e, xs) => wp (rgOf xs) fun p => p.2 ≤ 16777216 ∧ wp (sLc asg cd elt (wipeE e ws) (rgD p.1 p.2) t) (Klce e Q)
theorem w_xLcR {Q : RX τ} {asg : GD → Slots → Option Slots} {ws : List Nat} {fs : List (Ex τ)} {cd : Tx τ} {elt : Ex τ} (h : wp (evA fs t e) (KLcR asg ws cd elt Q)) : wp (xLcR asg ws fs cd elt t e) Q := wp_bind (h.mono fun _ h => wp_bind (h.mono fun _ h => by
  dsimp only
  rw [if_pos h.1]
  exact wp_map (h.2.mono fun _ h => h)))
theorem k_LcR {Q : RX τ} {asg : GD → Slots → Option Slots} {ws : List Nat} {cd : Tx τ} {elt : Ex τ} {xs : List GD} {p : Int × Nat} {ew : Slots} (h : rgOf xs = some p) (hn : p.2 ≤ 16777216) (hw : wipeE e ws = ew) (k : wp (sLc asg cd elt ew (rgD p.1 p.2) t) (Klce e Q)) : KLcR asg ws cd elt Q (t, e, xs) := by subst hw; exact ⟨_, h, hn, k⟩
end
end Fw
set_option Elab.async false
set_option linter.all false
set_option maxRecDepth 100000
namespace Fw
open PySem L2
def vec (n : Nat) (f : Nat → Int) : List D := (List.range n).map fun k => D.int (f k)
section
variable {g g' : Gr} {i j : Int} {n : Nat} {f f' : Nat → Int} {xs : List Int}
theorem immA_ints : immA (xs.map D.int) = true := by
  induction xs with
  | nil => rfl
  | cons a l ih => exact ih
theorem immA_map {α : Type} {F : α → D} {l : List α} (h : ∀ a ∈ l, imm (F a) = true) : immA (l.map F) = true := by
  induction l with
  | nil => rfl
  | cons a l ih =>
    show (imm (F a) && immA (l.map F)) = true
    rw [h a (.head _), ih fun a m => h a (.tail _ m)]; rfl
theorem immA_app {l m : List D} (h : immA l = true) (h' : immA m = true) : immA (l ++ m) = true := by
  induction l with
  | nil => exact h'
  | cons a l ih =>
    have z : (imm a && immA l) = true := h
    rw [Bool.and_eq_true] at z
    show (imm a && immA (l ++ m)) = true
    rw [z.1, ih z.2]; rfl
theorem imm_vec : imm (.tup (vec n f)) = true := immA_map fun _ _ => rfl
theorem immA_vec : immA (vec n f) = true := immA_map fun _ _ => rfl
theorem vec_len : (vec n f).length = n := by unfold vec; rw [List.length_map, List.length_range]
theorem vec_get {k : Nat} (h : k < n) : (vec n f)[k]? = some (.int (f k)) := by
  unfold vec; rw [List.getElem?_map, List.getElem?_range h]; rfl
theorem vec_ext (h : ∀ k, k < n → f k = f' k) : vec n f = vec n f' := by
  unfold vec
  exact List.map_congr_left fun k m => by rw [h k (List.mem_range.mp m)]
theorem vec_ints : vec n f = ((List.range n).map f).map D.int := by unfold vec; rw [List.map_map]; rfl
theorem intsD_vec : intsD (vec n f) = some ((List.range n).map f) := by rw [vec_ints, intsD_map]
theorem atI_nat {ds : List D} {k : Nat} (h : k < ds.length) : L2.atI ds (k : Int) = ds[k]? := by
  unfold L2.atI L2.ixN
  rw [if_pos (by omega), if_pos (by omega)]
  rfl
theorem o_idx_vec {k : Nat} (h : k < n) : sIdx (g, .tup (vec n f)) (g', .int (k : Int)) = some (.own, .int (f k)) := by
  unfold sIdx
  dsimp only
  rw [atI_nat (by rw [vec_len]; exact h), vec_get h]
  rfl
theorem o_idxl_vec {k : Nat} (h : k < n) : sIdx (g, .lst (vec n f)) (g', .int (k : Int)) = some (.own, .int (f k)) := by
  unfold sIdx
  dsimp only
  rw [atI_nat (by rw [vec_len]; exact h), vec_get h]
  rfl
theorem o_idx_t {ds : List D} {d : D} (h : L2.atI ds i = some d) (m : imm d = true) : sIdx (g, .tup ds) (g', .int i) = some (.own, d) := by
  unfold sIdx
  dsimp only
  rw [h]
  show some (up g d) = _
  unfold up
  rw [if_pos m]
theorem o_idx_l {ds : List D} {d : D} (h : L2.atI ds i = some d) (m : imm d = true) : sIdx (g, .lst ds) (g', .int i) = some (.own, d) := by
  unfold sIdx
  dsimp only
  rw [h]
  show some (up g d) = _
  unfold up
  rw [if_pos m]
theorem o_len_t {ds : List D} {m : Nat} (h : ds.length = m) : sLen [(g, .tup ds)] = some (.own, .int m) := by subst h; rfl
theorem o_len_l {ds : List D} {m : Nat} (h : ds.length = m) : sLen [(g, .lst ds)] = some (.own, .int m) := by subst h; rfl
theorem o_tuple {ds : List D} : sTuple [(.own, .lst ds)] = some (.own, .tup ds) := rfl
theorem o_tuple_i {ds : List D} (m : immA ds = true) : sTuple [(g, .lst ds)] = some (.own, .tup ds) := by
  cases g with
  | own => rfl
  | _ =>
    show some (up _ _) = _
    unfold up
    rw [if_pos (show imm (.tup ds) = true from m)]
theorem o_tuple_t {ds : List D} : sTuple [(g, .tup ds)] = some (g, .tup ds) := rfl
theorem o_list_i {ds : List D} (m : immA ds = true) : sList [(g, .lst ds)] = some (.own, .lst ds) := by
  cases g with
  | own => rfl
  | _ => show some (upL _ _) = _; unfold upL; rw [if_pos m]
theorem o_list_t {ds : List D} (m : immA ds = true) : sList [(g, .tup ds)] = some (.own, .lst ds) := by
  cases g with
  | own => rfl
  | _ => show some (upL _ _) = _; unfold upL; rw [if_pos m]
theorem bnd_of (h : -1000000000 < i) (h' : i < 1000000000) : bnd i = true := decide_eq_true (by omega)
theorem o_times_r (h : bnd j = true) : sTimes (g, .int i) (g', .int j) = some (.own, .int (i * j)) := by
  unfold sTimes; dsimp only; rw [h, Bool.or_true]; rfl
theorem o_times_l (h : bnd i = true) : sTimes (g, .int i) (g', .int j) = some (.own, .int (i * j)) := by
  unfold sTimes; dsimp only; rw [h]; rfl
theorem o_plus : sPlus (g, .int i) (g', .int j) = some (.own, .int (i + j)) := rfl
theorem o_sub : sSub (g, .int i) (g', .int j) = some (.own, .int (i - j)) := rfl
theorem o_lt : sLt (g, .int i) (g', .int j) = some (.own, .bl (decide (i < j))) := rfl
theorem o_le : sLe (g, .int i) (g', .int j) = some (.own, .bl (decide (i ≤ j))) := rfl
theorem o_gt : sGt (g, .int i) (g', .int j) = some (.own, .bl (decide (j < i))) := rfl
theorem o_ge : sGe (g, .int i) (g', .int j) = some (.own, .bl (decide (j ≤ i))) := rfl
theorem o_neg : sNeg (g, .int i) = some (.own, .int (-i)) := rfl
theorem o_mod (h : 0 < j) : sMod (g, .int i) (g', .int j) = some (.own, .int (i % j)) := by unfold sMod sI; simp [h]
theorem o_fdiv (h : 0 < j) (h' : j < 1073741824) : sFdiv (g, .int i) (g', .int j) = some (.own, .int (i / j)) := by unfold sFdiv sI; simp [h, h']
theorem o_max2 : sMax2 [(g, .int i), (g', .int j)] = some (.own, .int (if j > i then j else i)) := rfl
theorem o_min2 : sMin2 [(g, .int i), (g', .int j)] = some (.own, .int (if j < i then j else i)) := rfl
theorem o_sum_t {ds : List D} (h : intsD ds = some xs) : sSumX [(g, .tup ds)] = some (.own, .int xs.sum) := by unfold sSumX; dsimp only; rw [h]; rfl
theorem o_sum_l {ds : List D} (h : intsD ds = some xs) : sSumX [(g, .lst ds)] = some (.own, .int xs.sum) := by unfold sSumX; dsimp only; rw [h]; rfl
theorem o_min_t {ds : List D} (h : intsD ds = some xs) (n : xs ≠ []) : sMinX [(g, .tup ds)] = some (.own, .int (minI xs)) := by
  unfold sMinX; dsimp only; rw [h]
  cases xs with
  | nil => exact absurd rfl n
  | cons a l => rfl
theorem o_sort {ds : List D} (h : intsD ds = some xs) : sSortX [(g, .lst ds)] = some (.own, .lst ((srtI xs).map D.int)) := by show sSortP [(g, .lst ds)] = _; unfold sSortP; dsimp only; rw [h]
theorem o_sort_t {ds : List D} (h : intsD ds = some xs) : sSortX [(g, .tup ds)] = some (.own, .lst ((srtI xs).map D.int)) := by unfold sSortX; dsimp only; rw [h]; rfl
theorem o_sort_p {ps : List (Int × Int)} : sSortX [(g, .lst (ps.map pairD))] = some (.own, .lst ((srtP ps).map pairD)) := by
  show sSortP [(g, .lst _)] = _
  unfold sSortP; dsimp only
  cases ps with
  | nil => rfl
  | cons a l =>
    have : intsD ((a :: l).map pairD) = none := rfl
    rw [this]; dsimp only; rw [prsD_map]; rfl
theorem srtI_min {xs : List Int} (h : xs ≠ []) : ∃ l, srtI xs = minI xs :: l := by
  have p := srtI_perm xs
  have o := srtI_sorted xs
  cases e : srtI xs with
  | nil => rw [e] at p; exact absurd (p.symm.eq_nil) h
  | cons a l =>
    rw [e] at p o
    obtain ⟨m1, m2⟩ := minI_ok h
    have a1 : minI xs ≤ a := m2 a (p.mem_iff.mp (.head _))
    have a2 : a ≤ minI xs := by
      rcases List.mem_cons.mp (p.mem_iff.mpr m1) with q | q
      · omega
      · exact (List.pairwise_cons.mp o).1 _ q
    exact ⟨l, by rw [show a = minI xs by omega]⟩
mutual
theorem deq_self : ∀ d : D, deq d d = true
  | .non => rfl
  | .bl b => by cases b <;> rfl
  | .int i => by show PyData.eqv (.int i) (.int i) = true; rw [PyData.eqv]; exact beq_self_eq_true i
  | .str x => by show PyData.eqv (.str x) (.str x) = true; rw [PyData.eqv]; exact beq_self_eq_true x
  | .tok => rfl
  | .dct => rfl
  | .dk _ _ => rfl
  | .tup ds => by show PyData.eqv (.tuple (pyA ds)) (.tuple (pyA ds)) = true; rw [PyData.eqv]; exact deqA_self ds
  | .lst ds => by show PyData.eqv (.list (pyA ds)) (.list (pyA ds)) = true; rw [PyData.eqv]; exact deqA_self ds
theorem deqA_self : ∀ ds : List D, PyData.eqvAll (pyA ds) (pyA ds) = true
  | [] => by show PyData.eqvAll [] [] = true; rw [PyData.eqvAll]
  | d :: ds => by
    show PyData.eqvAll (py d :: pyA ds) (py d :: pyA ds) = true
    rw [PyData.eqvAll, deqA_self ds, show PyData.eqv (py d) (py d) = true from deq_self d]; rfl
end
theorem deq_int : deq (.int i) (.int j) = decide (i = j) := by
  show PyData.eqv (.int i) (.int j) = _
  rw [PyData.eqv]
  rfl
theorem deq_bl {a b : Bool} : deq (.bl a) (.bl b) = (a == b) := by
  show PyData.eqv (.bool a) (.bool b) = _
  rw [PyData.eqv]
theorem deq_str {a b : Str} : deq (.str a) (.str b) = decide (a = b) := by
  show PyData.eqv (.str a) (.str b) = _
  rw [PyData.eqv]
  rfl
theorem o_eq_i : sEq false (g, .int i) (g', .int j) = some (.own, .bl (decide (i = j))) := by
  show some _ = some _
  rw [show ((g, D.int i) : GD).2 = .int i from rfl, show ((g', D.int j) : GD).2 = .int j from rfl, deq_int]
  simp
theorem o_ne_i : sEq true (g, .int i) (g', .int j) = some (.own, .bl (!decide (i = j))) := by
  show some _ = some _
  rw [show ((g, D.int i) : GD).2 = .int i from rfl, show ((g', D.int j) : GD).2 = .int j from rfl, deq_int]
  simp
theorem o_eq_n {a b : Nat} : sEq false (g, .int (a : Int)) (g', .int (b : Int)) = some (.own, .bl (decide (a = b))) := by
  rw [o_eq_i]
  congr 3
  exact decide_eq_decide.mpr Int.natCast_inj
theorem o_ne_n {a b : Nat} : sEq true (g, .int (a : Int)) (g', .int (b : Int)) = some (.own, .bl (!decide (a = b))) := by
  rw [o_ne_i]
  congr 4
  exact decide_eq_decide.mpr Int.natCast_inj
theorem o_eq_b {a b : Bool} : sEq false (g, .bl a) (g', .bl b) = some (.own, .bl (a == b)) := by
  show some _ = some _
  rw [show ((g, D.bl a) : GD).2 = .bl a from rfl, show ((g', D.bl b) : GD).2 = .bl b from rfl, deq_bl]
  simp
/-- told and due alike -/
theorem o_eq_s {d d' : D} (h : cok 8 d = true) (e : d = d') : sEq false (g, d) (g', d') = some (.own, .bl true) := by
  subst e
  unfold sEq
  dsimp only
  rw [h, deq_self]; rfl
theorem o_ne_s {d d' : D} (h : cok 8 d = true) (e : d = d') : sEq true (g, d) (g', d') = some (.own, .bl false) := by
  subst e
  unfold sEq
  dsimp only
  rw [h, deq_self]; rfl
theorem cokA_map {α : Type} {m : Nat} {F : α → D} {l : List α} (h : ∀ a ∈ l, cok m (F a) = true) : (l.map F).all (cok m) = true := List.all_eq_true.mpr fun d hd => by
  obtain ⟨a, ha, rfl⟩ := List.mem_map.mp hd
  exact h a ha
theorem cok_vec : cok 8 (.tup (vec n f)) = true := cokA_map fun _ _ => rfl
theorem cok_vecl : cok 8 (.lst (vec n f)) = true := cokA_map fun _ _ => rfl
theorem cok_ints : cok 8 (.tup (xs.map D.int)) = true := cokA_map fun _ _ => rfl
theorem cok_intsl : cok 8 (.lst (xs.map D.int)) = true := cokA_map fun _ _ => rfl
theorem any_deq : ((xs.map D.int).any fun z => deq z (.int i)) = decide (i ∈ xs) := by
  induction xs with
  | nil => rfl
  | cons a l ih =>
    rw [List.map_cons, List.any_cons, ih, deq_int]
    by_cases h : a = i
    · simp [h]
    · simp [h, Ne.symm h]
theorem flat_ints : (xs.map D.int).all flatD = true := List.all_eq_true.mpr fun d hd => by
  obtain ⟨a, ha, rfl⟩ := List.mem_map.mp hd
  rfl
theorem o_in_l : sIn false (g, .int i) (g', .lst (xs.map D.int)) = some (.own, .bl (decide (i ∈ xs))) := by
  unfold sIn
  dsimp only
  rw [flat_ints, any_deq]
  simp [flatD]
theorem o_nin_l : sIn true (g, .int i) (g', .lst (xs.map D.int)) = some (.own, .bl (!decide (i ∈ xs))) := by
  unfold sIn
  dsimp only
  rw [flat_ints, any_deq]
  simp [flatD]
theorem o_in_t : sIn false (g, .int i) (g', .tup (xs.map D.int)) = some (.own, .bl (decide (i ∈ xs))) := by
  unfold sIn
  dsimp only
  rw [flat_ints, any_deq]
  simp [flatD]
theorem o_nin_t : sIn true (g, .int i) (g', .tup (xs.map D.int)) = some (.own, .bl (!decide (i ∈ xs))) := by
  unfold sIn
  dsimp only
  rw [flat_ints, any_deq]
  simp [flatD]
theorem o_all {bs : List Bool} : sAll [(g, .lst (bs.map D.bl))] = some (.own, .bl (bs.all id)) := by unfold sAll; dsimp only; rw [blsD_map]; rfl
theorem o_any {bs : List Bool} : sAny [(g, .lst (bs.map D.bl))] = some (.own, .bl (bs.any id)) := by unfold sAny; dsimp only; rw [blsD_map]; rfl
def OkT (t : Tpa) : Prop := t.cells ≠ [] ∧ ∀ c ∈ t.cells, 0 ≤ c
theorem initA_ok (ns : List Int) : OkT (initA ns) := by
  unfold initA OkT
  dsimp only
  split
  · exact ⟨fun h => (nomatch h), fun c m => by rw [List.mem_singleton.mp m]; exact Int.le_refl _⟩
  · rename_i h
    refine ⟨h, fun c m => ?_⟩
    obtain ⟨a, _, rfl⟩ := List.mem_map.mp m
    split <;> omega
theorem take_ok {t : Tpa} {m : Int} (h : OkT t) (hm : m < 2 ^ 200) : ∃ t' r, takeA t m = some (t', r) ∧ OkT t' ∧ 0 ≤ r ∧ (2 ≤ m → r < m) ∧ (m < 2 → r = 0) := by
  obtain ⟨h1, h2⟩ := h
  unfold takeA
  by_cases z : m < 2
  · rw [if_pos z]
    exact ⟨t, 0, rfl, ⟨h1, h2⟩, Int.le_refl _, fun w => by omega, fun _ => rfl⟩
  rw [if_neg z]
  have hl : t.cells.length ≠ 0 := fun w => h1 (List.length_eq_zero_iff.mp w)
  rw [if_neg hl]
  dsimp only
  have hk0 : 0 ≤ t.at_ % (t.cells.length : Int) := Int.emod_nonneg _ (by omega)
  have hk1 : t.at_ % (t.cells.length : Int) < (t.cells.length : Int) := Int.emod_lt_of_pos _ (by omega)
  have hc : 0 ≤ t.cells.getD (t.at_ % (t.cells.length : Int)).toNat 0 := by
    rw [List.getD_eq_getElem?_getD, List.getElem?_eq_getElem (by omega)]
    exact h2 _ (List.getElem_mem _)
  have mpos : (0 : Int) < m := by omega
  by_cases y : 1000000000000000000 ≤ t.cells.getD (t.at_ % (t.cells.length : Int)).toNat 0
  · rw [if_pos y]
    have hlog : m.natAbs.log2 < 9000 := by
      have : m.natAbs < 2 ^ 200 := by omega
      have : m.natAbs.log2 < 200 := (Nat.log2_lt (by omega)).mpr this
      omega
    rw [if_pos hlog]
    refine ⟨_, _, rfl, ⟨?_, ?_⟩, Int.emod_nonneg _ (by omega), fun _ => Int.emod_lt_of_pos _ mpos, fun w => absurd w z⟩
    · exact fun w => hl (by have := congrArg List.length w; rw [List.length_set] at this; exact this)
    · intro c m'
      rcases List.mem_or_eq_of_mem_set m' with q | q
      · exact h2 c q
      · rw [q]; exact Int.ediv_nonneg hc (by omega)
  · rw [if_neg y, if_neg (by omega)]
    exact ⟨_, _, rfl, ⟨h1, h2⟩, Int.emod_nonneg _ (by omega), fun _ => Int.emod_lt_of_pos _ mpos, fun w => absurd w z⟩
theorem w_take {t : Tpa} {m : Int} {Q : Tpa × Bool × D → Prop} (h : OkT t) (hm : m < 2 ^ 200) (k : ∀ t' (r : Nat), OkT t' → ((2 ≤ m → (r : Int) < m) ∧ (m < 2 → r = 0)) → Q (t', true, .int r)) : wp (phTake t [.tok, .int m]) Q := by
  obtain ⟨t', r, e, h1, h2, h3, h4⟩ := take_ok h hm
  refine ⟨(t', true, .int r), ?_, ?_⟩
  · show (takeA t m).map _ = _
    rw [e]; rfl
  · have := k t' r.toNat h1 ⟨fun w => by have := h3 w; omega, fun w => by have := h4 w; omega⟩
    rw [Int.toNat_of_nonneg h2] at this
    exact this
/-- m places: one of them -/
theorem w_takeN {t : Tpa} {m : Nat} {Q : Tpa × Bool × D → Prop} (h : OkT t) (hm : m < 1000000000000) (k : ∀ t' (r : Nat), OkT t' → (0 < m → r < m) → Q (t', true, .int r)) : wp (phTake t [.tok, .int m]) Q :=
  w_take h (Int.lt_of_lt_of_le (by omega : (m : Int) < 1000000000000) (by decide)) fun t' r h1 h2 => k t' r h1 fun z => by omega
theorem map_some {α β : Type} {l : List α} {f : α → β} {k : Nat} {x : β} (h : (l.map f)[k]? = some x) : ∃ a, l[k]? = some a ∧ x = f a := by
  rw [List.getElem?_map, Option.map_eq_some_iff] at h
  obtain ⟨a, h1, h2⟩ := h
  exact ⟨a, h1, h2.symm⟩
theorem take_s {α : Type} {l : List α} {k : Nat} {a : α} (h : l[k]? = some a) : l.take (k + 1) = l.take k ++ [a] := by rw [List.take_succ, h]; rfl
theorem mem_of_get {α : Type} {l : List α} {k : Nat} {a : α} (h : l[k]? = some a) : a ∈ l := List.mem_of_getElem? h
theorem vec_succ {k : Nat} : vec (k + 1) f = vec k f ++ [D.int (f k)] := by unfold vec; rw [List.range_succ, List.map_append]; rfl
theorem up_map {ds : List D} (h : immA ds = true) : ds.map (up .frz) = ds.map fun d => ((.own, d) : GD) := by
  induction ds with
  | nil => rfl
  | cons a l ih =>
    have z : (imm a && immA l) = true := h
    rw [Bool.and_eq_true] at z
    rw [List.map_cons, List.map_cons, ih z.2]
    show up .frz a :: _ = _
    unfold up
    rw [if_pos z.1]
theorem itms_t {ds : List D} (h : immA ds = true) : itms (g, .tup ds) = some (ds.map fun d => ((.own, d) : GD)) := by
  unfold itms
  dsimp only
  rw [if_neg (by rw [h]; exact fun z => Bool.noConfusion z.2), up_map h]
theorem itms_l {ds : List D} (h : immA ds = true) (hg : g ≠ .pk) : itms (g, .lst ds) = some (ds.map fun d => ((.own, d) : GD)) := by
  unfold itms
  dsimp only
  rw [if_neg hg, up_map h]
theorem itmsC_t {ds : List D} (h : immA ds = true) : itmsC (g, .tup ds) = some (ds.map fun d => ((.own, d) : GD)) := by
  unfold itmsC
  dsimp only
  rw [h, up_map h]; rfl
theorem itmsC_l {ds : List D} (h : immA ds = true) : itmsC (g, .lst ds) = some (ds.map fun d => ((.own, d) : GD)) := by
  unfold itmsC
  dsimp only
  rw [h, up_map h]; rfl
theorem jn_owns {l : List GD} (h : ∀ x ∈ l, x.1 = .own) : jn l = .own := by
  induction l with
  | nil => rfl
  | cons a l ih =>
    show jn2 a.1 (jn l) = _
    rw [h a (.head _), ih fun x m => h x (.tail _ m)]; rfl
section
variable {τ : Type} {α : Type} {t : τ} {e ew : Slots} {asg : GD → Slots → Option Slots} {elt : Ex τ} {cd : Tx τ}
/-- a comprehension of pure steps: the list of the values -/
theorem w_lc_pure {Q : RX τ} (l : List α) (F G : α → D) (p : α → Bool)
    (h : ∀ a, a ∈ l → wp (asg (.own, F a) ew) fun e1 => wp (cd t e1) fun r => r.1 = t ∧ r.2.2 = p a ∧ (p a = true → wp (elt t r.2.1) fun r' => r'.1 = t ∧ r'.2.2 = (.own, G a)))
    (k : Q (t, e, .own, .lst ((l.filter p).map G))) : wp (sLc asg cd elt ew (l.map fun a => ((.own, F a) : GD)) t) (Klce e Q) := by
  have z : sLc asg cd elt ew (l.map fun a => ((.own, F a) : GD)) t = some (t, (l.filter p).map fun a => ((.own, G a) : GD)) := by
    clear k
    induction l with
    | nil => rfl
    | cons a l ih =>
      have ih' := ih fun b m => h b (.tail _ m)
      obtain ⟨e1, h1, ⟨t2, e2, b⟩, h2, q1, q2, q3⟩ := h a (.head _)
      dsimp only at q1 q2 q3
      subst q1
      rw [List.map_cons]
      unfold sLc
      rw [h1]
      dsimp only [Option.bind_some]
      rw [h2]
      dsimp only [Option.bind_some]
      cases hb : p a with
      | false =>
        rw [q2, hb]
        dsimp only
        rw [ih', List.filter_cons_of_neg (by rw [hb]; exact Bool.false_ne_true)]
      | true =>
        rw [q2, hb]
        dsimp only
        obtain ⟨⟨t3, e3, y⟩, h3, r1, r2⟩ := q3 hb
        dsimp only at r1 r2
        subst r1 r2
        rw [h3]
        dsimp only [Option.bind_some]
        rw [ih', List.filter_cons_of_pos hb]
        rfl
  refine ⟨_, z, ?_⟩
  refine k_lce (jn_owns fun x m => ?_) ?_ k
  · obtain ⟨a, _, rfl⟩ := List.mem_map.mp m; rfl
  · rw [List.map_map]; rfl
/-- one with no test -/
theorem w_lc_all {Q : RX τ} (l : List α) (F G : α → D)
    (h : ∀ a, a ∈ l → wp (asg (.own, F a) ew) fun e1 => wp (elt t e1) fun r' => r'.1 = t ∧ r'.2.2 = (.own, G a))
    (k : Q (t, e, .own, .lst (l.map G))) : wp (sLc asg xYes elt ew (l.map fun a => ((.own, F a) : GD)) t) (Klce e Q) :=
  w_lc_pure l F G (fun _ => true) (fun a m => (h a m).mono fun e1 z => ⟨_, rfl, rfl, rfl, fun _ => z⟩) (by rw [List.filter_eq_self.mpr fun _ _ => rfl]; exact k)
/-- over a range, the values whole numbers -/
theorem w_lcr {Q : RX τ} (n : Nat) (g : Nat → Int)
    (h : ∀ a, a < n → wp (asg (.own, .int (a : Int)) ew) fun e1 => wp (elt t e1) fun r' => r'.1 = t ∧ r'.2.2 = (.own, .int (g a)))
    (k : Q (t, e, .own, .lst (vec n g))) : wp (sLc asg xYes elt ew (rgD 0 n) t) (Klce e Q) :=
  w_lc_all (List.range n) (fun k => .int (0 + (k : Int))) (fun k => .int (g k)) (fun a m => by rw [Int.zero_add]; exact h a (List.mem_range.mp m)) k
/-- the steps move the tape -/
theorem w_lc_tape {e ew : Slots} {elt : Ex Tpa} {t : Tpa} {Q : RX Tpa} (l : List α) (F : α → D) (P : α → D → Prop) (ht : OkT t)
    (h : ∀ a t, a ∈ l → OkT t → wp (asg (.own, F a) ew) fun e1 => wp (elt t e1) fun r' => OkT r'.1 ∧ ∃ d, r'.2.2 = (.own, d) ∧ P a d)
    (k : ∀ (t' : Tpa) (ds : List D), OkT t' → ds.length = l.length → (∀ (i : Nat) a d, l[i]? = some a → ds[i]? = some d → P a d) → Q (t', e, .own, .lst ds)) : wp (sLc asg xYes elt ew (l.map fun a => ((.own, F a) : GD)) t) (Klce e Q) := by
  have z : ∃ (t' : Tpa) (ds : List D), sLc asg xYes elt ew (l.map fun a => ((.own, F a) : GD)) t = some (t', ds.map fun d => ((.own, d) : GD)) ∧ OkT t' ∧ ds.length = l.length ∧ ∀ (i : Nat) a d, l[i]? = some a → ds[i]? = some d → P a d := by
    clear k
    induction l generalizing t with
    | nil => exact ⟨t, [], rfl, ht, rfl, fun i a d h => by cases h⟩
    | cons a l ih =>
      obtain ⟨e1, h1, ⟨t3, e3, y⟩, h3, r1, d, r2, r3⟩ := h a t (.head _) ht
      dsimp only at r1 r2
      subst r2
      obtain ⟨t', ds, z1, z2, z3, z4⟩ := ih r1 fun b t m => h b t (.tail _ m)
      refine ⟨t', d :: ds, ?_, z2, by rw [List.length_cons, List.length_cons, z3], fun i b c hb hc => ?_⟩
      · have hy : ∀ e1, xYes t e1 = some (t, e1, true) := fun _ => rfl
        rw [List.map_cons]
        unfold sLc
        rw [h1]
        dsimp only [Option.bind_some]
        rw [hy]
        dsimp only [Option.bind_some]
        rw [h3]
        dsimp only [Option.bind_some]
        rw [z1]
        rfl
      · cases i with
        | zero => cases hb; cases hc; exact r3
        | succ i => exact z4 i b c hb hc
  obtain ⟨t', ds, z1, z2, z3, z4⟩ := z
  refine ⟨_, z1, ?_⟩
  refine k_lce (jn_owns fun x m => ?_) ?_ (k t' ds z2 z3 z4)
  · obtain ⟨a, _, rfl⟩ := List.mem_map.mp m; rfl
  · rw [List.map_map]; exact congrArg _ (List.map_id _)
end
theorem itms_tm {α : Type} {l : List α} {F : α → D} (h : ∀ a, imm (F a) = true) : itms (g, .tup (l.map F)) = some (l.map fun a => ((.own, F a) : GD)) := by
  rw [itms_t (immA_map fun a _ => h a), List.map_map]; rfl
theorem itms_lm {α : Type} {l : List α} {F : α → D} (h : ∀ a, imm (F a) = true) (hg : g ≠ .pk) : itms (g, .lst (l.map F)) = some (l.map fun a => ((.own, F a) : GD)) := by
  rw [itms_l (immA_map fun a _ => h a) hg, List.map_map]; rfl
theorem itmsC_tm {α : Type} {l : List α} {F : α → D} (h : ∀ a, imm (F a) = true) : itmsC (g, .tup (l.map F)) = some (l.map fun a => ((.own, F a) : GD)) := by
  rw [itmsC_t (immA_map fun a _ => h a), List.map_map]; rfl
theorem itmsC_lm {α : Type} {l : List α} {F : α → D} (h : ∀ a, imm (F a) = true) : itmsC (g, .lst (l.map F)) = some (l.map fun a => ((.own, F a) : GD)) := by
  rw [itmsC_l (immA_map fun a _ => h a), List.map_map]; rfl
theorem intsD_mapf {α : Type} {l : List α} {F : α → Int} : intsD (l.map fun a => D.int (F a)) = some (l.map F) := by
  have := intsD_map (l.map F)
  rw [List.map_map] at this
  exact this
theorem o_all' {α : Type} {l : List α} {F : α → Bool} : sAll [(g, .lst (l.map fun a => D.bl (F a)))] = some (.own, .bl (l.all F)) := by
  have := o_all (g := g) (bs := l.map F)
  rw [List.map_map, List.all_map] at this
  exact this
theorem o_any' {α : Type} {l : List α} {F : α → Bool} : sAny [(g, .lst (l.map fun a => D.bl (F a)))] = some (.own, .bl (l.any F)) := by
  have := o_any (g := g) (bs := l.map F)
  rw [List.map_map, List.any_map] at this
  exact this
abbrev natsD (l : List Nat) : List D := l.map fun (k : Nat) => D.int (k : Int)
theorem nats_ints {l : List Nat} : natsD l = (l.map fun (k : Nat) => (k : Int)).map D.int := by rw [List.map_map]; rfl
theorem mem_cast {l : List Nat} {k : Nat} : ((k : Int) ∈ l.map fun (k : Nat) => (k : Int)) ↔ k ∈ l := by
  constructor
  · intro h
    obtain ⟨a, m, e⟩ := List.mem_map.mp h
    have : a = k := by omega
    exact this ▸ m
  · intro h
    exact List.mem_map.mpr ⟨k, h, rfl⟩
theorem o_in_ln {l : List Nat} {k : Nat} : sIn false (g, .int (k : Int)) (g', .lst (natsD l)) = some (.own, .bl (decide (k ∈ l))) := by
  rw [nats_ints, o_in_l]
  congr 3
  exact decide_eq_decide.mpr mem_cast
theorem o_in_tn {l : List Nat} {k : Nat} : sIn false (g, .int (k : Int)) (g', .tup (natsD l)) = some (.own, .bl (decide (k ∈ l))) := by
  rw [nats_ints, o_in_t]
  congr 3
  exact decide_eq_decide.mpr mem_cast
theorem o_nin_ln {l : List Nat} {k : Nat} : sIn true (g, .int (k : Int)) (g', .lst (natsD l)) = some (.own, .bl (!decide (k ∈ l))) := by
  rw [nats_ints, o_nin_l]
  congr 4
  exact decide_eq_decide.mpr mem_cast
theorem o_nin_tn {l : List Nat} {k : Nat} : sIn true (g, .int (k : Int)) (g', .tup (natsD l)) = some (.own, .bl (!decide (k ∈ l))) := by
  rw [nats_ints, o_nin_t]
  congr 4
  exact decide_eq_decide.mpr mem_cast
theorem cok_nats {l : List Nat} : cok 8 (.tup (natsD l)) = true := cokA_map fun _ _ => rfl
theorem cok_natsl {l : List Nat} : cok 8 (.lst (natsD l)) = true := cokA_map fun _ _ => rfl
theorem immA_nats {l : List Nat} : immA (natsD l) = true := immA_map fun _ _ => rfl
theorem rgOf_n {n : Nat} (h : n < 1000000000000) : rgOf [(g, .int (n : Int))] = some (0, n) := by
  unfold rgOf inB
  dsimp only
  rw [if_pos (decide_eq_true (by omega))]
  rfl
theorem rgOf_2 {a n : Nat} (h : n < 1000000000000) (h' : a < 1000000000000) : rgOf [(g, .int (a : Int)), (g', .int (n : Int))] = some ((a : Int), n - a) := by
  unfold rgOf inB
  dsimp only
  rw [if_pos (by rw [decide_eq_true (by omega), decide_eq_true (by omega)]; rfl)]
  congr 2
  omega
theorem vec_set {a : Nat} {v : Int} : (vec n f).set a (.int v) = vec n (fun k => if k = a then v else f k) := by
  apply List.ext_getElem?
  intro k
  rw [List.getElem?_set]
  by_cases z : a = k
  · subst z
    rw [if_pos rfl, vec_len]
    by_cases l : a < n
    · rw [if_pos l, vec_get l, if_pos rfl]
    · rw [if_neg l, List.getElem?_eq_none (by rw [vec_len]; omega)]
  · rw [if_neg z]
    by_cases l : k < n
    · rw [vec_get l, vec_get l, if_neg (Ne.symm z)]
    · rw [List.getElem?_eq_none (by rw [vec_len]; omega), List.getElem?_eq_none (by rw [vec_len]; omega)]
theorem ixN_nat {k m : Nat} (h : k < m) : L2.ixN m (k : Int) = some k := by
  unfold L2.ixN
  rw [if_pos (by omega), if_pos (by omega)]
  rfl
theorem vec_of {ds : List D} (h : ds.length = n) (hi : ∀ (i : Nat) d, ds[i]? = some d → ∃ z, d = .int z) : ∃ f, ds = vec n f := by
  refine ⟨fun k => match ds[k]? with | some (.int z) => z | _ => 0, ?_⟩
  apply List.ext_getElem?
  intro k
  by_cases l : k < n
  · rw [vec_get l]
    have e : ds[k]? = some ds[k] := List.getElem?_eq_getElem (by omega)
    obtain ⟨z, hz⟩ := hi k _ e
    rw [e, hz]
  · rw [List.getElem?_eq_none (by omega), List.getElem?_eq_none (by rw [vec_len]; omega)]
theorem atI_zero {d : D} {ds : List D} : L2.atI (d :: ds) 0 = some d := atI_nat (ds := d :: ds) (k := 0) (by rw [List.length_cons]; omega)
end
end Fw
set_option Elab.async false
set_option linter.all false
set_option maxRecDepth 100000
namespace Fw
open PySem L2 PySem.Spec
section
variable {prog : Program} {w : World} {A : Around} {E : Value → Shared → Prop} {s : Shared}
theorem fm_congr {α β : Type} {f g : α → Option β} : ∀ {l : List α}, (∀ a ∈ l, f a = g a) → l.filterMap f = l.filterMap g
  | [], _ => rfl
  | a :: l, h => by
    rw [List.filterMap_cons, List.filterMap_cons, h a (.head _), fm_congr fun b m => h b (.tail _ m)]
theorem rev_pick (l : List Value) : ((List.range l.length).filterMap fun (k : Nat) => l.toArray[(((l.length : Int) - 1) + (k : Int) * (-1)).toNat]?).toArray = l.reverse.toArray := by
  have h := HT.pick_gen l.reverse.toArray 0 l.length
  rw [List.drop_zero, show l.reverse.toArray.toList = l.reverse from rfl, List.take_of_length_le (by rw [List.length_reverse]; exact Nat.le_refl _)] at h
  rw [← h]
  congr 1
  refine fm_congr fun k hk => ?_
  have hk := List.mem_range.mp hk
  rw [List.getElem?_toArray, List.getElem?_toArray, List.getElem?_reverse (by omega)]
  congr 1
  omega
theorem cut_back {sl : Addr} {vs : Value} {n : Nat} {Q : Int × Int × Nat → Shared → Prop} (hs : s.heap.IsSliceOf sl .none .none vs) (ps : IsPart vs (some (-1)))
    (h : Q ((n : Int) - 1, -1, n) s) : wpAny (model prog w) A (Builtin.Slice.sliceApplied (.ref sl) (pure (n : Int))) Q E s := by
  obtain ⟨os, z1, z2, z3⟩ := id hs
  unfold Builtin.Slice.sliceApplied Builtin.Slice.sliceFields
  refine wpAny_bind (wpAny_bind (wpAny_field z1 z3 (x := .none) rfl (wpAny_bind (wpAny_field z1 z3 (x := .none) rfl (wpAny_bind (wpAny_field z1 z3 (x := vs) rfl (wpAny_pure (wpAny_bind (HT.slicePart_ ps ?_)))))))))
  show wpAny _ _ (if ((-1 : Int) == 0) = true then _ else _) _ _ s
  rw [if_neg (by decide)]
  refine wpAny_bind (PyProof.Rows.slicePart_none (wpAny_bind (PyProof.Rows.slicePart_none (wpAny_bind (wpAny_pure ?_)))))
  show wpAny _ _ (match Builtin.Slice.sliceAdjust none none (-1) (n : Int) with | (lo, hi) => pure (lo, (-1 : Int), Builtin.Slice.slicePlaces lo hi (-1))) _ _ s
  have e : Builtin.Slice.sliceAdjust none none (-1) (n : Int) = ((n : Int) - 1, -1) := by
    unfold Builtin.Slice.sliceAdjust
    simp
  rw [e]
  show wpAny _ _ (pure ((n : Int) - 1, (-1 : Int), Builtin.Slice.slicePlaces ((n : Int) - 1) (-1) (-1))) _ _ s
  have e2 : Builtin.Slice.slicePlaces ((n : Int) - 1) (-1) (-1) = n := by
    unfold Builtin.Slice.slicePlaces
    rw [if_neg (by decide)]
    split
    · simp only [Int.neg_neg, Int.ediv_one]; omega
    · simp only [Int.toNat_zero]; omega
  rw [e2]
  exact wpAny_pure h
theorem back_tup {t sl : Addr} {l : List Value} {vs : Value} {Q : Value → Shared → Prop} (ht : PyProof.Rows.IsTup s.heap t l.toArray) (hs : s.heap.IsSliceOf sl .none .none vs) (ps : IsPart vs (some (-1)))
    (h : Q (.ref s.heap.objs.size) { s with heap := s.heap.push { cls := .type "tuple", data := .seq l.reverse.toArray } }) (sz : l.length ≤ sizeLine) : wpAny (model prog w) A (getItem (.ref t) (.ref sl)) Q E s := by
  have fits : sizeOk (.seq l.reverse.toArray) := by
    show l.reverse.toArray.size ≤ sizeLine
    rw [List.size_toArray, List.length_reverse]
    exact sz
  obtain ⟨os, z1, z2, z3⟩ := id hs
  have zT : s.TypeIs (.ref sl) "slice" := ⟨os, z1, z2⟩
  unfold getItem
  try with_reducible refine wpAny_holding ?_
  first | refine wpAny_bind (wpAny_pure ?_) | skip
  refine wpAny_bind (wpAny_sequenceKey ht.typeIs (by decide) (wpAny_bind (wpAny_callSpecial?_slot (name := Str.ofString "__getitem__") ht.typeIs PyProof.Rows.slot_tuple_getitem (wpAny_call_entry PyProof.Rows.slot_tuple_getitem ht.typeIs PyProof.Rows.entry_tuple_getitem ?_ (PyProof.Rows.args_tuple_getitem _ _)))))
  show wpAny _ _ (Builtin.Tuple.tupleItemsOf (.ref t) >>= _) _ _ s
  refine wpAny_bind (PyProof.Rows.tupleItemsOf_ ht (wpAny_bind (wpAny_typeOf zT ?_)))
  rw [if_pos (by decide)]
  refine wpAny_bind (cut_back (n := l.length) hs ps ?_)
  show wpAny _ _ (if ((((l.length : Int) - 1) == 0 && (-1 : Int) == 1) && l.length == l.toArray.size) = true then _ else _) _ _ s
  rw [if_neg (by rw [show ((-1 : Int) == 1) = false from rfl, Bool.and_false, Bool.false_and]; exact Bool.false_ne_true), rev_pick]
  first
    | exact wpAny_bind (m := Builtin.Tuple.tupleExact _) (wpAny_newObj_type (wpAny_pure ⟨_, rfl, wpAny_pure h⟩) fits)
    | exact wpAny_bind (m := Builtin.Tuple.tupleExact _) (wpAny_newObj_type (wpAny_bind (wpAny_pure (wpAny_pure ⟨_, rfl, wpAny_pure h⟩))) fits)
    | exact wpAny_bind (wpAny_bind (m := Builtin.Tuple.tupleExact _) (wpAny_newObj_type (wpAny_pure (wpAny_pure ⟨_, rfl, wpAny_pure h⟩)) fits))
    | exact wpAny_bind (wpAny_bind (m := Builtin.Tuple.tupleExact _) (wpAny_newObj_type (wpAny_pure ⟨_, rfl, wpAny_pure h⟩) fits))
end
section
variable {X : Cx} {te : TE}
def tRevT (K : PySem.W.Frag) (te : TE) : TE := fun σ H Q => te σ H fun x H1 => ∃ a xs, x = .ref a ∧ SqT K H1 a xs ∧ ∀ p, H1 p = none → Q (.ref p) (upd H1 p (.tup xs.reverse))
theorem pe_revT {e : Expr} {k : Nat} {p1 p2 p3 pos : Pos} (he : PE X e te) : PE X (.Subscript e (.Slice none none (some (.UnaryOp .USub (.Constant (.int 1) k p1) p2)) p3) pos) (tRevT X.K te) := by
  refine ⟨fun pins s σ H Q I h => PyProof.Rows.Subscript_ (thn (he.run pins s σ H _ I h) fun v s1 ⟨x, H1, I1, r1, a, xs, ex, hx, q⟩ => ?_)⟩
  subst ex
  cases r1
  have st : PO X (some (.UnaryOp .USub (.Constant (.int 1) k p1) p2)) (tPart (tUn (rU fun i => .int (-i)) (tC (.int 1)))) := po_some (pe_un un_neg pe_int)
  refine wpAny_Slice (thn (po_none.run pins s1 σ H1 (fun o H2 => o = none ∧ H2 = H1) I1 ⟨rfl, rfl⟩) fun vl s2 ⟨l, H2, I2, pl, el, e2⟩ => ?_)
  subst el e2
  refine thn (po_none.run pins s2 σ H2 (fun o H3 => o = none ∧ H3 = H2) I2 ⟨rfl, rfl⟩) fun vu s3 ⟨u, H3, I3, pu, eu, e3⟩ => ?_
  subst eu e3
  refine thn (st.run pins s3 σ H3 (fun o H4 => o = some (-1) ∧ H4 = H3) I3 ⟨1, rfl, -1, rfl, rfl, rfl⟩) fun vs s4 ⟨o, H4, I4, ps, eo, e4⟩ => ?_
  subst eo e4
  cases pl
  cases pu
  have I5 : Inv X pins σ H4 { s4 with heap := s4.heap.push { cls := .type "slice", data := .fields #[.none, .none, vs] } } := I4.kept (t' := s4.toks) fun b ob q => Heap.get?_push_of_some _ q
  obtain ⟨its, r, tt, hz⟩ := I5.tuple hx
  have len := r.length
  show wpAny (model X.prog X.w) X.A (PyProof.Rows.subscriptTail e (.Slice none none (some (.UnaryOp .USub (.Constant (.int 1) k p1) p2)) p3) (.ref a) (.ref s4.heap.objs.size)) (EP X pins σ Q) X.xe { s4 with heap := s4.heap.push { cls := .type "slice", data := .fields #[.none, .none, vs] } }
  refine PyProof.Rows.tail_any (ops := [.ref a, .ref s4.heap.objs.size]) tt.typeIs (PyProof.Rows.slot_tuple_getitem.lookup) ?_ (by with_unfolding_all rfl)
  refine back_tup tt (Heap.IsSliceOf.new _ .none .none vs) ps ?_ (by rw [← len]; exact hz)
  refine ⟨.ref _, _, I5.laid (t' := s4.toks) (o := .tup xs.reverse) (fun b ob q => Heap.get?_push_of_some _ q) (Nat.le_refl _) ?_, rfl, q _ (I5.hok.fresh (Nat.le_refl _))⟩
  exact ⟨by rw [List.length_reverse]; exact hz, _, r.reverse, PyProof.Rows.IsTup.new _ _⟩
theorem pe_or {ex : Expr} {u v : TE} (a : PE X ex u) (b : PE X ex v) : PE X ex (fun σ H Q => u σ H Q ∨ v σ H Q) := ⟨fun pins s σ H Q I h => by
  rcases h with h | h
  · exact a.run pins s σ H Q I h
  · exact b.run pins s σ H Q I h⟩
end
section
variable {τ : Type} [Tp τ] {X : Cx} {c : Cz} {H : Hp}
def sRev (x : GD) : Option GD := match x.2 with
  | .tup ds => some (up (gj x.1 .own) (.tup ds.reverse))
  | .lst ds => some (upL (gj x.1 .own) ds.reverse)
  | _ => none
theorem rev_rp {K : PySem.W.Frag} {T : Addr × Addr} {A : Addr → Prop} : ∀ {ds : List D} {us : List V}, RpA K T H A ds us → RpA K T H A ds.reverse us.reverse
  | [], us, h => by rw [show us = [] from h]; rfl
  | d :: ds, us, h => by
    obtain ⟨v, r, e, a, b⟩ := h
    rw [e, List.reverse_cons, List.reverse_cons]
    exact (rev_rp b).app ⟨v, [], rfl, a, rfl⟩
theorem d_rev {a : Expr} {k : Nat} {p1 p2 p3 pos : Pos} {f : Ex τ} (hk : X.K = c.K) (ha : PE X a (rd c f)) : PE X (.Subscript a (.Slice none none (some (.UnaryOp .USub (.Constant (.int 1) k p1) p2)) p3) pos) (rd c (x1 sRev f)) :=
  imE (pe_or (pe_revL ha) (pe_revT ha)) fun σ H Q h => by
    obtain ⟨H0, res, t, e, fp, t', e', z, G, ev, k⟩ := h
    unfold x1 at ev
    rw [Option.bind_eq_some_iff] at ev
    obtain ⟨⟨t1, e1, x⟩, ev1, ev⟩ := ev
    rw [Option.map_eq_some_iff] at ev
    obtain ⟨z', ev4, ev⟩ := ev
    cases ev
    unfold sRev at ev4
    split at ev4
    · rename_i ds hx
      cases ev4
      refine .inr ⟨H0, res, t, e, fp, t', e', x, G, ev1, fun H1 fp1 v q s1 u1 G1 V1 => ?_⟩
      have G' := G1.less (res' := res) fun a m => List.mem_append_right _ m
      obtain ⟨A, a1, a2, r⟩ := best1 V1
      rw [hx] at r
      obtain ⟨p, us, hv, ht, hz, hr⟩ := r
      subst hv
      refine ⟨p, us, rfl, hk ▸ ht.sq, fun l hp => ?_⟩
      obtain ⟨g1, g2⟩ := mk_tup G' hp (ds := ds.reverse) (us := us.reverse) (by rw [List.length_reverse]; exact hz) a1 a2 (rev_rp hr)
      exact k _ fp1 _ [] (s1.tr (SameT.nu hp)) u1 g1 g2
    · rename_i ds hx
      cases ev4
      refine .inl ⟨H0, res, t, e, fp, t', e', x, G, ev1, fun H1 fp1 v q s1 u1 G1 V1 => ?_⟩
      have G' := G1.less (res' := res) fun a m => List.mem_append_right _ m
      obtain ⟨A, a1, a2, r⟩ := best1 V1
      rw [hx] at r
      obtain ⟨p, us, hv, ht, hz, hr⟩ := r
      subst hv
      refine ⟨p, us, rfl, hk ▸ ht.sq, fun l hp => ?_⟩
      obtain ⟨q', g1, g2⟩ := mk_lst G' hp (ds := ds.reverse) (us := us.reverse) (by rw [List.length_reverse]; exact hz) a1 a2 (rev_rp hr)
      exact k _ fp1 _ q' (s1.tr (SameT.nu hp)) u1 g1 g2
    · cases ev4
end
end Fw
set_option Elab.async false
set_option linter.all false
set_option maxRecDepth 100000
namespace Fw
open PySem L2 PySem.Spec
section
variable {τ : Type} [Tp τ] {X : Cx} {c : Cz} {H H0 : Hp} {res : List Addr} {t : τ} {e : Slots} {fp : FP} {σ : L2.St}
def rgL (lo : Int) (n : Nat) : List D := (List.range n).map fun (k : Nat) => D.int (lo + (k : Int))
theorem rgL_ints {lo : Int} {n : Nat} : rgL lo n = ((List.range n).map fun (k : Nat) => lo + (k : Int)).map D.int := by unfold rgL; rw [List.map_map]; rfl
def xRg1 (mk : List D → D) (f : Ex τ) : Ex τ := fun t e => (f t e).bind fun (t1, e1, x) => match x.2 with
  | .int j => if inB j && szB j.toNat then some (t1, e1, .own, mk (rgL 0 j.toNat)) else none
  | _ => none
def xRg2 (mk : List D → D) (f g : Ex τ) : Ex τ := fun t e => (f t e).bind fun (t1, e1, x) => (g t1 e1).bind fun (t2, e2, y) => match x.2, y.2 with
  | .int i, .int j => if inB i && inB j && szB (j - i).toNat then some (t2, e2, .own, mk (rgL i (j - i).toNat)) else none
  | _, _ => none
theorem rgV_of (a b : Int) : L2.rgV a b = ((List.range (b - a).toNat).map fun (k : Nat) => a + (k : Int)).map V.int := by unfold L2.rgV; rw [List.map_map]; rfl
theorem RgOk_of {i j : Int} (h1 : inB i = true) (h2 : inB j = true) (h3 : szB (j - i).toNat = true) : RgOk i j := by
  have a := of_decide_eq_true h1
  have b := of_decide_eq_true h2
  have c := of_decide_eq_true h3
  exact ⟨a.1, a.2, b.1, b.2, c⟩
theorem rg_own (i j : Int) {K : PySem.W.Frag} {T : Addr × Addr} : OwA K T H (rgL i (j - i).toNat) [] (L2.rgV i j) := by
  rw [rgV_of, rgL_ints]
  exact ints_own
theorem rg_len {i j : Int} (h3 : szB (j - i).toNat = true) : (L2.rgV i j).length ≤ sizeLine := by
  have c := of_decide_eq_true h3
  rw [rgV_length]
  exact c
variable {a b : Expr} {f g : Ex τ} {p p2 p3 pos : Pos}
theorem rg_lst {i j : Int} (G : Good c H0 res t e fp σ H) (h3 : szB (j - i).toNat = true) {l : Addr} (hp : H l = none) :
    Good c H0 ([l] ++ res) t e fp σ (upd H l (.lst (L2.rgV i j))) ∧ VOk c H0 res fp (upd H l (.lst (L2.rgV i j))) (.own, .lst (rgL i (j - i).toNat)) (.ref l) [l] :=
  new_lst (q := []) (by exact G) hp (rg_len h3) (rg_own i j) List.nodup_nil fun a m => nomatch m
/-- what follows one bound -/
theorem run_rg1 {mk : List D → D} {Q : VK} {P : Int → Hp → Prop} (h : rd c (xRg1 mk f) σ H Q)
    (k : ∀ (H0 : Hp) (res : List Addr) (t1 : τ) (e1 : Slots) (fp1 : FP) (H1 : Hp) (j : Int), Good c H0 res t1 e1 fp1 σ H1 → inB j = true → szB (j - 0).toNat = true →
      (∀ H' v q, SameT c.T H1 H' → Good c H0 (q ++ res) t1 e1 fp1 σ H' → VOk c H0 res fp1 H' (.own, mk (rgL 0 (j - 0).toNat)) v q → Q v H') → P j H1) : rd c f σ H fun v H1 => ∃ j, v = .int j ∧ P j H1 := by
  obtain ⟨H0, res, t, e, fp, t', e', z, G, ev, kk⟩ := h
  unfold xRg1 at ev
  rw [Option.bind_eq_some_iff] at ev
  obtain ⟨⟨t1, e1, g, d⟩, ev1, ev⟩ := ev
  cases d with
  | int j =>
    dsimp only at ev
    split at ev
    · rename_i ok
      cases ev
      rw [Bool.and_eq_true] at ok
      refine ⟨H0, res, t, e, fp, t', e', _, G, ev1, fun H1 fp1 v q s1 u1 G1 V1 => ?_⟩
      have G' := G1.less (res' := res) fun a m => List.mem_append_right _ m
      obtain rfl : v = .int j := V1.rp
      have e0 : j - 0 = j := by omega
      exact ⟨j, rfl, k H0 res t' e' fp1 H1 j G' ok.1 (by rw [e0]; exact ok.2) fun H' v q s2 G2 V2 => kk H' fp1 v q (s1.tr s2) u1 G2 (by rw [e0] at V2; exact V2)⟩
    · cases ev
  | _ => cases ev
section
variable (hk : X.K = c.K) (hc : X.calm = true) (hg2 : Gl X "range") (hm2 : X.mg "range" = none) (ha : PE X a (rd c f)) (hb : PE X b (rd c g))
include hc hg2 hm2 ha
theorem d_lstR1 (hg : Gl X "list") (hm : X.mg "list" = none) (na : starEach [a] X.env = (false, eval a X.env) :: starEach [] X.env := by rfl)
    (nb : starEach [.Call (.Name "range" p2) [a] [] p3] X.env = (false, eval (.Call (.Name "range" p2) [a] [] p3) X.env) :: starEach [] X.env := by rfl) : PE X (.Call (.Name "list" p) [.Call (.Name "range" p2) [a] [] p3] [] pos) (rd c (xRg1 .lst f)) :=
  imE (pe_listRg hc hg hm (prg_1 hg2 hm2 ha na) nb) fun σ H Q h => run_rg1 h fun H0 res t1 e1 fp1 H1 j G i1 i2 k => ⟨RgOk_of (by decide) i1 i2, fun l hp => by
    obtain ⟨g1, g2⟩ := rg_lst G i2 hp
    exact k _ _ [l] (SameT.nu hp) g1 g2⟩
include hb
end
instance {mk : List D → D} [Stab f] : Stab (xRg1 mk f) := ⟨fun {t e t' e' x} h => by
  unfold xRg1 at h
  rw [Option.bind_eq_some_iff] at h
  obtain ⟨⟨t1, e1, g, d⟩, h1, h⟩ := h
  cases d with
  | int j =>
    dsimp only at h
    split at h
    · cases h; exact Stab.h h1
    · cases h
  | _ => cases h⟩
instance {mk : List D → D} [Stab f] [Stab g] : Stab (xRg2 mk f g) := ⟨fun {t e t' e' x} h => by
  unfold xRg2 at h
  rw [Option.bind_eq_some_iff] at h
  obtain ⟨⟨t1, e1, g1, d⟩, h1, h⟩ := h
  rw [Option.bind_eq_some_iff] at h
  obtain ⟨⟨t2, e2, g2, d'⟩, h2, h⟩ := h
  cases d with
  | int i =>
    cases d' with
    | int j =>
      dsimp only at h
      split at h
      · cases h; rw [Stab.h h2, Stab.h h1]
      · cases h
    | _ => cases h
  | _ => cases h⟩
def xInR (neg : Bool) (f g : Ex τ) : Ex τ := fun t e => (f t e).bind fun (t1, e1, x) => (g t1 e1).bind fun (t2, e2, y) => match x.2, y.2 with
  | .int i, .int j => some (t2, e2, .own, .bl (neg ^^ decide (0 ≤ i ∧ i < j)))
  | _, _ => none
instance {neg : Bool} [Stab f] [Stab g] : Stab (xInR neg f g) := ⟨fun {t e t' e' x} h => by
  unfold xInR at h
  rw [Option.bind_eq_some_iff] at h
  obtain ⟨⟨t1, e1, g1, d⟩, h1, h⟩ := h
  rw [Option.bind_eq_some_iff] at h
  obtain ⟨⟨t2, e2, g2, d'⟩, h2, h⟩ := h
  cases d with
  | int i =>
    cases d' with
    | int j => cases h; rw [Stab.h h2, Stab.h h1]
    | _ => cases h
  | _ => cases h⟩
end
end Fw
set_option Elab.async false
set_option linter.all false
set_option maxRecDepth 100000
namespace Fw
open PySem L2
section
variable {τ : Type} {t t1 : τ} {e e1 : Slots} {x y z : GD} {i : Nat} {d : D} {b : Bool} {g : Gr}
theorem rgL_nat {n : Nat} : rgL 0 ((n : Int)).toNat = natsD (List.range n) := by
  unfold rgL
  rw [Int.toNat_natCast]
  exact List.map_congr_left fun k _ => by rw [Int.zero_add]
def Krg1 {τ : Type} (mk : List D → D) (Q : RX τ) : RX τ := fun (t, e, x) => ∃ j, x.2 = .int j ∧ inB j = true ∧ szB j.toNat = true ∧ Q (t, e, .own, mk (rgL 0 j.toNat))
theorem w_rg1 {Q : RX τ} {mk : List D → D} {f : Ex τ} (h : wp (f t e) (Krg1 mk Q)) : wp (xRg1 mk f t e) Q := wp_bind (h.mono fun (t, e, x) h => by
  obtain ⟨j, h1, h2, h3, h⟩ := h
  dsimp only at h1 ⊢
  rw [h1]
  dsimp only
  rw [if_pos (by rw [h2, h3]; rfl)]
  exact ⟨_, rfl, h⟩)
theorem k_rg1 {Q : RX τ} {mk : List D → D} {n : Nat} (hn : n < 1000000) (h : Q (t, e, .own, mk (natsD (List.range n)))) : Krg1 mk Q (t, e, g, .int (n : Int)) := ⟨n, rfl, decide_eq_true (by omega), decide_eq_true (by omega), by rw [rgL_nat]; exact h⟩
def KinR2 {τ : Type} (neg : Bool) (i : Int) (Q : RX τ) : RX τ := fun (t, e, y) => ∃ j, y.2 = .int j ∧ Q (t, e, .own, .bl (neg ^^ decide (0 ≤ i ∧ i < j)))
def KinR {τ : Type} (neg : Bool) (f : Ex τ) (Q : RX τ) : RX τ := fun (t, e, x) => ∃ i, x.2 = .int i ∧ wp (f t e) (KinR2 neg i Q)
theorem w_inR {Q : RX τ} {neg : Bool} {f g : Ex τ} (h : wp (f t e) (KinR neg g Q)) : wp (xInR neg f g t e) Q := wp_bind (h.mono fun (t, e, x) h => by
  obtain ⟨i, h1, h⟩ := h
  refine wp_bind (h.mono fun (t, e, y) h => ?_)
  obtain ⟨j, h2, h⟩ := h
  dsimp only at h1 h2 ⊢
  rw [h1, h2]
  exact ⟨_, rfl, h⟩)
theorem k_inR {Q : RX τ} {neg : Bool} {f : Ex τ} {i : Int} (h : wp (f t e) (KinR2 neg i Q)) : KinR neg f Q (t, e, g, .int i) := ⟨i, rfl, h⟩
theorem k_inR2 {Q : RX τ} {neg : Bool} {i j : Int} (h : Q (t, e, .own, .bl (neg ^^ decide (0 ≤ i ∧ i < j)))) : KinR2 neg i Q (t, e, g, .int j) := ⟨j, rfl, h⟩
theorem whF_more {p : Tx τ} {b : Sx τ} : ∀ {n : Nat} {t : τ} {e : Slots} {r}, whF p b n t e = some r → ∀ m, n ≤ m → whF p b m t e = some r
  | 0, _, _, _, h, _, _ => by cases h
  | n + 1, t, e, r, h, 0, hm => by omega
  | n + 1, t, e, r, h, m + 1, hm => by
    unfold whF at h ⊢
    rw [Option.bind_eq_some_iff] at h
    obtain ⟨⟨t1, e1, k⟩, h1, h⟩ := h
    rw [h1]
    dsimp only [Option.bind_some]
    cases k with
    | false => exact h
    | true =>
      dsimp only at h ⊢
      rw [Option.bind_eq_some_iff] at h
      obtain ⟨⟨t2, e2, fl⟩, h2, h⟩ := h
      rw [h2]
      dsimp only [Option.bind_some]
      cases fl with
      | nx => exact whF_more h m (by omega)
      | ct => exact whF_more h m (by omega)
      | bk => exact h
      | rt b d => exact h
theorem sWhile_get {p : Tx τ} {b : Sx τ} {n : Nat} {t : τ} {e : Slots} {r} (h : whF p b n t e = some r) : sWhile p b t e = some r := by
  have ex : ∃ n, ∃ r, whF p b n t e = some r := ⟨n, r, h⟩
  unfold sWhile
  rw [dif_pos ex]
  obtain ⟨r', h'⟩ := Classical.choose_spec ex
  have a := whF_more h (max n (Classical.choose ex)) (Nat.le_max_left _ _)
  have c := whF_more h' (max n (Classical.choose ex)) (Nat.le_max_right _ _)
  rw [h', ← c, a]
def Kwh {τ : Type} (b : Sx τ) (J : τ → Slots → Prop) (Q : RS τ) : RT τ := fun (t, e, k) => if k = true then wp (b t e) (Kit J Q) else Q (t, e, .nx)
theorem k_wh {Q : RS τ} {s : Sx τ} {J : τ → Slots → Prop} {k : Bool} (h1 : k = true → wp (s t e) (Kit J Q)) (h2 : k = false → Q (t, e, .nx)) : Kwh s J Q (t, e, k) := by
  cases k with
  | true => exact h1 rfl
  | false => exact h2 rfl
/-- a while whose measure falls: I says what holds at n turns left at most -/
theorem w_while {Q : RS τ} {p : Tx τ} {s : Sx τ} (I : Nat → τ → Slots → Prop) : ∀ (n : Nat) {t : τ} {e : Slots}, I n t e →
    (∀ n t e, I n t e → wp (p t e) (Kwh s (fun t e => ∃ m, m < n ∧ I m t e) Q)) → wp (sWhile p s t e) Q := by
  intro n t e h hs
  suffices z : ∃ m r, whF p s m t e = some r ∧ Q r by
    obtain ⟨m, r, h1, h2⟩ := z
    exact ⟨r, sWhile_get h1, h2⟩
  induction n using Nat.strongRecOn generalizing t e with
  | _ n ih =>
    obtain ⟨⟨t1, e1, k⟩, h1, h2⟩ := hs n t e h
    cases k with
    | false => exact ⟨1, (t1, e1, .nx), by unfold whF; rw [h1]; rfl, h2⟩
    | true =>
      obtain ⟨⟨t2, e2, fl⟩, h3, h4⟩ := (show wp (s t1 e1) _ from h2)
      cases fl with
      | bk => exact ⟨1, (t2, e2, .nx), by unfold whF; rw [h1]; dsimp only [Option.bind_some]; rw [h3]; rfl, h4⟩
      | rt b d => exact ⟨1, (t2, e2, .rt b d), by unfold whF; rw [h1]; dsimp only [Option.bind_some]; rw [h3]; rfl, h4⟩
      | nx =>
        obtain ⟨m, hm, hi⟩ := h4
        obtain ⟨m', r, a, b⟩ := ih m hm hi
        exact ⟨m' + 1, r, by unfold whF; rw [h1]; dsimp only [Option.bind_some]; rw [h3]; exact a, b⟩
      | ct =>
        obtain ⟨m, hm, hi⟩ := h4
        obtain ⟨m', r, a, b⟩ := ih m hm hi
        exact ⟨m' + 1, r, by unfold whF; rw [h1]; dsimp only [Option.bind_some]; rw [h3]; exact a, b⟩
theorem k_forRn {Q : RS τ} {asg : GD → Slots → Option Slots} {body : Sx τ} {n : Nat} (h : n < 1000000000000) (k : wp (sFor asg body (rgD 0 n) t e) Q) : KforR asg body Q (t, e, [(g, .int (n : Int))]) := k_forR (rgOf_n h) k
theorem k_LcRn {Q : RX τ} {asg : GD → Slots → Option Slots} {ws : List Nat} {cd : Tx τ} {elt : Ex τ} {n : Nat} {ew : Slots} (h : n < 1000000) (hw : wipeE e ws = ew) (k : wp (sLc asg cd elt ew (rgD 0 n) t) (Klce e Q)) : KLcR asg ws cd elt Q (t, e, [(g, .int (n : Int))]) := k_LcR (rgOf_n (by omega)) (by show n ≤ _; omega) hw k
theorem o_idx_hd {a : Nat} {l : List Nat} {g' : Gr} : sIdx (g, .lst (natsD (a :: l))) (g', .int 0) = some (.own, .int (a : Int)) := o_idx_l (ds := natsD (a :: l)) atI_zero rfl
theorem natsD_get {l : List Nat} {k a : Nat} (h : l[k]? = some a) : (natsD l)[k]? = some (.int (a : Int)) := by rw [List.getElem?_map, h]; rfl
theorem o_idx_tn {l : List Nat} {k a : Nat} {g' : Gr} (h : l[k]? = some a) : sIdx (g, .tup (natsD l)) (g', .int (k : Int)) = some (.own, .int (a : Int)) :=
  o_idx_t (by rw [atI_nat (by rw [List.length_map]; exact (List.getElem?_eq_some_iff.mp h).1), natsD_get h]) rfl
theorem o_idx_ln {l : List Nat} {k a : Nat} {g' : Gr} (h : l[k]? = some a) : sIdx (g, .lst (natsD l)) (g', .int (k : Int)) = some (.own, .int (a : Int)) :=
  o_idx_l (by rw [atI_nat (by rw [List.length_map]; exact (List.getElem?_eq_some_iff.mp h).1), natsD_get h]) rfl
def Kcut {τ : Type} (x : GD) (lo : Option Int) (Q : RX τ) : τ × Slots × Option Int → Prop := fun (t, e, hi) => wp (sCut x lo hi) fun z => Q (t, e, z)
def Klo {τ : Type} (x : GD) (hi : Option (Ex τ)) (Q : RX τ) : τ × Slots × Option Int → Prop := fun (t, e, lo) => wp (evO hi t e) (Kcut x lo Q)
def Ksl {τ : Type} (lo hi : Option (Ex τ)) (Q : RX τ) : RX τ := fun (t, e, x) => wp (evO lo t e) (Klo x hi Q)
theorem w_sl {Q : RX τ} {f : Ex τ} {lo hi : Option (Ex τ)} (h : wp (f t e) (Ksl lo hi Q)) : wp (xSl f lo hi t e) Q := wp_bind (h.mono fun _ h => wp_bind (wp.mono h fun _ h => wp_bind (wp.mono h fun _ h => wp_map h)))
theorem k_sl {Q : RX τ} {lo hi : Option (Ex τ)} (h : wp (evO lo t e) (Klo x hi Q)) : Ksl lo hi Q (t, e, x) := h
def Kiv {τ : Type} (Q : τ × Slots × Option Int → Prop) : RX τ := fun (t, e, x) => ∃ i, x.2 = .int i ∧ Q (t, e, some i)
theorem w_on {Q : τ × Slots × Option Int → Prop} (h : Q (t, e, none)) : wp (evO none t e) Q := ⟨_, rfl, h⟩
theorem w_os {Q : τ × Slots × Option Int → Prop} {f : Ex τ} (h : wp (f t e) (Kiv Q)) : wp (evO (some f) t e) Q := wp_bind (h.mono fun (t, e, x) h => by
  obtain ⟨i, h1, h⟩ := h
  dsimp only at h1 ⊢
  rw [h1]
  exact ⟨_, rfl, h⟩)
theorem k_iv {Q : τ × Slots × Option Int → Prop} {i : Int} (h : Q (t, e, some i)) : Kiv Q (t, e, g, .int i) := ⟨i, rfl, h⟩
theorem k_lo {Q : RX τ} {hi : Option (Ex τ)} {lo : Option Int} (h : wp (evO hi t e) (Kcut x lo Q)) : Klo x hi Q (t, e, lo) := h
theorem k_cut {Q : RX τ} {lo hi : Option Int} (h : sCut x lo hi = some z) (k : Q (t, e, z)) : Kcut x lo Q (t, e, hi) := ⟨z, h, k⟩
theorem cut_hi {ds : List D} {k : Nat} : cutD ds none (some (k : Int)) = ds.take k := by
  unfold cutD HT.sIx
  dsimp only
  rw [if_neg (by omega), List.drop_zero, Nat.sub_zero, Int.toNat_natCast, ← List.take_take, List.take_of_length_le (Nat.le_refl ds.length)]
theorem cut_lo {ds : List D} {k : Nat} : cutD ds (some (k : Int)) none = ds.drop k := by
  unfold cutD HT.sIx
  dsimp only
  rw [if_neg (by omega), Int.toNat_natCast]
  by_cases h : k ≤ ds.length
  · rw [Nat.min_eq_left h, List.take_of_length_le (by rw [List.length_drop]; exact Nat.le_refl _)]
  · rw [Nat.min_eq_right (by omega), Nat.sub_self, List.take_zero, List.drop_of_length_le (by omega)]
theorem cut_m1 {ds : List D} : cutD ds none (some (-1)) = ds.take (ds.length - 1) := by
  unfold cutD HT.sIx
  dsimp only
  rw [if_pos (by decide), List.drop_zero, Nat.sub_zero]
  congr 1
  omega
theorem o_cut_t {ds ds' : List D} {lo hi : Option Int} (h : cutD ds lo hi = ds') (m : immA ds' = true) : sCut (g, .tup ds) lo hi = some (.own, .tup ds') := by
  subst h
  show some (up _ _) = _
  unfold up
  rw [if_pos (show imm (.tup _) = true from m)]
theorem o_cut_l {ds ds' : List D} {lo hi : Option Int} (h : cutD ds lo hi = ds') (m : immA ds' = true) : sCut (g, .lst ds) lo hi = some (.own, .lst ds') := by
  subst h
  show some (upL _ _) = _
  unfold upL
  rw [if_pos m]
theorem natsD_take {l : List Nat} {k : Nat} : (natsD l).take k = natsD (l.take k) := List.map_take.symm
theorem natsD_drop {l : List Nat} {k : Nat} : (natsD l).drop k = natsD (l.drop k) := List.map_drop.symm
theorem o_cut_hin {l : List Nat} {k : Nat} : sCut (g, .tup (natsD l)) none (some (k : Int)) = some (.own, .tup (natsD (l.take k))) := o_cut_t (by rw [cut_hi, natsD_take]) immA_nats
theorem o_cut_lon {l : List Nat} {k : Nat} : sCut (g, .tup (natsD l)) (some (k : Int)) none = some (.own, .tup (natsD (l.drop k))) := o_cut_t (by rw [cut_lo, natsD_drop]) immA_nats
theorem o_cut_hil {l : List Nat} {k : Nat} : sCut (g, .lst (natsD l)) none (some (k : Int)) = some (.own, .lst (natsD (l.take k))) := o_cut_l (by rw [cut_hi, natsD_take]) immA_nats
theorem o_cut_lol {l : List Nat} {k : Nat} : sCut (g, .lst (natsD l)) (some (k : Int)) none = some (.own, .lst (natsD (l.drop k))) := o_cut_l (by rw [cut_lo, natsD_drop]) immA_nats
theorem o_cut_m1l {l : List Nat} : sCut (g, .lst (natsD l)) none (some (-1)) = some (.own, .lst (natsD (l.take (l.length - 1)))) := o_cut_l (by rw [cut_m1, natsD_take, List.length_map]) immA_nats
theorem o_cut_m1t {l : List Nat} : sCut (g, .tup (natsD l)) none (some (-1)) = some (.own, .tup (natsD (l.take (l.length - 1)))) := o_cut_t (by rw [cut_m1, natsD_take, List.length_map]) immA_nats
theorem o_rev_tn {l : List Nat} : sRev (g, .tup (natsD l)) = some (.own, .tup (natsD l.reverse)) := by
  show some (up _ (.tup (natsD l).reverse)) = _
  rw [show (natsD l).reverse = natsD l.reverse from List.map_reverse.symm]
  unfold up
  rw [if_pos (show imm (.tup _) = true from immA_nats)]
theorem szB_of {n : Nat} (h : n ≤ 16777216) : szB n = true := decide_eq_true h
theorem o_cat_t {ds es : List D} {g' : Gr} (hs : ds.length + es.length ≤ 16777216) (m : immA (ds ++ es) = true) : sPlus (g, .tup ds) (g', .tup es) = some (.own, .tup (ds ++ es)) := by
  unfold sPlus
  dsimp only
  rw [if_pos (szB_of hs)]
  unfold up
  rw [if_pos (show imm (.tup _) = true from m)]
theorem eqv_ints : ∀ xs ys : List Int, PyData.eqvAll (pyA (xs.map D.int)) (pyA (ys.map D.int)) = decide (xs = ys)
  | [], [] => by show PyData.eqvAll [] [] = _; rw [PyData.eqvAll]; rfl
  | [], y :: ys => by show PyData.eqvAll [] (_ :: _) = _; rw [PyData.eqvAll]; rfl
  | x :: xs, [] => by show PyData.eqvAll (_ :: _) [] = _; rw [PyData.eqvAll]; rfl
  | x :: xs, y :: ys => by
    show PyData.eqvAll (.int x :: pyA (xs.map D.int)) (.int y :: pyA (ys.map D.int)) = _
    rw [PyData.eqvAll, eqv_ints xs ys, show PyData.eqv (.int x) (.int y) = decide (x = y) from deq_int]
    by_cases a : x = y <;> by_cases b : xs = ys <;> simp [a, b]
theorem deq_intsl {xs ys : List Int} : deq (.lst (xs.map D.int)) (.lst (ys.map D.int)) = decide (xs = ys) := by
  show PyData.eqv (.list _) (.list _) = _
  rw [PyData.eqv]; exact eqv_ints xs ys
theorem o_eq_il {xs ys : List Int} {g' : Gr} {neg : Bool} : sEq neg (g, .lst (xs.map D.int)) (g', .lst (ys.map D.int)) = some (.own, .bl (neg ^^ decide (xs = ys))) := by
  unfold sEq
  dsimp only
  rw [cok_intsl, cok_intsl, deq_intsl]; rfl
def Kj {τ : Type} (J : τ → Slots → Prop) : RS τ := fun (t, e, fl) => match fl with | .nx => J t e | _ => False
theorem k_j {J : τ → Slots → Prop} (h : J t e) : Kj J (t, e, .nx) := h
theorem o_pow' {i j : Int} {g' : Gr} (h : decide (0 ≤ j ∧ j ≤ 1000000 ∧ i.natAbs < 2 ^ 64) = true) : sPow (g, .int i) (g', .int j) = some (.own, .int (i ^ j.toNat)) := by
  unfold sPow sI
  dsimp only
  rw [if_pos h]
theorem o_is_b {a c : Bool} {g' : Gr} {neg : Bool} : sIs neg (g, .bl a) (g', .bl c) = some (.own, .bl (neg ^^ decide (a = c))) := rfl
theorem up_t {ds : List D} (h : immA ds = true) : up g (.tup ds) = (.own, .tup ds) := by unfold up; rw [if_pos (show imm (.tup ds) = true from h)]
end
end Fw
set_option Elab.async false
set_option linter.all false
set_option maxRecDepth 100000
namespace Fw
open PySem L2
structure Tpb where
  cells : List Int
  at_ : Int
  big : Int
  seed : Int
def kvB (T : Addr × Addr) (t : Tpb) : List (Key × V) := [(.inr "cells", .ref T.2), (.inr "at", .int t.at_), (.inr "big", .int t.big), (.inr "seed", .int t.seed)]
instance : Tp Tpb where
  ti T H t := H T.1 = some (.dK (kvB T t)) ∧ H T.2 = some (.lst (t.cells.map V.int)) ∧ T.1 ≠ T.2
  loc := fun {T H H' t} h a b => ⟨by rw [a]; exact h.1, by rw [b]; exact h.2.1, h.2.2⟩
  df := fun {T H t} h => ⟨by rw [h.1]; exact fun z => (nomatch z), by rw [h.2.1]; exact fun z => nomatch z⟩
end Fw
namespace Fw
open PySem L2
end Fw
namespace Fw
open PySem L2
theorem b1 {A : Around} {k : Nat} (r : Room k A) : A.units + 1 < cLine := by
  have := r.un
  omega
end Fw
namespace Fw
open PySem L2
end Fw
set_option Elab.async false
set_option linter.all false
set_option maxRecDepth 100000
namespace Fw
open PySem L2 PySem.Spec PyProof.Rows
section
variable {X : Cx}
variable {c : Cz} {τ : Type} [Tp τ]
def xDct : Ex τ := fun t e => some (t, e, .own, .dct)
instance : Stab (xDct (τ := τ)) := ⟨fun h => by cases h; rfl⟩
theorem w_dct {t : τ} {e : Slots} {Q : RX τ} (k : Q (t, e, .own, .dct)) : wp (xDct t e) Q := ⟨_, rfl, k⟩
end
end Fw
namespace Fw
open PySem L2
end Fw
namespace Fw
open PySem L2
end Fw
namespace Fw
open PySem L2
end Fw
set_option Elab.async false
set_option linter.all false
set_option maxRecDepth 100000
namespace Fw
open PySem L2
end Fw
namespace Fw
open PySem L2
end Fw
set_option Elab.async false
set_option linter.all false
set_option maxRecDepth 100000
namespace Fw
open PySem L2 PySem.Spec PyProof.Rows
section
variable {τ : Type} [Tp τ] {c : Cz}
theorem b0 {A : Around} {k : Nat} (r : Room k A) : A.units < cLine := by
  have := r.un
  omega
def rSortedTP (K : PySem.W.Frag) : List V → Hp → VK → Prop := fun vs H Q => ∃ (a : Addr) (xs : List V) (k : V → Int × Int), vs = [V.ref a] ∧ SqT K H a xs ∧ xs.length ≤ sizeLine ∧ (∀ x ∈ xs, ∃ t, x = V.ref t ∧ H t = some (.tup [.int (k x).1, .int (k x).2])) ∧
  ∀ ys p, SrtO.Srtd (ltP k) ys → SrtO.Stb (ltP k) ys xs → H p = none → Q (.ref p) (upd H p (.lst ys))
theorem cr_sortedTP {X : Cx} : CallR X (.builtin "sorted") (rSortedTP X.K) := by
  intro pins s σ H vs us Q I r h
  obtain ⟨a, xs, k, rfl, hs, hz, hx, q⟩ := h
  obtain ⟨its, rv, tu, _⟩ := I.tuple hs
  rw [Vals.ref1 r]
  obtain ⟨e1, e2⟩ := refs_back rv fun x m => by
    obtain ⟨t, e, _⟩ := hx x m
    exact ⟨t, e⟩
  have hp : ∀ v ∈ its, Srt.IsPair s.heap v (k (backV v)).1 (k (backV v)).2 := fun v hv => by
    obtain ⟨t, rfl⟩ := e2 v hv
    have hm : V.ref t ∈ xs := by rw [e1]; exact List.mem_map.mpr ⟨_, hv, rfl⟩
    obtain ⟨t', e, ht⟩ := hx _ hm
    cases e
    obtain ⟨_, its2, r2, o, ho, hc, n, hd⟩ := I.hok _ _ ht
    obtain ⟨u1, u2, rfl, ri, rj⟩ := vals2 r2
    obtain ⟨t1, rfl⟩ := ri
    obtain ⟨t2, rfl⟩ := rj
    exact ⟨t, o, t1, t2, n, rfl, ho, hc, hd⟩
  refine tup_sorted (SrtO.swo_lex fun u => k (backV u)) tu (by rw [← rv.length]; exact hz) (fun h2 h₁ a ha kk => ?_) fun out h1 h2 => ?_
  · refine SrtO.pairs_sortableO (s := { s with heap := h₁ }) (k := fun u => k (backV u)) (by omega) (fun v hm => (hp v hm).keeps fun b o e _ => (kk b o e).2) fun o e => ?_
    have e' : some o = some (seqObj "list" its.toArray 0) := e.symm.trans ha
    cases e'
    intro c
    exact absurd (Value.type.inj c) (by decide)
  · have h3 : ∀ u ∈ out, ∃ a, u = Value.ref a := fun u hu => e2 u (h2.perm.mem_iff.mp hu)
    obtain ⟨n, hn⟩ := PyProof.Rows.sortedAll_at s.heap its out.toArray
    have hb : SrtO.Stb (ltP k) (out.map backV) xs := by
      rw [e1]
      exact SrtO.Stb.map (ltP_swo k) backV h2
    refine ⟨.ref _, upd H (s.heap.objs.size + 1) (.lst (out.map backV)), I.laid (t' := s.toks) (fun _ _ => PyProof.Rows.sortedAll_old) (Nat.le_succ _) ⟨?_, out, n, vals_back h3, hn⟩, rfl, q _ _ (SrtO.srtd_map h1) hb (I.hok.fresh (Nat.le_succ _))⟩
    rw [hb.len]
    exact hz
def rSrtZ (K : PySem.W.Frag) : List V → Hp → VK → Prop := fun xs H Q => rSortedTP K xs H Q
theorem cr_srtZ {X : Cx} : CallR X (.builtin "sorted") (rSrtZ X.K) := cr_sortedTP
def sSortZ : List GD → Option GD
  | [(_, .tup ds)] => (prsD ds).map fun ns => (.own, .lst ((srtP ns).map pairD))
  | _ => none
theorem opc_sortZ : OpC c τ (rSrtZ c.K) sSortZ := by
  intro H0 res t e fp σ H xs vs q z Q G V1 ev k
  have G' := G.less (res' := res) fun a m => List.mem_append_right _ m
  unfold sSortZ at ev
  split at ev
  · rw [Option.map_eq_some_iff] at ev
    obtain ⟨ns, h1, h2⟩ := ev
    cases h2
    obtain ⟨v, ev, a⟩ := V1.one
    obtain ⟨p, us, hv, ht, hl, hr⟩ := a.rp
    subst hv
    have e := prsD_eq h1
    subst e
    obtain ⟨f, hf, hu⟩ := pair_key hr
    refine ⟨p, us, f, ev, ht.sq, hl, fun u m => ?_, fun ys l hs hst hn => ?_⟩
    · obtain ⟨a, h1, _, h2⟩ := hu u m
      exact ⟨a, h1, h2⟩
    · have hp := hst.perm
      have hy : ∀ u ∈ ys, ∃ a, u = .ref a ∧ ¬ tp c.T a ∧ H a = some (.tup [.int (f u).1, .int (f u).2]) := fun u m => hu u (hp.mem_iff.mp m)
      have srt : ys.map f = srtP ns := by
        refine sortedP_one (((hp.map f).trans (by rw [hf])).trans (srtP_perm ns).symm) ?_ (srtP_sorted ns)
        rw [List.pairwise_map]
        refine hs.imp fun {a b} h => ?_
        have h2 := SrtO.lexB_no.mp (show SrtO.lexB (f b) (f a) = false from h)
        rw [lexP_iff]
        omega
      have o := pair_own (K := c.K) hy
      rw [srt] at o
      obtain ⟨g1, g2⟩ := new_lst (q := []) (res := res) (by exact G') hn (by rw [hp.length_eq]; exact hl) o List.nodup_nil fun a m => nomatch m
      exact k _ _ [l] (SameT.nu hn) g1 g2
  · cases ev
theorem o_sortZ {g : Gr} {ps : List (Int × Int)} : sSortZ [(g, .tup (ps.map pairD))] = some (.own, .lst ((srtP ps).map pairD)) := by
  unfold sSortZ
  dsimp only
  rw [prsD_map]; rfl
end
end Fw
set_option Elab.async false
set_option linter.all false
set_option maxRecDepth 100000
namespace Fw
open PySem L2 PySem.Spec PyProof.Rows
end Fw
namespace Fw
open PySem L2
end Fw
set_option Elab.async false
set_option linter.all false
set_option maxRecDepth 100000
namespace Fw
open PySem L2
end Fw
set_option Elab.async false
set_option linter.all false
set_option maxRecDepth 100000
namespace Fw
open PySem L2
def enD (ds : List D) : List D := ds.mapIdx fun i d => .tup [.int (i : Int), d]
section
variable {τ : Type} [Tp τ]
variable {c : Cz} {res res' q q' q1 q2 : List Addr} {t t' : τ} {e e' : Slots} {fp fp' : FP} {σ σ' : L2.St} {H H' H0 : Hp} {x y z : GD} {v w : V} {xs : List GD} {vs : List V}
def itmsE (x : GD) : Option (List D) := match x.2 with
  | .lst ds => if immA ds || npk x.1 then some ds else none
  | _ => none
def xLcE (asg : GD → Slots → Option Slots) (ws : List Nat) (f : Ex τ) (cd : Tx τ) (elt : Ex τ) : Ex τ := fun t e => (f t e).bind fun (t1, e1, x) => (itmsE x).bind fun ds => (sLc asg cd elt (wipeE e1 ws) ((enD ds).map (up .frz)) t1).map fun (t2, ys) => (t2, e1, jn ys, .lst (ys.map (·.2)))
instance {asg : GD → Slots → Option Slots} {ws : List Nat} {f : Ex τ} {cd : Tx τ} {elt : Ex τ} [Stab f] : Stab (xLcE asg ws f cd elt) := ⟨fun {t e t' e' x} h => by
  unfold xLcE at h
  rw [Option.bind_eq_some_iff] at h
  obtain ⟨_, h1, h⟩ := h
  rw [Option.bind_eq_some_iff] at h
  obtain ⟨_, _, h⟩ := h
  rw [Option.map_eq_some_iff] at h
  obtain ⟨_, _, h⟩ := h
  cases h
  exact Stab.h h1⟩
end
end Fw
set_option Elab.async false
set_option linter.all false
set_option maxRecDepth 100000
namespace Fw
open PySem L2
end Fw
set_option Elab.async false
set_option linter.all false
set_option maxRecDepth 100000
namespace Fw
open PySem L2
theorem RpA.erase {A : Addr → Prop} {K : PySem.W.Frag} {T : Addr × Addr} {H : Hp} : ∀ {ds : List D} {us : List V} (k : Nat), RpA K T H A ds us → RpA K T H A (ds.eraseIdx k) (us.eraseIdx k)
  | [], us, k, h => by rw [show us = [] from h]; exact (rfl : _)
  | d :: ds, us, 0, h => by
    obtain ⟨v, r, e, a, b⟩ := h
    rw [e]; exact b
  | d :: ds, us, k + 1, h => by
    obtain ⟨v, r, e, a, b⟩ := h
    rw [e]
    exact ⟨v, r.eraseIdx k, rfl, a, RpA.erase k b⟩
end Fw
set_option Elab.async false
set_option linter.all false
set_option maxRecDepth 100000
namespace Fw
open PySem L2
/-- one row of a list of one's own is written -/
theorem OwA.row {K : PySem.W.Frag} {T : Addr × Addr} {H : Hp} : ∀ {ds : List D} {r : List Addr} {us : List V} {k : Nat} {row : List D}, OwA K T H ds r us → r.Nodup → ds[k]? = some (.lst row) → immA row = true →
    ∃ (b : Addr) (ws : List V), us[k]? = some (.ref b) ∧ H b = some (.lst ws) ∧ ws.length ≤ sizeLine ∧ RpA K T H (Fr1 T) row ws ∧ b ∈ r ∧
      ∀ (row' : List D) (ws' : List V), immA row' = true → ws'.length ≤ sizeLine → RpA K T H (Fr1 T) row' ws' → OwA K T (upd H b (.lst ws')) (ds.set k (.lst row')) r us
  | [], _, _, _, _, _, _, e, _ => by cases e
  | d :: ds, r, us, 0, row, h, n, e, im => by
    obtain ⟨q1, q2, v, rest, e1, e2, o1, o2⟩ := h
    cases e
    obtain ⟨b, ws, r1, hv, hq, hb, hz, oo⟩ := o1
    have : r1 = [] := OwA.nil_of _ _ _ im oo
    subst this
    subst hq e1 e2 hv
    have nb : b ∉ q2 := fun m => (List.nodup_cons.mp (show (b :: q2).Nodup from n)).1 m
    refine ⟨b, ws, rfl, hb, hz, oo.rp _ _ _ fun x (m : x ∈ []) => (nomatch m), List.mem_append_left _ (.head _), fun row' ws' im' hz' hr' => ?_⟩
    have o' : OwA K T H row' [] ws' := RpA.ow row' ws' im' hr'
    refine ⟨[b], q2, .ref b, rest, rfl, rfl, ⟨b, ws', [], rfl, rfl, upd_same, hz', ?_⟩, ?_⟩
    · exact o'.mono (fun _ _ z => z.updR hb) (fun _ z => z.updR hb) _ _ _ fun x (m : x ∈ []) => (nomatch m)
    · exact o2.mono (fun _ _ z => z.updR hb) (fun _ z => z.updR hb) _ _ _ fun x m => upd_ne fun z => nb (z ▸ m)
  | d :: ds, r, us, k + 1, row, h, n, e, im => by
    obtain ⟨q1, q2, v, rest, e1, e2, o1, o2⟩ := h
    subst e1 e2
    obtain ⟨n1, n2, n3⟩ := List.nodup_append.mp n
    obtain ⟨b, ws, h1, h2, h3, h4, h5, h6⟩ := OwA.row (k := k) o2 n2 e im
    refine ⟨b, ws, h1, h2, h3, h4, List.mem_append_right _ h5, fun row' ws' im' hz' hr' => ?_⟩
    exact ⟨q1, q2, v, rest, rfl, rfl, o1.updR h2 fun a m z => n3 a m b h5 z, h6 row' ws' im' hz' hr'⟩
def rowAt (ds : List D) (k : Int) : Option (Nat × List D) := (L2.ixN ds.length k).bind fun j => match ds[j]? with
  | some (.lst row) => if immA row then some (j, row) else none
  | _ => none
section
variable {τ : Type} [Tp τ]
def sSet2 (i : Nat) (g1 g2 f : Ex τ) : Sx τ := fun t e => (f t e).bind fun (t1, e1, x) => (ownL e1 i).bind fun _ => (g1 t1 e1).bind fun (t2, e2, y1) => (ownL e2 i).bind fun ds1 => match y1.2 with
  | .int k1 => (rowAt ds1 k1).bind fun _ => (g2 t2 e2).bind fun (t3, e3, y2) => (ownL e3 i).bind fun ds => match y2.2 with
    | .int k2 => (rowAt ds k1).bind fun (j, row) => (L2.ixN row.length k2).bind fun m => if imm x.2 then some (t3, e3.set i (some (true, .lst (ds.set j (.lst (row.set m x.2))))), .nx) else none
    | _ => none
  | _ => none
theorem rowAt_ok {ds : List D} {k : Int} {j : Nat} {row : List D} (h : rowAt ds k = some (j, row)) : L2.ixN ds.length k = some j ∧ ds[j]? = some (.lst row) ∧ immA row = true := by
  unfold rowAt at h
  rw [Option.bind_eq_some_iff] at h
  obtain ⟨m, hm, h⟩ := h
  split at h
  · rename_i r hr
    split at h
    · rename_i hi; cases h; exact ⟨hm, hr, hi⟩
    · cases h
  · cases h
theorem RpA.set {A : Addr → Prop} {K : PySem.W.Frag} {T : Addr × Addr} {H : Hp} {d : D} {v : V} (r : Rp K T H A d v) : ∀ {ds : List D} {us : List V} (k : Nat), RpA K T H A ds us → RpA K T H A (ds.set k d) (us.set k v)
  | [], us, k, h => by rw [show us = [] from h]; exact (rfl : _)
  | x :: ds, us, 0, h => by
    obtain ⟨w, s, e, a, b⟩ := h
    rw [e]; exact ⟨v, s, rfl, r, b⟩
  | x :: ds, us, k + 1, h => by
    obtain ⟨w, s, e, a, b⟩ := h
    rw [e]
    exact ⟨w, s.set k v, rfl, a, RpA.set r k b⟩
theorem immA_set {d : D} (hd : imm d = true) : ∀ {ds : List D} (k : Nat), immA ds = true → immA (ds.set k d) = true
  | [], _, _ => rfl
  | x :: ds, 0, h => by
    have h : (imm x && immA ds) = true := h
    rw [Bool.and_eq_true] at h
    show (imm d && immA ds) = true
    rw [hd, h.2]; rfl
  | x :: ds, k + 1, h => by
    have h : (imm x && immA ds) = true := h
    rw [Bool.and_eq_true] at h
    show (imm x && immA (ds.set k d)) = true
    rw [h.1, immA_set hd k h.2]; rfl
theorem s_set2 {c : Cz} {X : Cx} {i : Nat} {nm : Str} {ix1 ix2 ex : Expr} {f g1 g2 : Ex τ} {p p1 p' pos : Pos} (hk : X.K = c.K) (hpl : PlainIx ix1) (hn : PE X (.Name nm p) (tVar i)) (hg1 : PE X ix1 (rd c g1)) (hg2 : PE X ix2 (rd c g2)) (ha : PE X ex (rd c f)) (hs : swapsWithSole [.Subscript (.Subscript (.Name nm p) ix1 p1) ix2 p'] ex pos.line X.env = pure false := by rfl) (hw : swappedStores [.Subscript (.Subscript (.Name nm p) ix1 p1) ix2 p'] ex X.env = pure none := by rfl)
    (h1 : (assignEach [.Subscript (.Subscript (.Name nm p) ix1 p1) ix2 p'] X.env).map (·.2) = [assign (.Subscript (.Subscript (.Name nm p) ix1 p1) ix2 p') X.env] := by rfl)
    (has : ∀ v, assign (.Subscript (.Subscript (.Name nm p) ix1 p1) ix2 p') X.env v = (do
      let ov ← holding [v] (eval (.Subscript (.Name nm p) ix1 p1) X.env)
      let iv ← holding [v, ov] (eval ix2 X.env)
      standAt p'
      holding [v, ov, iv] (setItem ov iv v)
      release [v, ov, iv] []) := by intro _; rfl) : PS X (.Assign [.Subscript (.Subscript (.Name nm p) ix1 p1) ix2 p'] ex pos) (rdS c (sSet2 i g1 g2 f)) :=
  imS (ps_asg ha (pg_sub (pe_ix ix_list hn hg1 hpl) hg2 set_list has) hs hw h1) fun W σ H h => by
  obtain ⟨H0, t, e, fp, t', e', fl, G, ev, k⟩ := h
  unfold sSet2 at ev
  rw [Option.bind_eq_some_iff] at ev
  obtain ⟨⟨t1, e1, x⟩, ev1, ev⟩ := ev
  rw [Option.bind_eq_some_iff] at ev
  obtain ⟨ds0, ev0, ev⟩ := ev
  rw [Option.bind_eq_some_iff] at ev
  obtain ⟨⟨t2, e2, y1⟩, ev2, ev⟩ := ev
  rw [Option.bind_eq_some_iff] at ev
  obtain ⟨ds1, evd1, ev⟩ := ev
  obtain ⟨gy1, dy1⟩ := y1
  split at ev
  case h_2 => cases ev
  rename_i k1 hk1
  dsimp only at hk1
  subst hk1
  rw [Option.bind_eq_some_iff] at ev
  obtain ⟨⟨j1, row1⟩, er1, ev⟩ := ev
  rw [Option.bind_eq_some_iff] at ev
  obtain ⟨⟨t3, e3, y2⟩, ev3, ev⟩ := ev
  rw [Option.bind_eq_some_iff] at ev
  obtain ⟨ds, evd, ev⟩ := ev
  obtain ⟨gy2, dy2⟩ := y2
  split at ev
  case h_2 => cases ev
  rename_i k2 hk2
  dsimp only at hk2
  subst hk2
  rw [Option.bind_eq_some_iff] at ev
  obtain ⟨⟨j, row⟩, er, ev⟩ := ev
  rw [Option.bind_eq_some_iff] at ev
  obtain ⟨m, hm, ev⟩ := ev
  split at ev
  case isFalse => cases ev
  rename_i im
  cases ev
  obtain ⟨f1, f2, f3⟩ := rowAt_ok er1
  obtain ⟨r1, r2, r3⟩ := rowAt_ok er
  refine ⟨H0, [], t, e, fp, t1, e1, x, G, ev1, fun H1 fp1 v q s1 u1 G1 V1 => ?_⟩
  obtain ⟨a, us0, _, hv, _⟩ := own_at G1 (ownL_ok ev0)
  refine ⟨.ref a, hv, H0, _, t1, e1, fp1, t2, e2, _, G1, ev2, fun H2 fp2 w q2 s2 u2 G2 V2 => ?_⟩
  obtain ⟨a', us, r, h1, h2, h3, h4, h5, h6, h7⟩ := own_at G2 (ownL_ok evd1)
  rw [hv] at h1
  cases h1
  have hw : w = .int k1 := V2.rp
  subst hw
  obtain ⟨b, ws, b1, b2, b3, b4, b5, b6⟩ := h4.row h7 f2 f3
  refine ⟨a, us, k1, .ref b, rfl, rfl, by rw [hk]; exact .inl (.inl h2), ?_, ?_⟩
  · unfold L2.atI
    rw [h4.len, f1]; exact b1
  refine ⟨H0, _, t2, e2, fp2, t', e3, _, G2, ev3, fun H3 fp3 w3 q3 s3 u3 G3 V3 => ?_⟩
  have hw3 : w3 = .int k2 := V3.rp
  subst hw3
  have G4 : Good c H0 [] t' e3 fp3 σ H3 := G3.less fun a m => nomatch m
  obtain ⟨a'', us', r', l1, l2, l3, l4, l5, l6, l7⟩ := own_at G4 (ownL_ok evd)
  rw [hv] at l1
  cases l1
  have na : ¬ tp c.T a := (G2.nw i a (by rw [h5]; exact .head _)).2.1
  have e1 : H3 a = some (.lst us) := s3 a _ na h2
  rw [l2] at e1
  cases e1
  have ej : j = j1 := by
    rw [l4.len.symm.trans h4.len] at r1
    rw [r1] at f1
    exact Option.some.inj f1
  subst ej
  obtain ⟨b', ws', c1, c2, c3, c4, c5, c6⟩ := l4.row l7 r2 r3
  rw [b1] at c1
  cases c1
  obtain ⟨p1, p2, p3, p4⟩ := L2.ixN_seq hm
  have Vx := (V1.step (s2.tr s3) (u2.tr u3)).rp
  have o2 := c6 (row.set m x.2) (ws'.set m v) (immA_set im m r3) (by rw [List.length_set]; exact c3) (RpA.set Vx m c4)
  refine ⟨b, ws', k2, m, rfl, rfl, c2, by rw [c4.len]; exact hm, ?_⟩
  refine k _ _ _ (mut_ok (q := []) (q' := a :: r') (v := .ref a) (d' := .lst (ds.set j (.lst (row.set m x.2)))) G4 (ownL_ok evd) (by rw [l5]; exact List.mem_cons_of_mem _ c5) c2 hv ⟨a, us, r', rfl, rfl, ?_, l3, o2⟩ (List.nodup_cons.mpr ⟨l6, l7⟩) (fun y my => .inl (by rw [l5]; exact my)) fun y my => nomatch my)
  rw [upd_ne fun z => l6 (by rw [z]; exact c5)]
  exact l2
end
end Fw
set_option Elab.async false
set_option linter.all false
set_option maxRecDepth 100000
namespace Fw
open PySem L2
end Fw
set_option Elab.async false
set_option linter.all false
set_option maxRecDepth 100000
namespace Fw
open PySem L2
theorem SameT.updB {T : Addr × Addr} {H H' : Hp} {D : Addr} {o : HO} (s : SameT T H H') : SameT T (upd H D o) (upd H' D o) := fun b u n e => by
  by_cases z : b = D
  · subst z; rw [upd_same] at e ⊢; exact e
  · rw [upd_ne z] at e ⊢; exact s b u n e
theorem upd_over {H : Hp} {a : Addr} {o u : HO} : upd (upd H a o) a u = upd H a u := by
  funext b
  by_cases z : b = a
  · rw [z, upd_same, upd_same]
  · rw [upd_ne z, upd_ne z, upd_ne z]
theorem SameT.selfD {T : Addr × Addr} {H : Hp} {D : Addr} {o : HO} (h : H D = some o) : SameT T (upd H D o) H := fun b u n e => by
  by_cases z : b = D
  · subst z; rw [upd_same] at e; rw [h]; exact e
  · rw [upd_ne z] at e; exact e
section
variable {τ : Type} [Tp τ]
variable {c : Cz} {res res' q q' q1 q2 : List Addr} {t t' : τ} {e e' : Slots} {fp fp' : FP} {σ σ' : L2.St} {H H' H0 : Hp} {x y z : GD} {v w : V} {xs : List GD} {vs : List V}
def sLcI (asg : GD → Slots → Option Slots) (cd : Tx τ) (elt : Ex τ) (ew : Slots) : List GD → τ → Option (τ × List D)
  | [], t => some (t, [])
  | x :: xs, t => (asg x ew).bind fun e1 => (cd t e1).bind fun (t2, e2, b) => match b with
    | true => (elt t2 e2).bind fun (t3, _, y) => if imm y.2 then (sLcI asg cd elt ew xs t3).map fun (t4, ys) => (t4, y.2 :: ys) else none
    | false => sLcI asg cd elt ew xs t2
theorem sLcI_imm {asg : GD → Slots → Option Slots} {cd : Tx τ} {elt : Ex τ} {ew : Slots} : ∀ {xs : List GD} {t t' : τ} {ys : List D}, sLcI asg cd elt ew xs t = some (t', ys) → immA ys = true
  | [], t, t', ys, h => by cases h; rfl
  | x :: xs, t, t', ys, h => by
    unfold sLcI at h
    rw [Option.bind_eq_some_iff] at h
    obtain ⟨e1, h1, h⟩ := h
    rw [Option.bind_eq_some_iff] at h
    obtain ⟨⟨t2, e2, b⟩, h2, h⟩ := h
    cases b with
    | false => exact sLcI_imm h
    | true =>
      dsimp only at h
      rw [Option.bind_eq_some_iff] at h
      obtain ⟨⟨t3, e3, y⟩, h3, h⟩ := h
      dsimp only at h
      split at h
      · rename_i hy
        rw [Option.map_eq_some_iff] at h
        obtain ⟨⟨t4, r⟩, h4, h⟩ := h
        cases h
        show (imm y.2 && immA r) = true
        rw [hy, sLcI_imm h4]; rfl
      · cases h
abbrev FD (T : Addr × Addr) (D : Addr) : Addr → Prop := Fz T [D] fun _ => []
theorem RpA.updD {K : PySem.W.Frag} {T : Addr × Addr} {D : Addr} {us : List V} {o : HO} (h : H D = some (.lst us)) {ds : List Fw.D} {vs : List V} (r : RpA K T H (FD T D) ds vs) : RpA K T (upd H D o) (FD T D) ds vs :=
  RpA.mono (fun a ws z => z.updR h) (fun a z => z.updR h) (fun a ws z => ⟨z.1, by rw [upd_ne fun w => z.1.2.1 (by rw [w]; exact List.mem_cons_self)]; exact z.2⟩) _ _ r
theorem RpA.stepD {K : PySem.W.Frag} {T : Addr × Addr} {D : Addr} {ds : List Fw.D} {vs : List V} (r : RpA K T H (FD T D) ds vs) (s : SameT T H H') : RpA K T H' (FD T D) ds vs := r.same s fun a z => ⟨z.1, fun _ => z⟩
theorem imm_D {d : Fw.D} {D : Addr} (V : VOk c H0 res fp H x v q) (h : imm x.2 = true) : Rp c.K c.T H (FD c.T D) x.2 v := (VOk.imm (c := c) (H0 := H0) (res := [D]) (fp := fun _ => []) V.rp h).frz fun z => nomatch z
theorem Good.weak0 {H0' : Hp} (G : Good c H0 res t e fp σ H) (s : ∀ a o, H0' a = some o → H0 a = some o) (n : ∀ a, H0 a = none → H0' a = none) : Good c H0' res t e fp σ H where
  s0 := fun a o k h => G.s0 a o k (s a o h)
  ti := G.ti
  len := G.len
  ow := G.ow
  fz := G.fz
  fe := G.fe
  nd := G.nd
  dj := G.dj
  nw := fun i a m => ⟨n a (G.nw i a m).1, (G.nw i a m).2⟩
  rs := G.rs
theorem VOk.weak0 {H0' : Hp} (V : VOk c H0 res fp H x v q) (n : ∀ a, H0 a = none → H0' a = none) : VOk c H0' res fp H x v q := by
  obtain ⟨g, d⟩ := x
  cases g with
  | own => exact ⟨V.1, V.2.1, fun a m => ⟨n a (V.2.2 a m).1, (V.2.2 a m).2⟩⟩
  | frz => exact V
  | pk => exact V
/-- the inner walk -/
theorem lcI_run {J : It} {D : Addr} {us : List V} {P : Hp → Prop} (Wd : Wk c J D us P) {asg : GD → Slots → Option Slots} {cd : Tx τ} {elt : Ex τ} [StabT cd] [Stab elt] {is ws : List Nat} {ds zs rest : List Fw.D} {acc : List V} {H1 : Hp} {Nx : Hp → Prop}
    (his : ∀ j ∈ is, j ∈ ws) (G : Good c H0 res t e fp σ H1) (m : D ∈ res) (nD : ¬ tp c.T D) (D0 : H0 D = none) (hd : H1 D = some (.lst acc)) (IA : RpA c.K c.T H1 (FD c.T D) zs acc) (hP : P H1) (hu : us.length = ds.length)
    (hi : ∀ (i : Nat) d u, ds[i]? = some d → us[i]? = some u → VOk c H0 res fp H1 (up .frz d) u []) (ev : sLcI asg cd elt (wipeE e ws) (ds.map (up .frz)) t = some (t', rest)) (hz : zs.length + rest.length ≤ sizeLine)
    (k : ∀ H' acc', SameT c.T (upd H1 D (.lst acc')) H' → H' D = some (.lst acc') → Good c H0 res t' e fp σ H' → RpA c.K c.T H' (FD c.T D) (zs ++ rest) acc' → Nx H') :
    ∃ W1 : Nat → Nat → Hp → Prop, (∃ m, W1 0 m H1) ∧ ∀ j k H, W1 j k H → (J.stop j H ∧ Nx H) ∨ (J.go j H ∧ ∃ Nx1 : Hp → Prop, (∀ H', Nx1 H' → ∃ k', k' < k ∧ W1 (j + 1) k' H') ∧
      ∀ x H', J.yld j H x H' → rdGr c τ asg is x (L2.wipe σ ws) H' fun σ3 H5 => L2.wipe σ3 ws = L2.wipe σ ws ∧ rdT c cd σ3 H5 fun b H6 =>
        if b = true then rd c elt σ3 H6 fun y H7 => ∃ acc, H7 D = some (.lst acc) ∧ acc.length < sizeLine ∧ Nx1 (upd H7 D (.lst (acc ++ [y]))) else Nx1 H6) := by
  let S : Nat → Hp → Prop := fun i H => ∃ t acc' zs' rest', Good c H0 res t e fp σ H ∧ H D = some (.lst acc') ∧ RpA c.K c.T H (FD c.T D) zs' acc' ∧ P H ∧ SameT c.T (upd H1 D (.lst acc')) H ∧
    (∀ (j : Nat) d u, ds[j]? = some d → us[j]? = some u → VOk c H0 res fp H (up .frz d) u []) ∧ sLcI asg cd elt (wipeE e ws) ((ds.map (up .frz)).drop i) t = some (t', rest') ∧ zs ++ rest = zs' ++ rest'
  refine ⟨fun i m H => m = us.length - i ∧ i ≤ us.length ∧ S i H, ⟨us.length, rfl, Nat.zero_le _, t, acc, zs, rest, G, hd, IA, hP, SameT.selfD hd, hi, ev, rfl⟩, ?_⟩
  rintro i m' H ⟨rfl, hle, t1, acc1, zs1, rest1, G1, hd1, IA1, p1, sm, it, ev1, ey⟩
  by_cases hlt : i < us.length
  · obtain ⟨d, hdd⟩ : ∃ d, ds[i]? = some d := ⟨ds[i]'(by omega), by simp [show i < ds.length by omega]⟩
    obtain ⟨u, hu1⟩ : ∃ u, us[i]? = some u := ⟨us[i], by simp [hlt]⟩
    rw [drop_cons (a := up .frz d) (by rw [List.getElem?_map, hdd]; rfl)] at ev1
    unfold sLcI at ev1
    rw [Option.bind_eq_some_iff] at ev1
    obtain ⟨e1, h1, ev2⟩ := ev1
    rw [Option.bind_eq_some_iff] at ev2
    obtain ⟨⟨t2, e2, b⟩, h2, ev3⟩ := ev2
    refine .inr ⟨Wd.go i H p1 hlt, S (i + 1), fun H' z => ⟨us.length - (i + 1), by omega, rfl, hlt, z⟩, fun x H' yl => ?_⟩
    obtain ⟨y1, y2⟩ := Wd.yld i H x H' hlt p1 yl
    rw [hu1] at y2
    cases y2
    subst y1
    have Gw := (G1.wipe ws).lock
    generalize hHL : lk H' _ = HL at Gw
    have item := it i d u hdd hu1
    have V : VOk c HL (res ++ ws.flatMap fp) _ H' (up .frz d) u [] := up_ok (d := d) (A := Fz c.T (res ++ ws.flatMap fp) (fun i => if i ∈ ws then [] else fp i)) (fun _ => rfl) (fun _ z => z.1) ((item.frz up_frz).same SameT.rf fun a z => ⟨z.1, fun _ => ⟨z.1, fun m => by
      rcases List.mem_append.mp m with m | m
      · exact z.2.1 m
      · obtain ⟨j, _, m⟩ := List.mem_flatMap.mp m
        exact z.2.2 j m, fun j m => by
      dsimp only at m
      by_cases n : j ∈ ws
      · rw [if_pos n] at m; cases m
      · rw [if_neg n] at m; exact z.2.2 j m⟩⟩)
    refine ⟨HL, _, t1, wipeE e ws, _, up .frz d, e1, Gw, V, up_frz, h1, fun σ2 fp2 l2 o2 G2 s2 f2 => ⟨wipe_same his l2 o2, ?_⟩⟩
    refine ⟨HL, _, t1, e1, fp2, t2, e2, b, G2, h2, fun H3 fp3 s3 u3 G3 => ?_⟩
    have e21 : e2 = e1 := StabT.h h2
    subst e21
    cases b with
    | false =>
      dsimp only
      rw [if_neg Bool.false_ne_true]
      have G4 : Good c H0 res t2 e fp σ H3 := G1.to (q := []) s3 G3.ti fun a m => nomatch m
      exact ⟨t2, acc1, zs1, rest1, G4, s3 D _ nD hd1, IA1.stepD s3, Wd.same _ _ p1 s3, sm.tr s3, fun j d u a b => (it j d u a b).step s3 Sub.rf, ev3, ey⟩
    | true =>
      dsimp only
      rw [if_pos rfl]
      dsimp only at ev3
      rw [Option.bind_eq_some_iff] at ev3
      obtain ⟨⟨t3, e3, y⟩, h3, ev4⟩ := ev3
      have e32 : e3 = e2 := Stab.h h3
      subst e32
      dsimp only at ev4
      split at ev4
      rotate_left
      · cases ev4
      rename_i hy
      rw [Option.map_eq_some_iff] at ev4
      obtain ⟨⟨t4, r4⟩, ev5, er⟩ := ev4
      cases er
      refine ⟨HL, _, t2, e3, fp3, t3, e3, y, G3, h3, fun H4 fp4 v q1 s4 u4 G4 V4 => ?_⟩
      have s34 := s3.tr s4
      have hd4 : H4 D = some (.lst acc1) := s34 D _ nD hd1
      have G5 : Good c H0 res t3 e fp σ H4 := G1.to (q := []) s34 G4.ti fun a m => nomatch m
      have ry : Rp c.K c.T H4 (FD c.T D) y.2 v := imm_D (d := y.2) V4 hy
      have lz : acc1.length = zs1.length := IA1.len
      have lt : acc1.length < sizeLine := by
        have := congrArg List.length ey
        rw [List.length_append, List.length_append, List.length_cons] at this
        omega
      refine ⟨acc1, hd4, lt, t3, acc1 ++ [v], zs1 ++ [y.2], r4, G5.updR m hd4 D0, upd_same, ?_, Wd.upd _ _ _ (Wd.same _ _ p1 s34) hd4, ?_, fun j d u a b => ?_, ev5, by rw [ey, List.append_assoc]; rfl⟩
      · exact RpA.app ((IA1.stepD s34).updD hd4) (RpA.updD hd4 (show RpA c.K c.T H4 (FD c.T D) [y.2] [v] from ⟨v, [], rfl, ry, rfl⟩))
      · have := (sm.tr s34).updB (D := D) (o := .lst (acc1 ++ [v]))
        rw [upd_over] at this
        exact this
      · exact ((it j d u a b).step s34 Sub.rf).updR m hd4 up_frz
  · have : i = us.length := by omega
    subst this
    rw [List.drop_eq_nil_of_le (by rw [List.length_map]; omega)] at ev1
    cases ev1
    rw [List.append_nil] at ey
    refine .inl ⟨Wd.stop _ H p1 (Nat.le_refl _), k H acc1 sm hd1 G1 ?_⟩
    rw [ey]
    exact IA1
/-- an inner source -/
abbrev In (τ : Type) := τ → Slots → Option (τ × Slots × List GD)
structure InP (τ : Type) [Tp τ] (c : Cz) (wi : TI) (inn : In τ) : Prop where
  run : ∀ {H0 : Hp} {res : List Addr} {t t1 : τ} {e e1 : Slots} {fp : FP} {σ : L2.St} {H : Hp} {xs : List GD} {Q : It → Hp → Prop}, Good c H0 res t e fp σ H → inn t e = some (t1, e1, xs) →
    (∀ (J : It) (H1 : Hp) (fp1 : FP) (ds : List Fw.D) (us : List V), SameT c.T H H1 → Good c H0 res t1 e1 fp1 σ H1 → xs = ds.map (up .frz) → us.length = ds.length → (∀ (i : Nat) d u, ds[i]? = some d → us[i]? = some u → VOk c H0 res fp1 H1 (up .frz d) u []) →
      (∀ D acc, H1 D = some (.lst acc) → ∃ P, Wk c J D us P ∧ P H1) → Q J H1) → wi σ H Q
def sLc2 (asg : GD → Slots → Option Slots) (cd : Tx τ) (inn : In τ) (ws1 : List Nat) (asg1 : GD → Slots → Option Slots) (cd1 : Tx τ) (elt : Ex τ) (ew : Slots) : List GD → τ → Option (τ × List D)
  | [], t => some (t, [])
  | x :: xs, t => (asg x ew).bind fun e1 => (cd t e1).bind fun (t2, e2, b) => match b with
    | true => (inn t2 e2).bind fun (t3, e3, ys) => (sLcI asg1 cd1 elt (wipeE e3 ws1) ys t3).bind fun (t4, r) => (sLc2 asg cd inn ws1 asg1 cd1 elt ew xs t4).map fun (t5, rs) => (t5, r ++ rs)
    | false => sLc2 asg cd inn ws1 asg1 cd1 elt ew xs t2
theorem lc2_run {J : It} {D : Addr} {us : List V} {P : Hp → Prop} (Wd : Wk c J D us P) {asg asg1 : GD → Slots → Option Slots} {cd cd1 : Tx τ} {elt : Ex τ} {inn : In τ} {wi1 : TI} [StabT cd] [StabT cd1] [Stab elt] {is ws is1 ws1 : List Nat} {ds ys : List Fw.D} {Q : VK} {H1 : Hp}
    (IP : InP τ c wi1 inn) (his : ∀ j ∈ is, j ∈ ws) (his1 : ∀ j ∈ is1, j ∈ ws1) (G : Good c H0 res t e fp σ H1) (hD : H1 D = none) (hP : P (upd H1 D (.lst []))) (hu : us.length = ds.length)
    (hi : ∀ (i : Nat) d u, ds[i]? = some d → us[i]? = some u → VOk c H0 res fp H1 (up .frz d) u []) (ev : sLc2 asg cd inn ws1 asg1 cd1 elt (wipeE e ws) (ds.map (up .frz)) t = some (t', ys)) (hz : ys.length ≤ sizeLine)
    (k : ∀ H' q, SameT c.T H1 H' → Good c H0 (q ++ res) t' e fp σ H' → VOk c H0 res fp H' (.own, .lst ys) (.ref D) q → Q (.ref D) H') :
    ∃ Wi : Nat → Nat → Hp → Prop, (∃ m, Wi 0 m (upd H1 D (.lst []))) ∧ ∀ i m H, Wi i m H → (J.stop i H ∧ Q (.ref D) H) ∨ (J.go i H ∧ ∃ Nx : Hp → Prop, (∀ H', Nx H' → ∃ m', m' < m ∧ Wi (i + 1) m' H') ∧
      ∀ x H', J.yld i H x H' → rdGr c τ asg is x (L2.wipe σ ws) H' fun σ2 H2 => L2.wipe σ2 ws = L2.wipe σ ws ∧ rdT c cd σ2 H2 fun b H3 =>
        if b = true then wi1 σ2 H3 fun J1 H4 => ∃ W1 : Nat → Nat → Hp → Prop, (∃ m, W1 0 m H4) ∧ ∀ j k H, W1 j k H →
          (J1.stop j H ∧ Nx H) ∨ (J1.go j H ∧ ∃ Nx1 : Hp → Prop, (∀ H', Nx1 H' → ∃ k', k' < k ∧ W1 (j + 1) k' H') ∧ ∀ x H', J1.yld j H x H' → rdGr c τ asg1 is1 x (L2.wipe σ2 ws1) H' fun σ3 H5 => L2.wipe σ3 ws1 = L2.wipe σ2 ws1 ∧ rdT c cd1 σ3 H5 fun b H6 =>
            if b = true then rd c elt σ3 H6 fun y H7 => ∃ acc, H7 D = some (.lst acc) ∧ acc.length < sizeLine ∧ Nx1 (upd H7 D (.lst (acc ++ [y]))) else Nx1 H6)
        else Nx H3) := by
  have nD : ¬ tp c.T D := G.ntp hD
  have D0 : H0 D = none := G.h0 hD
  let S : Nat → Hp → Prop := fun i H => ∃ t acc zs rest, Good c H0 (D :: res) t e fp σ H ∧ H D = some (.lst acc) ∧ RpA c.K c.T H (FD c.T D) zs acc ∧ immA zs = true ∧ P H ∧ SameT c.T H1 H ∧
    (∀ (j : Nat) d u, ds[j]? = some d → us[j]? = some u → VOk c H0 (D :: res) fp H (up .frz d) u []) ∧ sLc2 asg cd inn ws1 asg1 cd1 elt (wipeE e ws) ((ds.map (up .frz)).drop i) t = some (t', rest) ∧ ys = zs ++ rest
  refine ⟨fun i m H => m = us.length - i ∧ i ≤ us.length ∧ S i H, ⟨us.length, rfl, Nat.zero_le _, t, [], [], ys, G.newR hD, upd_same, rfl, rfl, hP, SameT.nu hD, fun j d u h1 h2 => ?_, ev, rfl⟩, ?_⟩
  · have V := hi j d u h1 h2
    have h := (V.frz up_frz).same (A' := Fz c.T (D :: res) fp) (SameT.nu (o := .lst []) hD) fun a z => ⟨z.1, fun n => ⟨z.1, fun m => (List.mem_cons.mp m).elim (fun w => n (by rw [w]; exact hD)) z.2.1, z.2.2⟩⟩
    exact up_ok (d := d) (fun _ => rfl) (fun _ z => z.1) h
  rintro i m H ⟨rfl, hle, t1, acc, zs, rest, G1, hd, IA, iz, p1, sm, it, ev1, ey⟩
  by_cases hlt : i < us.length
  · obtain ⟨d, hd1⟩ : ∃ d, ds[i]? = some d := ⟨ds[i]'(by omega), by simp [show i < ds.length by omega]⟩
    obtain ⟨u, hu1⟩ : ∃ u, us[i]? = some u := ⟨us[i], by simp [hlt]⟩
    rw [drop_cons (a := up .frz d) (by rw [List.getElem?_map, hd1]; rfl)] at ev1
    unfold sLc2 at ev1
    rw [Option.bind_eq_some_iff] at ev1
    obtain ⟨e1, h1, ev2⟩ := ev1
    rw [Option.bind_eq_some_iff] at ev2
    obtain ⟨⟨t2, e2, b⟩, h2, ev3⟩ := ev2
    refine .inr ⟨Wd.go i H p1 hlt, S (i + 1), fun H' z => ⟨us.length - (i + 1), by omega, rfl, hlt, z⟩, fun x H' yl => ?_⟩
    obtain ⟨y1, y2⟩ := Wd.yld i H x H' hlt p1 yl
    rw [hu1] at y2
    cases y2
    subst y1
    have Gw := (G1.wipe ws).lock
    have nfD : ∀ i, D ∉ (fun i => if i ∈ ws then [] else fp i) i := fun i z => by
      dsimp only at z
      split at z
      · cases z
      · exact (G1.nw i D z).2.2 List.mem_cons_self
    generalize hHL : lk H' _ = HL at Gw
    have item := it i d u hd1 hu1
    have V : VOk c HL ((D :: res) ++ ws.flatMap fp) _ H' (up .frz d) u [] := up_ok (d := d) (A := Fz c.T ((D :: res) ++ ws.flatMap fp) (fun i => if i ∈ ws then [] else fp i)) (fun _ => rfl) (fun _ z => z.1) ((item.frz up_frz).same SameT.rf fun a z => ⟨z.1, fun _ => ⟨z.1, fun m => by
      rcases List.mem_append.mp m with m | m
      · exact z.2.1 m
      · obtain ⟨j, _, m⟩ := List.mem_flatMap.mp m
        exact z.2.2 j m, fun j m => by
      dsimp only at m
      by_cases n : j ∈ ws
      · rw [if_pos n] at m; cases m
      · rw [if_neg n] at m; exact z.2.2 j m⟩⟩)
    refine ⟨HL, _, t1, wipeE e ws, _, up .frz d, e1, Gw, V, up_frz, h1, fun σ2 fp2 l2 o2 G2 s2 f2 => ⟨wipe_same his l2 o2, ?_⟩⟩
    refine ⟨HL, _, t1, e1, fp2, t2, e2, b, G2, h2, fun H3 fp3 s3 u3 G3 => ?_⟩
    have e21 : e2 = e1 := StabT.h h2
    subst e21
    cases b with
    | false =>
      dsimp only
      rw [if_neg Bool.false_ne_true]
      have G4 : Good c H0 (D :: res) t2 e fp σ H3 := G1.to (q := []) s3 G3.ti fun a m => nomatch m
      exact ⟨t2, acc, zs, rest, G4, s3 D _ nD hd, IA.stepD s3, iz, Wd.same _ _ p1 s3, sm.tr s3, fun j d u a b => (it j d u a b).step s3 Sub.rf, ev3, ey⟩
    | true =>
      dsimp only
      rw [if_pos rfl]
      dsimp only at ev3
      rw [Option.bind_eq_some_iff] at ev3
      obtain ⟨⟨t3, e3, xs1⟩, h3, ev4⟩ := ev3
      rw [Option.bind_eq_some_iff] at ev4
      obtain ⟨⟨t4, r⟩, h4, ev5⟩ := ev4
      rw [Option.map_eq_some_iff] at ev5
      obtain ⟨⟨t5, rs⟩, h5, er⟩ := ev5
      cases er
      let HD : Hp := fun a => if a = D then none else HL a
      have hn : ∀ a, HL a = none → HD a = none := fun a h => by
        show (if a = D then none else HL a) = none
        split
        · rfl
        · exact h
      have G3 : Good c HD _ _ _ _ _ _ := G3.weak0 (fun a o h => by
        have h : (if a = D then none else HL a) = some o := h
        split at h
        · cases h
        · exact h) hn
      refine IP.run G3 h3 fun J1 H4 fp4 ds1 us1 s4 G4 ex hu4 hi4 hW => ?_
      have s34 := s3.tr s4
      have hd4 : H4 D = some (.lst acc) := s34 D _ nD hd
      obtain ⟨P1, Wd1, p4⟩ := hW D acc hd4
      subst ex
      dsimp only at ey
      have lr : zs.length + r.length ≤ sizeLine := by
        rw [ey, List.length_append, List.length_append] at hz
        omega
      refine lcI_run Wd1 his1 G4 (List.mem_append_left _ List.mem_cons_self) nD (if_pos rfl) hd4 (IA.stepD s34) p4 hu4 hi4 h4 lr fun H' acc' s5 hd5 G5 IA5 => ?_
      have sB : SameT c.T (upd H' D (.lst acc')) H' := SameT.selfD hd5
      have sU := (s34.updB (D := D) (o := .lst acc')).tr s5
      have G6 : Good c H0 (D :: res) t4 e fp σ H' := (G1.updR (zs := acc') List.mem_cons_self hd D0).to (q := []) sU G5.ti fun a m => nomatch m
      refine ⟨t4, acc', zs ++ r, rs, G6, hd5, IA5, immA_app iz (sLcI_imm h4), Wd.same _ _ (Wd.upd _ _ acc' p1 hd) sU, fun a o n w => ?_, fun j d u a b => ?_, h5, by rw [ey, List.append_assoc]⟩
      · have ne : a ≠ D := fun z => by rw [z, hD] at w; cases w
        exact sU a o n (by rw [upd_ne ne]; exact sm a o n w)
      · exact ((it j d u a b).updR List.mem_cons_self hd up_frz).step sU Sub.rf
  · have : i = us.length := by omega
    subst this
    rw [List.drop_eq_nil_of_le (by rw [List.length_map]; omega)] at ev1
    cases ev1
    refine .inl ⟨Wd.stop _ H p1 (Nat.le_refl _), ?_⟩
    rw [List.append_nil] at ey
    subst ey
    refine k H [D] sm G1 ⟨⟨D, acc, [], rfl, rfl, hd, by rw [IA.len]; exact hz, RpA.ow _ _ iz IA⟩, List.nodup_cons.mpr ⟨fun m => (nomatch m), List.nodup_nil⟩, fun a m => ?_⟩
    rw [List.mem_singleton.mp m]
    exact ⟨D0, nD, G.nres hD, G.nfp hD⟩
def inR (fs : List (Ex τ)) : In τ := fun t e => (evA fs t e).bind fun (t1, e1, xs) => (rgOf xs).bind fun p => if p.2 ≤ 16777216 then some (t1, e1, rgD p.1 p.2) else none
theorem inR_it {lo : Int} {n : Nat} {H1 : Hp} {fp1 : FP} {Q : It → Hp → Prop} (s1 : SameT c.T H H1) (G1 : Good c H0 res t' e' fp1 σ H1)
    (k : ∀ (J : It) (H1 : Hp) (fp1 : FP) (ds : List Fw.D) (us : List V), SameT c.T H H1 → Good c H0 res t' e' fp1 σ H1 → rgD lo n = ds.map (up .frz) → us.length = ds.length → (∀ (i : Nat) d u, ds[i]? = some d → us[i]? = some u → VOk c H0 res fp1 H1 (up .frz d) u []) →
      (∀ D acc, H1 D = some (.lst acc) → ∃ P, Wk c J D us P ∧ P H1) → Q J H1) : Q (Itr lo n) H1 := by
  refine k _ H1 fp1 _ (rgV lo n) s1 G1 rgD_up (by rw [rgV_len]; simp) (fun i d u h1 h2 => ?_) fun D acc hD => ⟨_, wk_rng (c := c), trivial⟩
  have hi : i < n := by
    have := (List.getElem?_eq_some_iff.mp h2).1
    rw [rgV_len] at this
    exact this
  rw [rgV_get hi] at h2
  cases h2
  rw [List.getElem?_map, List.getElem?_range hi] at h1
  cases h1
  exact isc
theorem inR1_ok {f : Ex τ} : InP τ c (iRng1 (rdA c (evA [f]))) (inR [f]) where
  run := fun {H0 res t t1 e e1 fp σ H xs Q} G ev k => by
    unfold inR at ev
    rw [Option.bind_eq_some_iff] at ev
    obtain ⟨⟨t1', e1', ys⟩, ev1, ev⟩ := ev
    rw [Option.bind_eq_some_iff] at ev
    obtain ⟨⟨lo, n⟩, ev2, ev⟩ := ev
    dsimp only at ev
    split at ev
    rotate_left
    · cases ev
    cases ev
    refine ⟨H0, res, t, e, fp, t1, e1, ys, G, ev1, fun H1 fp1 vs q s1 u1 G1 V1 => ?_⟩
    have G1 := G1.less (res' := res) fun a m => List.mem_append_right _ m
    obtain ⟨j, ev, b1, b2, rfl, rfl⟩ := rg1_ok (f := f) (evA_len ev1) V1 ev2
    exact ⟨j, ev, b1, b2, inR_it s1 G1 k⟩
def xLc2 (asg : GD → Slots → Option Slots) (ws : List Nat) (f : Ex τ) (cd : Tx τ) (inn : In τ) (asg1 : GD → Slots → Option Slots) (ws1 : List Nat) (cd1 : Tx τ) (elt : Ex τ) : Ex τ := fun t e => (f t e).bind fun (t1, e1, x) => (itmsC x).bind fun xs => (sLc2 asg cd inn ws1 asg1 cd1 elt (wipeE e1 ws) xs t1).bind fun (t2, ys) => if ys.length ≤ 16777216 then some (t2, e1, .own, .lst ys) else none
def xLc2R (asg : GD → Slots → Option Slots) (ws : List Nat) (fs : List (Ex τ)) (cd : Tx τ) (inn : In τ) (asg1 : GD → Slots → Option Slots) (ws1 : List Nat) (cd1 : Tx τ) (elt : Ex τ) : Ex τ := fun t e => (evA fs t e).bind fun (t1, e1, xs) => (rgOf xs).bind fun p => if p.2 ≤ 16777216 then (sLc2 asg cd inn ws1 asg1 cd1 elt (wipeE e1 ws) (rgD p.1 p.2) t1).bind fun (t2, ys) => if ys.length ≤ 16777216 then some (t2, e1, .own, .lst ys) else none else none
instance {asg asg1 : GD → Slots → Option Slots} {ws ws1 : List Nat} {f : Ex τ} {cd cd1 : Tx τ} {inn : In τ} {elt : Ex τ} [Stab f] : Stab (xLc2 asg ws f cd inn asg1 ws1 cd1 elt) := ⟨fun {t e t' e' x} h => by
  unfold xLc2 at h
  rw [Option.bind_eq_some_iff] at h
  obtain ⟨_, h1, h⟩ := h
  rw [Option.bind_eq_some_iff] at h
  obtain ⟨_, _, h⟩ := h
  rw [Option.bind_eq_some_iff] at h
  obtain ⟨_, _, h⟩ := h
  dsimp only at h
  split at h
  · cases h
    exact Stab.h h1
  · cases h⟩
instance {asg asg1 : GD → Slots → Option Slots} {ws ws1 : List Nat} {fs : List (Ex τ)} {cd cd1 : Tx τ} {inn : In τ} {elt : Ex τ} [StabA fs] : Stab (xLc2R asg ws fs cd inn asg1 ws1 cd1 elt) := ⟨fun {t e t' e' x} h => by
  unfold xLc2R at h
  rw [Option.bind_eq_some_iff] at h
  obtain ⟨_, h1, h⟩ := h
  rw [Option.bind_eq_some_iff] at h
  obtain ⟨_, _, h⟩ := h
  dsimp only at h
  split at h
  · rw [Option.bind_eq_some_iff] at h
    obtain ⟨_, _, h⟩ := h
    split at h
    · cases h
      exact StabA.h h1
    · cases h
  · cases h⟩
section
variable {X : Cx} {elt tg iter tg1 iter1 a b : Expr} {ifs ifs1 : List Expr} {scope : Scope} {own : List (Str × Nat)} {pos spos py p pos' : Pos} {y : Str} {i : Nat} {asg asg1 : GD → Slots → Option Slots} {is is1 ws1 : List Nat} {f f' g : Ex τ} {cd cd1 : Tx τ} {inn : In τ} {wi1 : TI} [StabT cd] [StabT cd1] [Stab g]
theorem lc2S_run {ws : List Nat} (hk : X.K = c.K) (IP : InP τ c wi1 inn) (his : ∀ j ∈ is, j ∈ ws) (his1 : ∀ j ∈ is1, j ∈ ws1) {Q : VK} (h : rd c (xLc2 asg ws f cd inn asg1 ws1 cd1 g) σ H Q) :
    tLc2 (iSq X.K (rd c f)) (rdGr c τ asg is) (rdT c cd) wi1 (rdGr c τ asg1 is1) (rdT c cd1) (rd c g) ws ws1 σ H Q := by
  obtain ⟨H0, res, t, e, fp, t', e', z, G, ev, k⟩ := h
  unfold xLc2 at ev
  rw [Option.bind_eq_some_iff] at ev
  obtain ⟨⟨t1, e1, x⟩, ev1, ev⟩ := ev
  rw [Option.bind_eq_some_iff] at ev
  obtain ⟨xs, ev2, ev⟩ := ev
  rw [Option.bind_eq_some_iff] at ev
  obtain ⟨⟨t2, ys⟩, ev3, ev⟩ := ev
  dsimp only at ev
  split at ev
  rotate_left
  · cases ev
  rename_i hz
  cases ev
  refine ⟨H0, res, t, e, fp, t1, e', x, G, ev1, fun H1 fp1 v q s1 u1 G1 V1 => ?_⟩
  have G1 := G1.less (res' := res) fun a m => List.mem_append_right _ m
  obtain ⟨ds, us, a, ex, hv, na, hl, hu, hs, hi⟩ := itmsC_ok ev2 V1
  subst ex
  rcases hs with hs | hs
  · refine ⟨a, hv, .inl ⟨⟨us, .inl (.inl hs)⟩, fun D hD => ?_⟩⟩
    have ne : a ≠ D := fun z => by rw [z, hD] at hs; cases hs
    exact lc2_run (wk_list (c := c) (K := X.K)) IP his his1 G1 hD ⟨na, ne, by rw [upd_ne ne]; exact hs⟩ hu hi ev3 hz fun H' q' sm G' V' => k H' fp1 _ q' (s1.tr sm) u1 G' V'
  · refine ⟨a, hv, .inr ⟨⟨us, .inl (.inl hs)⟩, fun D hD => ?_⟩⟩
    have ne : a ≠ D := fun z => by rw [z, hD] at hs; cases hs
    exact lc2_run (wk_tup (c := c) (K := X.K)) IP his his1 G1 hD ⟨na, ne, by rw [upd_ne ne]; exact hs⟩ hu hi ev3 hz fun H' q' sm G' V' => k H' fp1 _ q' (s1.tr sm) u1 G' V'
theorem s_setLc2 {ws : List Nat} (hk : X.K = c.K) (hc : X.calm = true) (hN : X.N.Nodup) (hy : X.N[i]? = some y) (hyl : X.env.scope.names.lookup y = some .local) (hsw : swapsWith (.ListComp elt [⟨tg, iter, ifs, 0⟩, ⟨tg1, iter1, ifs1, 0⟩] scope pos) (some (.Name y py)) spos.line X.env = pure true)
    (hi : PE X iter (rd c f)) (ok : BlkOk X.N X.env.scope scope own) (his : ∀ j ∈ is, j ∈ own.map (·.2)) (his1 : ∀ j ∈ is1, j ∈ ws1) (hv : ∀ i ∈ ws1, i ∈ own.map (·.2))
    (hg : ∀ (s : Shared) (H : Hp) (C : Addr) (cl : List (Str × Addr)) (fp : List Addr), PG (X.blk s H scope (compEnvC scope cl C X.env) fp) tg (rdGr c τ asg is)) (ht : ∀ (s : Shared) (H : Hp) (C : Addr) (cl : List (Str × Addr)) (fp : List Addr), PTs (X.blk s H scope (compEnvC scope cl C X.env) fp) ifs (rdT c cd))
    (hi1 : ∀ (s : Shared) (H : Hp) (C : Addr) (cl : List (Str × Addr)) (fp : List Addr), PI (X.blk s H scope (compEnvC scope cl C X.env) fp) tg1 iter1 wi1) (IP : InP τ c wi1 inn)
    (hg1 : ∀ (s : Shared) (H : Hp) (C : Addr) (cl : List (Str × Addr)) (fp : List Addr), PG (X.blk s H scope (compEnvC scope cl C X.env) fp) tg1 (rdGr c τ asg1 is1)) (ht1 : ∀ (s : Shared) (H : Hp) (C : Addr) (cl : List (Str × Addr)) (fp : List Addr), PTs (X.blk s H scope (compEnvC scope cl C X.env) fp) ifs1 (rdT c cd1))
    (he : ∀ (s : Shared) (H : Hp) (C : Addr) (cl : List (Str × Addr)) (fp : List Addr), PE (X.blk s H scope (compEnvC scope cl C X.env) fp) elt (rd c g)) (hs : ∀ x, foldedSetIterable iter X.env x = pure x := by intro _; rfl) (hs1 : ∀ env x, foldedSetIterable iter1 env x = pure x := by intro _ _; rfl) (hw : own.map (·.2) = ws := by rfl) :
    PS X (.Assign [.Name y py] (.ListComp elt [⟨tg, iter, ifs, 0⟩, ⟨tg1, iter1, ifs1, 0⟩] scope pos) spos) (rdS c (sTo (stI i) (xLc2 asg ws f cd inn asg1 ws1 cd1 g))) := by
  subst hw
  exact imS (ps_setLc2 hc hN hy hyl hsw (pi_sq hi) ok hv hg ht hi1 hg1 ht1 he hs hs1) fun W σ H h => by
    obtain ⟨H0, res, t, e, fp, t', e', x, G, ev, k⟩ := asg_run h
    refine lc2S_run hk IP his his1 ⟨H0, res, t, e, fp, t', e', x, G, ev, fun H1 fp1 v q s1 u1 G1 V1 => ?_⟩
    obtain ⟨H0', t2, e2, fp2, x2, q2, e3, G2, V2, ev2, k2⟩ := k H1 fp1 v q s1 u1 G1 V1
    obtain ⟨fp', G'⟩ := st_ok (res := []) (by rw [List.append_nil]; exact G2) V2 ev2 fun _ => rfl
    exact k2 _ fp' G'
end
end
section
variable {τ : Type} {t : τ} {e ew : Slots} {asg asg1 : GD → Slots → Option Slots} {cd cd1 : Tx τ} {elt : Ex τ} {inn : In τ} {ws ws1 : List Nat} {α : Type}
def K2end {τ : Type} (e : Slots) (Q : RX τ) : τ × List D → Prop := fun (t, ys) => ys.length ≤ 16777216 ∧ Q (t, e, .own, .lst ys)
def KLc2 {τ : Type} (asg : GD → Slots → Option Slots) (ws : List Nat) (cd : Tx τ) (inn : In τ) (asg1 : GD → Slots → Option Slots) (ws1 : List Nat) (cd1 : Tx τ) (elt : Ex τ) (Q : RX τ) : RX τ := fun (t, e, x) => wp (itmsC x) fun xs => wp (sLc2 asg cd inn ws1 asg1 cd1 elt (wipeE e ws) xs t) (K2end e Q)
theorem w_xLc2 {Q : RX τ} {f : Ex τ} (h : wp (f t e) (KLc2 asg ws cd inn asg1 ws1 cd1 elt Q)) : wp (xLc2 asg ws f cd inn asg1 ws1 cd1 elt t e) Q := wp_bind (h.mono fun _ h => wp_bind (h.mono fun _ h => wp_bind (h.mono fun _ h => ⟨_, if_pos h.1, h.2⟩)))
theorem k_Lc2 {Q : RX τ} {x : GD} {xs : List GD} {ys : List D} (h : itmsC x = some xs) (hw : wipeE e ws = ew) (z : sLc2 asg cd inn ws1 asg1 cd1 elt ew xs t = some (t', ys)) (hl : ys.length ≤ 16777216) (k : Q (t', e, .own, .lst ys)) : KLc2 asg ws cd inn asg1 ws1 cd1 elt Q (t, e, x) := by
  subst hw
  exact ⟨_, h, _, z, hl, k⟩
def KLc2R {τ : Type} (asg : GD → Slots → Option Slots) (ws : List Nat) (cd : Tx τ) (inn : In τ) (asg1 : GD → Slots → Option Slots) (ws1 : List Nat) (cd1 : Tx τ) (elt : Ex τ) (Q : RX τ) : RA τ := fun (t, e, xs) => wp (rgOf xs) fun p => p.2 ≤ 16777216 ∧ wp (sLc2 asg cd inn ws1 asg1 cd1 elt (wipeE e ws) (rgD p.1 p.2) t) (K2end e Q)
theorem w_xLc2R {Q : RX τ} {fs : List (Ex τ)} (h : wp (evA fs t e) (KLc2R asg ws cd inn asg1 ws1 cd1 elt Q)) : wp (xLc2R asg ws fs cd inn asg1 ws1 cd1 elt t e) Q := wp_bind (h.mono fun _ h => wp_bind (h.mono fun _ h => by
  dsimp only
  rw [if_pos h.1]
  exact wp_bind (h.2.mono fun _ h => ⟨_, if_pos h.1, h.2⟩)))
theorem w_innR {Q : τ × Slots × List GD → Prop} {fs : List (Ex τ)} (h : wp (evA fs t e) fun r => ∃ p, rgOf r.2.2 = some p ∧ p.2 ≤ 16777216 ∧ Q (r.1, r.2.1, rgD p.1 p.2)) : wp (inR fs t e) Q := by
  obtain ⟨⟨t1, e1, xs⟩, h1, p, h2, h3, k⟩ := h
  refine ⟨_, ?_, k⟩
  unfold inR
  rw [h1]
  dsimp only [Option.bind_some] at h2 ⊢
  rw [h2]
  exact if_pos h3
/-- the inner walk, pure -/
theorem w_lcI (l : List α) (F G : α → D) (p : α → Bool) (h : ∀ a, a ∈ l → wp (asg (.own, F a) ew) fun e1 => wp (cd t e1) fun r => r.1 = t ∧ r.2.2 = p a ∧ (p a = true → wp (elt t r.2.1) fun r' => r'.1 = t ∧ r'.2.2.2 = G a ∧ imm (G a) = true)) :
    sLcI asg cd elt ew (l.map fun a => ((.own, F a) : GD)) t = some (t, (l.filter p).map G) := by
  induction l with
  | nil => rfl
  | cons a l ih =>
    have ih := ih fun b m => h b (List.mem_cons_of_mem _ m)
    obtain ⟨e1, h1, ⟨t2, e2, b⟩, h2, r1, r2, h3⟩ := h a List.mem_cons_self
    dsimp only at r1 r2 h3
    subst r1 r2
    rw [List.map_cons]
    unfold sLcI
    rw [h1]
    dsimp only [Option.bind_some]
    rw [h2]
    dsimp only [Option.bind_some]
    cases hp : p a with
    | false =>
      rw [List.filter_cons_of_neg (by rw [hp]; exact Bool.false_ne_true)]
      exact ih
    | true =>
      obtain ⟨⟨t3, e3, y⟩, h4, r3, r4, r5⟩ := h3 hp
      dsimp only at r3 r4
      subst r3
      rw [List.filter_cons_of_pos hp]
      dsimp only
      rw [h4]
      dsimp only [Option.bind_some]
      rw [r4, if_pos r5, ih]
      rfl
/-- the outer walk, pure, without a test of its own -/
theorem w_lc2 (l : List α) (F : α → D) (R : α → List D) (h : ∀ a, a ∈ l → wp (asg (.own, F a) ew) fun e1 => wp (inn t e1) fun s => s.1 = t ∧ sLcI asg1 cd1 elt (wipeE s.2.1 ws1) s.2.2 t = some (t, R a)) :
    sLc2 asg xYes inn ws1 asg1 cd1 elt ew (l.map fun a => ((.own, F a) : GD)) t = some (t, l.flatMap R) := by
  induction l with
  | nil => rfl
  | cons a l ih =>
    have ih := ih fun b m => h b (List.mem_cons_of_mem _ m)
    obtain ⟨e1, h1, ⟨t2, e2, xs⟩, h2, r1, h3⟩ := h a List.mem_cons_self
    dsimp only at r1 h3
    subst r1
    rw [List.map_cons]
    unfold sLc2
    rw [h1]
    dsimp only [Option.bind_some]
    rw [show xYes t2 e1 = some (t2, e1, true) from rfl]
    dsimp only [Option.bind_some]
    rw [h2]
    dsimp only [Option.bind_some]
    rw [h3]
    dsimp only [Option.bind_some]
    rw [ih]
    rfl
end
end Fw
set_option Elab.async false
set_option linter.all false
set_option maxRecDepth 100000
namespace Fw
open PySem L2
section
variable {κ : Type} [DecidableEq κ]
def kyAt : List κ → List D → κ → Option D
  | k :: ks, d :: ds, y => if k = y then some d else kyAt ks ds y
  | _, _, _ => none
def kIn (ks : List κ) (y : κ) : Bool := ks.any fun x => decide (x = y)
end
def kyk : D → Option Key
  | .int i => some (.inl i)
  | _ => none
def kyt : D → Option (List Key)
  | .tup ds => (intsD ds).map fun l => l.map .inl
  | _ => none
def sDin (neg : Bool) : GD → GD → Option GD
  | (_, y), (_, .dk (.k ks) _) => (kyk y).map fun k : Key => (.own, .bl (neg ^^ kIn ks k))
  | (_, y), (_, .dk (.t ks) _) => (kyt y).map fun k : List Key => (.own, .bl (neg ^^ kIn ks k))
  | _, _ => none
def sDget : GD → GD → Option GD
  | (g, .dk (.k ks) ds), (_, y) => (kyk y).bind fun k => (kyAt ks ds k).map (up g)
  | (g, .dk (.t ks) ds), (_, y) => (kyt y).bind fun k => (kyAt ks ds k).map (up g)
  | _, _ => none
section
variable {τ : Type} [Tp τ]
variable {c : Cz} {res res' q q' : List Addr} {t t' : τ} {e e' : Slots} {fp fp' : FP} {σ : L2.St} {H H' H0 : Hp} {x y z : GD} {v w : V}
def ownK (e : Slots) (i : Nat) : Option (Ky × List D) := match e[i]? with
  | some (some (true, .dk ks ds)) => some (ks, ds)
  | _ => none
/-- the keys with a new one behind them -/
def kyPut : Ky → D → Option Ky
  | .k ks, y => (kyk y).bind fun k => if kIn ks k then none else some (.k (ks ++ [k]))
  | .t ks, y => (kyt y).bind fun k => if kIn ks k then none else some (.t (ks ++ [k]))
def sDput (i : Nat) (g f : Ex τ) : Sx τ := fun t e => (f t e).bind fun (t1, e1, x) => (ownK e1 i).bind fun _ => (g t1 e1).bind fun (t2, e2, y) => (ownK e2 i).bind fun (ks, ds) => match x with
  | (.own, d) => (kyPut ks y.2).bind fun ks' => if szB (ds.length + 1) then some (t2, e2.set i (some (true, .dk ks' (ds ++ [d]))), .nx) else none
  | _ => none
end
end Fw
set_option Elab.async false
set_option linter.all false
set_option maxRecDepth 100000
namespace Fw
open PySem L2
section
variable {τ : Type} [Tp τ]
variable {c : Cz} {res res' q q' : List Addr} {t t' : τ} {e e' : Slots} {fp fp' : FP} {σ : L2.St} {H H' H0 : Hp} {x y z : GD} {v w : V}
def kyGet : Ky → List D → D → Option D
  | .k ks, ds, y => (kyk y).bind fun k => kyAt ks ds k
  | .t ks, ds, y => (kyt y).bind fun k => kyAt ks ds k
def xMdk (i : Nat) (g : Ex τ) : Ex τ := fun t e => (g t e).bind fun (t1, e1, y) => (ownK e1 i).bind fun (ks, ds) => (kyGet ks ds y.2).map fun d => (t1, e1.set i none, .own, d)
def xDspI (f g : Ex τ) : Ex τ := fun t e => (f t e).bind fun (t1, e1, y) => (g t1 e1).bind fun (t2, e2, x) => match y.2, x.2 with
  | .int k, .int i => some (t2, e2, .own, .dk (.k [.inl k]) [.int i])
  | _, _ => none
def xDspL (f g : Ex τ) : Ex τ := fun t e => (f t e).bind fun (t1, e1, y) => (g t1 e1).bind fun (t2, e2, x) => match y.2, x.2 with
  | .int k, .int i => some (t2, e2, .own, .dk (.k [.inl k]) [.lst [.int i]])
  | _, _ => none
instance {f g : Ex τ} [Stab f] [Stab g] : Stab (xDspI f g) := ⟨fun {t e t' e' x} h => by
  unfold xDspI at h
  rw [Option.bind_eq_some_iff] at h
  obtain ⟨⟨t1, e1, y⟩, h1, h⟩ := h
  rw [Option.bind_eq_some_iff] at h
  obtain ⟨⟨t2, e2, z⟩, h2, h⟩ := h
  dsimp only at h
  split at h
  · cases h
    rw [Stab.h h2, Stab.h h1]
  · cases h⟩
end
section
variable {τ : Type} {t t1 : τ} {e e1 : Slots} {x y z : GD} {i : Nat} {d : D} {b : Bool} {g : Gr}
def Kdsp2 {τ : Type} (k : Int) (mk : Int → D) (Q : RX τ) : RX τ := fun (t, e, x) => ∃ i, x.2 = .int i ∧ Q (t, e, .own, .dk (.k [.inl k]) [mk i])
def Kdsp {τ : Type} (g : Ex τ) (mk : Int → D) (Q : RX τ) : RX τ := fun (t, e, y) => ∃ k, y.2 = .int k ∧ wp (g t e) (Kdsp2 k mk Q)
theorem w_dspI {Q : RX τ} {f g : Ex τ} (h : wp (f t e) (Kdsp g (fun i => .int i) Q)) : wp (xDspI f g t e) Q := wp_bind (h.mono fun (t, e, y) h => by
  obtain ⟨k, e1, h⟩ := h
  refine wp_bind (h.mono fun (t, e, x) h => ?_)
  obtain ⟨i, e2, h⟩ := h
  dsimp only at e1 e2 ⊢
  rw [e1, e2]
  exact ⟨_, rfl, h⟩)
theorem w_dspL {Q : RX τ} {f g : Ex τ} (h : wp (f t e) (Kdsp g (fun i => .lst [.int i]) Q)) : wp (xDspL f g t e) Q := wp_bind (h.mono fun (t, e, y) h => by
  obtain ⟨k, e1, h⟩ := h
  refine wp_bind (h.mono fun (t, e, x) h => ?_)
  obtain ⟨i, e2, h⟩ := h
  dsimp only at e1 e2 ⊢
  rw [e1, e2]
  exact ⟨_, rfl, h⟩)
theorem k_dsp {Q : RX τ} {f : Ex τ} {mk : Int → D} {k : Int} (h : wp (f t e) (Kdsp2 k mk Q)) : Kdsp f mk Q (t, e, g, .int k) := ⟨k, rfl, h⟩
theorem k_dsp2 {Q : RX τ} {mk : Int → D} {k i : Int} {d : D} (hd : mk i = d) (h : Q (t, e, .own, .dk (.k [.inl k]) [d])) : Kdsp2 k mk Q (t, e, g, .int i) := by subst hd; exact ⟨i, rfl, h⟩
/-- dicts of numbers -/
abbrev dkN (ks : List Nat) (ds : List D) : D := .dk (.k (ks.map fun k : Nat => .inl (k : Int))) ds
theorem kIn_nat {k : Nat} {ks : List Nat} : kIn (ks.map fun k : Nat => (.inl (k : Int) : Key)) (.inl (k : Int)) = decide (k ∈ ks) := by
  unfold kIn
  rw [Bool.eq_iff_iff, List.any_eq_true, decide_eq_true_iff]
  constructor
  · rintro ⟨a, m, e⟩
    obtain ⟨b, mb, rfl⟩ := List.mem_map.mp m
    have e := Sum.inl.inj (of_decide_eq_true e)
    rw [show k = b by omega]; exact mb
  · intro m
    exact ⟨_, List.mem_map.mpr ⟨k, m, rfl⟩, decide_eq_true rfl⟩
theorem o_dinN {k : Nat} {ks : List Nat} {ds : List D} {g' : Gr} : sDin false (g, .int (k : Int)) (g', dkN ks ds) = some (.own, .bl (decide (k ∈ ks))) := by
  simp only [sDin, kyk, Option.map_some, kIn_nat, Bool.false_xor]
theorem o_ndinN {k : Nat} {ks : List Nat} {ds : List D} {g' : Gr} : sDin true (g, .int (k : Int)) (g', dkN ks ds) = some (.own, .bl (!decide (k ∈ ks))) := by
  simp only [sDin, kyk, Option.map_some, kIn_nat, Bool.true_xor]
/-- the place of a key -/
theorem kyAt_nat {k : Nat} {F : Nat → D} : ∀ {ks : List Nat}, k ∈ ks → kyAt (ks.map fun k : Nat => (.inl (k : Int) : Key)) (ks.map F) (.inl (k : Int)) = some (F k)
  | [], m => nomatch m
  | a :: ks, m => by
    rw [List.map_cons, List.map_cons]
    unfold kyAt
    by_cases z : a = k
    · rw [if_pos (by rw [z]), z]
    · rw [if_neg fun w => z (by have := Sum.inl.inj w; omega)]
      exact kyAt_nat ((List.mem_cons.mp m).resolve_left fun w => z w.symm)
theorem o_dgetN {k : Nat} {ks : List Nat} {F : Nat → D} {g' : Gr} (m : k ∈ ks) : sDget (g, dkN ks (ks.map F)) (g', .int (k : Int)) = some (up g (F k)) := by
  simp only [sDget, kyk, Option.bind_some, kyAt_nat m, Option.map_some]
def KdputK {τ : Type} (i : Nat) (x : GD) (Q : RS τ) : RX τ := fun (t, e, y) => ∃ ks ds d ks', ownK e i = some (ks, ds) ∧ x = (.own, d) ∧ kyPut ks y.2 = some ks' ∧ ds.length < 16777216 ∧ Q (t, e.set i (some (true, .dk ks' (ds ++ [d]))), .nx)
def Kdput {τ : Type} (i : Nat) (g : Ex τ) (Q : RS τ) : RX τ := fun (t, e, x) => (∃ p, ownK e i = some p) ∧ wp (g t e) (KdputK i x Q)
theorem w_dput {Q : RS τ} {f g : Ex τ} (h : wp (f t e) (Kdput i g Q)) : wp (sDput i g f t e) Q := wp_bind (h.mono fun (t, e, x) h => by
  obtain ⟨⟨p, h0⟩, h⟩ := h
  dsimp only
  rw [h0]
  refine wp_bind (wp_some (wp_bind (wp.mono h fun (t, e, y) hh => ?_)))
  obtain ⟨ks, ds, d, ks', h1, h2, h3, h4, h5⟩ := hh
  subst h2
  dsimp only
  rw [h1]
  dsimp only [Option.bind_some]
  rw [h3]
  refine ⟨_, if_pos (decide_eq_true ?_), h5⟩
  omega)
def Kmdk {τ : Type} (i : Nat) (Q : RX τ) : RX τ := fun (t, e, y) => ∃ ks ds d, ownK e i = some (ks, ds) ∧ kyGet ks ds y.2 = some d ∧ Q (t, e.set i none, .own, d)
theorem w_mdk {Q : RX τ} {f : Ex τ} (h : wp (f t e) (Kmdk i Q)) : wp (xMdk i f t e) Q := wp_bind (h.mono fun (t, e, y) h => by
  obtain ⟨ks, ds, d, h1, h2, h⟩ := h
  dsimp only
  rw [h1]
  dsimp only [Option.bind_some]
  rw [h2]
  exact ⟨_, rfl, h⟩)
end
end Fw
set_option Elab.async false
set_option linter.all false
set_option maxRecDepth 100000
namespace Fw
open PySem L2
def sCount : GD → GD → Option GD
  | (_, .lst ds), (_, .int k) => (intsD ds).map fun l => (.own, .int ((l.count k : Nat) : Int))
  | _, _ => none
section
variable {τ : Type} [Tp τ] {c : Cz}
theorem d_count {X : Cx} {a b : Expr} {f g : Ex τ} {apos cpos : Pos} (hk : X.K = c.K) (ha : PE X a (rd c f)) (hb : PE X b (rd c g))
    (hbase : attributeBase a "count" X.env (eval a X.env) = eval a X.env := by rfl)
    (hfew : ((backTo cpos (starEach [b] X.env)).all (fun x => !x.1) && (backToKw cpos (keywordEach [] X.env)).all (fun x => x.1.isSome) && decide ([b].length + ([] : List Keyword).length + (if ([] : List Keyword).isEmpty then 0 else 1) < 30)) = true := by rfl) (hline : (apos.endLine == cpos.line) = true := by rfl)
    (hs : starEach [b] X.env = (false, eval b X.env) :: starEach [] X.env := by rfl) (hplain : (backTo cpos (starEach [] X.env)).any (·.1) = false := by rfl) :
    PE X (.Call (.Attribute a "count" apos) [b] [] cpos) (rd c (x2 sCount f g)) :=
  imE (pe_bm PySem.F.plainAttrs_list PySem.F.slot_list_count PySem.F.type_list_count mt_lcount ha (pa_cons hb pa_nil hs) hbase hfew hline hs hplain) fun σ H Q h => by
    obtain ⟨H0, res, t, e, fp, t', e', z, G, ev, k⟩ := h
    unfold x2 at ev
    rw [Option.bind_eq_some_iff] at ev
    obtain ⟨⟨t1, e1, x⟩, ev1, ev⟩ := ev
    rw [Option.bind_eq_some_iff] at ev
    obtain ⟨⟨t2, e2, y⟩, ev2, ev⟩ := ev
    rw [Option.map_eq_some_iff] at ev
    obtain ⟨z', ev3, ev⟩ := ev
    cases ev
    refine ⟨H0, res, t, e, fp, t1, e1, x, G, ev1, fun H1 fp1 v qv s1 b1 G1 V1 => ?_⟩
    obtain ⟨gx, dx⟩ := x
    obtain ⟨gy, dy⟩ := y
    cases dx with
    | lst ds =>
      cases dy with
      | int kk =>
        obtain ⟨l, us, rfl, hl, hz, hr⟩ := id V1.rp
        refine ⟨by rw [hk]; exact .inl ⟨rfl, us, hl.sq⟩, ?_⟩
        refine ⟨H0, qv ++ res, t1, e1, fp1, t', e', _, G1, ev2, fun H2 fp2 w qw s2 b2 G2 V2 => ?_⟩
        have ev3 : (intsD ds).map (fun l => ((Gr.own, D.int ((l.count kk : Nat) : Int)) : GD)) = some z := ev3
        rw [Option.map_eq_some_iff] at ev3
        obtain ⟨ns, hn, rfl⟩ := ev3
        obtain ⟨l', us', e4, hl2, hz2, hr2⟩ := id (V1.step s2 b2).rp
        cases e4
        have eu := intsD_rp hn hr2
        subst eu
        have rw2 : w = .int kk := V2.rp
        refine ⟨l, ns, kk, rfl, by rw [rw2], by rw [hk]; exact hl2.sq, ?_⟩
        exact k H2 fp2 _ [] (s1.tr s2) (b1.tr b2) (G2.less fun a m => List.mem_append_right _ (List.mem_append_right _ m)) isc
      | _ => cases ev3
    | _ => cases ev3
instance {T : String} {f : Ex τ} [Stab f] : Stab (xIsi T f) := inferInstanceAs (Stab (x1 _ f))
def sMulW := sI (fun i j => decide (i.natAbs.log2 + j.natAbs.log2 < 1000000)) fun i j => .int (i * j)
theorem d_mulW {X : Cx} {a b : Expr} {pos : Pos} {f g : Ex τ} (ha : PE X a (rd c f)) (hb : PE X b (rd c g)) : PE X (.BinOp a .Mult b pos) (rd c (x2 sMulW f g)) := d_op (op2_I (C' := CMulW) (g := fun i j => .int (i * j)) (fun i j h => show CMulW i j from of_decide_eq_true (p := i.natAbs.log2 + j.natAbs.log2 < 1000000) h) fun _ _ => rfl) op_mulW ha hb
end
section
variable {τ : Type} {t t1 : τ} {e e1 : Slots} {x y z : GD} {i : Nat} {d : D} {b : Bool} {g g' : Gr}
theorem o_count {ds : List D} {l : List Int} {k : Int} (h : intsD ds = some l) : sCount (g, .lst ds) (g', .int k) = some (.own, .int ((l.count k : Nat) : Int)) := by
  show (intsD ds).map _ = _
  rw [h]; rfl
theorem count_cast {l : List Nat} {k : Nat} : (l.map fun k : Nat => (k : Int)).count (k : Int) = l.count k := by
  induction l with
  | nil => rfl
  | cons a l ih =>
    rw [List.map_cons, List.count_cons, List.count_cons, ih]
    by_cases z : a = k
    · subst z; simp
    · have : ¬ (a : Int) = (k : Int) := fun w => z (by omega)
      simp [z, this]
theorem o_count_n {l : List Nat} {k : Nat} : sCount (g, .lst (natsD l)) (g', .int (k : Int)) = some (.own, .int ((l.count k : Nat) : Int)) := by
  rw [o_count (l := l.map fun k : Nat => (k : Int)) (by rw [nats_ints, intsD_map]), count_cast]
theorem o_mulW {i j : Int} (h : i.natAbs.log2 + j.natAbs.log2 < 1000000) : sMulW (g, .int i) (g', .int j) = some (.own, .int (i * j)) := by
  unfold sMulW sI
  simp only [h, decide_true, if_true]
theorem o_fdivW {i j : Int} (h : 0 < j) (h' : j.natAbs.log2 < 9000) : sFdivW (g, .int i) (g', .int j) = some (.own, .int (i / j)) := by
  unfold sFdivW sI
  simp only [h, h', and_self, decide_true, if_true]
def Kset2 {τ : Type} (i : Nat) (g1 g2 : Ex τ) (Q : RS τ) : RX τ := fun (t, e, x) => ∃ (ds : List D) (k1 k2 : Nat) (row : List D), imm x.2 = true ∧ ownL e i = some ds ∧ ds[k1]? = some (.lst row) ∧ immA row = true ∧ k2 < row.length ∧
  wp (g1 t e) fun r => r.2.1 = e ∧ (∃ gr, r.2.2 = (gr, .int (k1 : Int))) ∧ wp (g2 r.1 e) fun r2 => r2.2.1 = e ∧ (∃ gr, r2.2.2 = (gr, .int (k2 : Int))) ∧ Q (r2.1, e.set i (some (true, .lst (ds.set k1 (.lst (row.set k2 x.2))))), .nx)
theorem w_set2 {Q : RS τ} {f g1 g2 : Ex τ} (h : wp (f t e) (Kset2 i g1 g2 Q)) : wp (sSet2 i g1 g2 f t e) Q := wp_bind (h.mono fun (t, e, x) h => by
  obtain ⟨ds, k1, k2, row, h1, h2, h3, h4, h5, ⟨t2, e2, y1⟩, g1e, e21, ⟨gr, ey1⟩, ⟨t3, e3, y2⟩, g2e, e31, ⟨gr2, ey2⟩, q⟩ := h
  dsimp only at e21 ey1 e31 ey2 g2e q h1 ⊢
  subst e21 ey1 e31 ey2
  rw [h2]
  dsimp only [Option.bind_some]
  rw [g1e]
  dsimp only [Option.bind_some]
  rw [h2]
  have hk : L2.ixN ds.length (k1 : Int) = some k1 := ixN_nat (List.getElem?_eq_some_iff.mp h3).1
  have hr : rowAt ds (k1 : Int) = some (k1, row) := by
    unfold rowAt
    rw [hk]
    dsimp only [Option.bind_some]
    rw [h3]
    dsimp only
    rw [if_pos h4]
  dsimp only [Option.bind_some]
  rw [hr]
  dsimp only [Option.bind_some]
  rw [g2e]
  dsimp only [Option.bind_some]
  rw [h2]
  dsimp only [Option.bind_some]
  rw [hr]
  dsimp only [Option.bind_some]
  rw [ixN_nat h5]
  dsimp only [Option.bind_some]
  rw [if_pos h1]
  exact ⟨_, rfl, q⟩)
end
end Fw
set_option Elab.async false
set_option linter.all false
set_option maxRecDepth 100000
namespace Fw
open PySem L2
section
variable {τ : Type} [Tp τ]
variable {c : Cz} {res res' q q' : List Addr} {t t' : τ} {e e' : Slots} {fp fp' : FP} {σ : L2.St} {H H' H0 : Hp} {x y z : GD} {v w : V}
/-- owned items, one by one -/
theorem OwA.split {K : PySem.W.Frag} {T : Addr × Addr} : ∀ {ds : List D} {q : List Addr} {us : List V}, OwA K T H ds q us → ∃ qs : List (List Addr), q = qs.flatten ∧ qs.length = ds.length ∧ us.length = ds.length ∧ ∀ (i : Nat) (d : D) (r : List Addr) (u : V), ds[i]? = some d → qs[i]? = some r → us[i]? = some u → Ow K T H d r u
  | [], _, _, h => by
    obtain ⟨h1, h2⟩ := h
    subst h1 h2
    exact ⟨[], rfl, rfl, rfl, fun i d r u h => nomatch h⟩
  | d :: ds, _, _, h => by
    obtain ⟨q1, q2, u, r, e1, e2, o1, o2⟩ := h
    subst e1 e2
    obtain ⟨qs, e, l1, l2, k⟩ := OwA.split o2
    refine ⟨q1 :: qs, by rw [e]; rfl, by rw [List.length_cons, List.length_cons, l1], by rw [List.length_cons, List.length_cons, l2], fun i d' r' u' h1 h2 h3 => ?_⟩
    cases i with
    | zero => cases h1; cases h2; cases h3; exact o1
    | succ i => exact k i d' r' u' h1 h2 h3
theorem OwA.glue {K : PySem.W.Frag} {T : Addr × Addr} : ∀ {ds : List D} {qs : List (List Addr)} {us : List V}, qs.length = ds.length → us.length = ds.length → (∀ (i : Nat) (d : D) (r : List Addr) (u : V), ds[i]? = some d → qs[i]? = some r → us[i]? = some u → Ow K T H d r u) → OwA K T H ds qs.flatten us
  | [], qs, us, l1, l2, _ => by
    cases qs with
    | nil => cases us with
      | nil => exact ⟨rfl, rfl⟩
      | cons _ _ => cases l2
    | cons _ _ => cases l1
  | d :: ds, qs, us, l1, l2, k => by
    cases qs with
    | nil => cases l1
    | cons q1 qs => cases us with
      | nil => cases l2
      | cons u us => exact ⟨q1, qs.flatten, u, us, rfl, rfl, k 0 d q1 u rfl rfl rfl, OwA.glue (Nat.succ.inj l1) (Nat.succ.inj l2) fun i d' r' u' h1 h2 h3 => k (i + 1) d' r' u' h1 h2 h3⟩
theorem swap_perm {α : Type} {xs : List α} {i j : Nat} {a b : α} (hi : xs[i]? = some a) (hj : xs[j]? = some b) : ((xs.set i b).set j a).Perm xs := by
  obtain ⟨li, rfl⟩ := List.getElem?_eq_some_iff.mp hi
  obtain ⟨lj, rfl⟩ := List.getElem?_eq_some_iff.mp hj
  exact List.set_set_perm li lj
theorem set2_at {α : Type} {xs : List α} {i j k : Nat} {a b : α} (li : i < xs.length) (lj : j < xs.length) : ((xs.set i b).set j a)[k]? = if j = k then some a else if i = k then some b else xs[k]? := by
  rw [List.getElem?_set, List.getElem?_set, List.length_set]
  split
  · rename_i h; subst h; first | rfl | rw [if_pos lj]
  · split
    · rename_i h; subst h; first | rfl | rw [if_pos li]
    · rfl
theorem OwA.swap {K : PySem.W.Frag} {T : Addr × Addr} {ds : List D} {q : List Addr} {us : List V} (o : OwA K T H ds q us) {i j : Nat} {di dj : D} {ui uj : V} (hi : ds[i]? = some di) (hj : ds[j]? = some dj) (vi : us[i]? = some ui) (vj : us[j]? = some uj) :
    ∃ q', OwA K T H ((ds.set i dj).set j di) q' ((us.set i uj).set j ui) ∧ q'.Perm q := by
  obtain ⟨qs, e, l1, l2, k⟩ := o.split
  subst e
  have li := (List.getElem?_eq_some_iff.mp hi).1
  have lj := (List.getElem?_eq_some_iff.mp hj).1
  obtain ⟨qi, hqi⟩ : ∃ r, qs[i]? = some r := ⟨_, List.getElem?_eq_getElem (by omega)⟩
  obtain ⟨qj, hqj⟩ : ∃ r, qs[j]? = some r := ⟨_, List.getElem?_eq_getElem (by omega)⟩
  refine ⟨((qs.set i qj).set j qi).flatten, OwA.glue (by simp only [List.length_set]; exact l1) (by simp only [List.length_set]; exact l2) fun m d r u h1 h2 h3 => ?_, (swap_perm hqi hqj).flatten⟩
  rw [set2_at li lj] at h1
  rw [set2_at (by omega) (by omega)] at h2 h3
  by_cases z : j = m
  · rw [if_pos z] at h1 h2 h3
    cases h1; cases h2; cases h3
    exact k i _ _ _ hi hqi vi
  · rw [if_neg z] at h1 h2 h3
    by_cases y : i = m
    · rw [if_pos y] at h1 h2 h3
      cases h1; cases h2; cases h3
      exact k j _ _ _ hj hqj vj
    · rw [if_neg y] at h1 h2 h3
      exact k m _ _ _ h1 h2 h3
end
section
variable {τ : Type} [Tp τ]
variable {c : Cz} {res res' q q' : List Addr} {t t' : τ} {e e' : Slots} {fp fp' : FP} {σ : L2.St} {H H' H0 : Hp} {x y z : GD} {v w : V}
def xDspE (f : Ex τ) : Ex τ := fun t e => (f t e).bind fun (t1, e1, y) => match y.2 with
  | .int k => some (t1, e1, .own, .dk (.k [.inl k]) [.lst []])
  | _ => none
instance {f : Ex τ} [Stab f] : Stab (xDspE f) := ⟨fun {t e t' e' x} h => by
  unfold xDspE at h
  rw [Option.bind_eq_some_iff] at h
  obtain ⟨⟨t1, e1, y⟩, h1, h⟩ := h
  dsimp only at h
  split at h
  · cases h
    rw [Stab.h h1]
  · cases h⟩
end
section
variable {τ : Type} {t : τ} {e : Slots} {g : Gr}
def KdspE {τ : Type} (Q : RX τ) : RX τ := fun (t, e, y) => ∃ k, y.2 = .int k ∧ Q (t, e, .own, .dk (.k [.inl k]) [.lst []])
theorem w_dspE {Q : RX τ} {f : Ex τ} (h : wp (f t e) (KdspE Q)) : wp (xDspE f t e) Q := wp_bind (h.mono fun (t, e, y) h => by
  obtain ⟨k, e1, h⟩ := h
  dsimp only at e1 ⊢
  rw [e1]; exact ⟨_, rfl, h⟩)
theorem k_dspE {Q : RX τ} {k : Int} (h : Q (t, e, .own, .dk (.k [.inl k]) [.lst []])) : KdspE Q (t, e, g, .int k) := ⟨k, rfl, h⟩
end
end Fw
set_option Elab.async false
set_option linter.all false
set_option maxRecDepth 100000
set_option maxHeartbeats 4000000
namespace Lw
open PySem L2 Fw
def topS (i : Nat) : Stmt := PySem.Challenge.pw_debtless_k15_whole_ranks.main.body.getD i (.Pass ⟨0, 0, 0, 0⟩)
abbrev s_is_whole : Stmt := topS 4
abbrev s_is_number : Stmt := topS 5
abbrev s_is_road : Stmt := topS 6
abbrev s_reached : Stmt := topS 7
abbrev s_is_town : Stmt := topS 8
abbrev s_is_row : Stmt := topS 9
abbrev s_is_purses : Stmt := topS 10
abbrev s_is_order : Stmt := topS 11
abbrev s_roads_at : Stmt := topS 13
abbrev s_roads_into : Stmt := topS 14
abbrev s_matrix : Stmt := topS 15
abbrev s_after : Stmt := topS 17
abbrev s_lend_together : Stmt := topS 18
abbrev s_plain : Stmt := topS 19
abbrev s_joined : Stmt := topS 20
abbrev s_less : Stmt := topS 21
abbrev s_solved : Stmt := topS 23
abbrev s_fire : Stmt := topS 25
abbrev s_standing : Stmt := topS 26
abbrev s_first_script : Stmt := topS 27
abbrev s_debtor : Stmt := topS 28
abbrev s_reduced : Stmt := topS 29
abbrev s_is_script : Stmt := topS 30
abbrev s_ended : Stmt := topS 32
abbrev s_stands_against : Stmt := topS 33
abbrev s_accepts_end : Stmt := topS 34
abbrev s_takings : Stmt := topS 37
abbrev s_is_ended : Stmt := topS 38
abbrev s_rank : Stmt := topS 39
abbrev s_taking : Stmt := topS 40
abbrev s_accepts_taking : Stmt := topS 41
abbrev s_bearing : Stmt := topS 42
abbrev s_accepts_bearing : Stmt := topS 43
abbrev s_l_state : Stmt := topS 45
abbrev s_l_take : Stmt := topS 46
abbrev s_l_pick : Stmt := topS 47
abbrev s_l_town : Stmt := topS 48
abbrev s_l_ends : Stmt := topS 49
abbrev s_l_after : Stmt := topS 50
abbrev s_l_purses : Stmt := topS 51
abbrev s_l_fire : Stmt := topS 52
abbrev s_l_reduced : Stmt := topS 55
abbrev s_l_script : Stmt := topS 56
abbrev s_l_against : Stmt := topS 57
abbrev s_l_end_right : Stmt := topS 58
abbrev s_l_takings : Stmt := topS 59
abbrev s_l_rank : Stmt := topS 60
abbrev s_l_taking_right : Stmt := topS 61
abbrev s_l_bent : Stmt := topS 62
abbrev s_l_bearing_right : Stmt := topS 63
abbrev s_l_bears : Stmt := topS 64
abbrev s_law : Stmt := topS 65
noncomputable def bd_is_whole : Sx Tpa :=
    (sRet (xAnd (xIsi "int" (xP 0)) (xAnd (xNot (xIsi "bool" (xP 0))) (xCh (fun i j => decide (i ≤ j)) (fun i j => decide (i ≤ j)) (xP 1) (xP 0) (xP 2)))))
noncomputable def ph_is_whole : Fn Tpa := fnOf 3 3 bd_is_whole
noncomputable def bd_is_number : Sx Tpa :=
    (sRet (xAnd (xIsi "int" (xP 0)) (xNot (xIsi "bool" (xP 0)))))
noncomputable def ph_is_number : Fn Tpa := fnOf 1 1 bd_is_number
noncomputable def bd_is_road : Sx Tpa :=
    (sSeq (sIf (xOrT (xNotT (xT (xIsi "tuple" (xP 0)))) (xOrT (xB (x2 (sEq true) (xBt sLen [(xP 0)]) (xC (.int 2)))) (xNotT (xT (xCall ph_is_whole [(x2 sIdx (xP 0) (xC (.int 0))), (xC (.int 0)), (x2 sSub (xP 1) (xC (.int 1)))]))))) (sRet (xC (.bl false))) sNx)
    (sRet (xCall ph_is_whole [(x2 sIdx (xP 0) (xC (.int 1))), (x2 sPlus (x2 sIdx (xP 0) (xC (.int 0))) (xC (.int 1))), (x2 sSub (xP 1) (xC (.int 1)))])))
noncomputable def ph_is_road : Fn Tpa := fnOf 2 2 bd_is_road
noncomputable def bd_reached : Sx Tpa :=
    (sSeq (sTo (stI 3) (xLst [(xV 2)]))
    (sSeq (sForR (stI 4) [(xP 0)] (sForS (stT [5, 6]) (xF 1) (sIf (xB (x2 (sEq true) (x2 (sIn false) (xP 5) (xP 3)) (x2 (sIn false) (xP 6) (xP 3)))) (sApp 3 (xIf (xB (x2 (sIn false) (xP 5) (xP 3))) (xV 6) (xV 5))) sNx)))
    (sRet (xBt sSortX [(xP 3)]))))
noncomputable def ph_reached : Fn Tpa := fnOf 3 7 bd_reached
noncomputable def bd_is_town : Sx Tpa :=
    (sSeq (sIf (xOrT (xNotT (xT (xIsi "tuple" (xP 0)))) (xOrT (xB (x2 (sEq true) (xBt sLen [(xP 0)]) (xC (.int 3)))) (xB (x2 (sEq true) (x2 sIdx (xP 0) (xC (.int 0))) (xC (.str "town")))))) (sRet (xC (.bl false))) sNx)
    (sSeq (sTo (stT [1, 2]) (xSl (xP 0) (some (xC (.int 1))) none))
    (sSeq (sIf (xOrT (xNotT (xT (xCall ph_is_whole [(xP 1), (xC (.int 1)), (xC (.int 20))]))) (xOrT (xNotT (xT (xIsi "tuple" (xP 2)))) (xB (x2 sGt (xBt sLen [(xP 2)]) (xC (.int 60)))))) (sRet (xC (.bl false))) sNx)
    (sSeq (sIf (xNotT (xT (xBt sAll [(xLc (stI 3) [3] (xP 2) xYes (xCall ph_is_road [(xP 3), (xP 1)]))]))) (sRet (xC (.bl false))) sNx)
    (sRet (xAnd (x2 (sEq false) (xBt sList [(xP 2)]) (xBt sSortZ [(xP 2)])) (x2 (sEq false) (xBt sLen [(xCall ph_reached [(xP 1), (xP 2), (xC (.int 0))])]) (xP 1))))))))
noncomputable def ph_is_town : Fn Tpa := fnOf 1 4 bd_is_town
noncomputable def bd_is_row : Sx Tpa :=
    (sRet (xAnd (xIsi "tuple" (xP 0)) (xAnd (x2 (sEq false) (xBt sLen [(xP 0)]) (xP 1)) (xBt sAll [(xLc (stI 2) [2] (xP 0) xYes (xCall ph_is_number [(xP 2)]))]))))
noncomputable def ph_is_row : Fn Tpa := fnOf 2 3 bd_is_row
noncomputable def bd_is_purses : Sx Tpa :=
    (sRet (xAnd (xCall ph_is_row [(xP 0), (x2 sIdx (xP 1) (xC (.int 1)))]) (xBt sAll [(xLc (stI 2) [2] (xP 0) xYes (x2 sLe (xBt sAbs [(xP 2)]) (xC (.int 999))))])))
noncomputable def ph_is_purses : Fn Tpa := fnOf 2 3 bd_is_purses
noncomputable def bd_is_order : Sx Tpa :=
    (sRet (xAnd (xCall ph_is_row [(xP 0), (x2 sIdx (xP 1) (xC (.int 1)))]) (x2 (sEq false) (xBt sSortX [(xP 0)]) (xRg1 .lst (x2 sIdx (xP 1) (xC (.int 1)))))))
noncomputable def ph_is_order : Fn Tpa := fnOf 2 2 bd_is_order
noncomputable def bd_roads_at : Sx Tpa :=
    (sSeq (sTo (stI 2) (xLst []))
    (sSeq (sForS (stT [3, 4]) (x2 sIdx (xP 0) (xC (.int 2))) (sSeq (sIf (xB (x2 (sEq false) (xP 3) (xP 1))) (sApp 2 (xV 4)) sNx)
    (sIf (xB (x2 (sEq false) (xP 4) (xP 1))) (sApp 2 (xV 3)) sNx)))
    (sRet (xM 2))))
noncomputable def ph_roads_at : Fn Tpa := fnOf 2 5 bd_roads_at
noncomputable def bd_roads_into : Sx Tpa :=
    (sRet (xBt sLen [(xLc (stI 3) [3] (xCall ph_roads_at [(xP 0), (xP 1)]) (xB (x2 (sIn false) (xP 3) (xP 2))) (xV 3))]))
noncomputable def ph_roads_into : Fn Tpa := fnOf 3 4 bd_roads_into
noncomputable def bd_matrix : Sx Tpa :=
    (sSeq (sTo (stI 1) (xLst []))
    (sSeq (sForR (stI 2) [(x2 sIdx (xP 0) (xC (.int 1)))] (sSeq (sTo (stI 3) (xCall ph_roads_at [(xP 0), (xP 2)]))
    (sApp 1 (xLcR (stI 4) [4] [(x2 sIdx (xP 0) (xC (.int 1)))] xYes (xIf (xB (x2 (sEq false) (xP 4) (xP 2))) (xBt sLen [(xP 3)]) (x2 sSub (xC (.int 0)) (x2 sCount (xP 3) (xP 4))))))))
    (sRet (xM 1))))
noncomputable def ph_matrix : Fn Tpa := fnOf 1 5 bd_matrix
noncomputable def bd_after : Sx Tpa :=
    (sSeq (sTo (stI 3) (xLst []))
    (sSeq (sForR (stI 4) [(x2 sIdx (xP 0) (xC (.int 1)))] (sSeq (sTo (stI 5) (xCall ph_roads_at [(xP 0), (xP 4)]))
    (sApp 3 (x2 sPlus (x2 sSub (x2 sIdx (xP 1) (xP 4)) (x2 sTimes (x2 sIdx (xP 2) (xP 4)) (xBt sLen [(xP 5)]))) (xBt sSumX [(xLc (stI 6) [6] (xP 5) xYes (x2 sIdx (xP 2) (xP 6)))])))))
    (sRet (xBt sTuple [(xP 3)]))))
noncomputable def ph_after : Fn Tpa := fnOf 3 7 bd_after
noncomputable def bd_lend_together : Sx Tpa :=
    (sRet (xCall ph_after [(xP 0), (xP 1), (xBt sTuple [(xLcR (stI 3) [3] [(x2 sIdx (xP 0) (xC (.int 1)))] xYes (xIf (xB (x2 (sIn false) (xP 3) (xP 2))) (xC (.int 1)) (xC (.int 0))))])]))
noncomputable def ph_lend_together : Fn Tpa := fnOf 3 4 bd_lend_together
noncomputable def bd_plain : Sx Tpa :=
    (sSeq (sTo (stI 1) (xBt sMinX [(xP 0)]))
    (sRet (xBt sTuple [(xLc (stI 2) [2] (xP 0) xYes (x2 sSub (xP 2) (xP 1)))])))
noncomputable def ph_plain : Fn Tpa := fnOf 1 3 bd_plain
noncomputable def bd_joined : Sx Tpa :=
    (sRet (xBt sTuple [(xLcR (stI 2) [2] [(xBt sLen [(xP 0)])] xYes (x2 sPlus (x2 sIdx (xP 0) (xP 2)) (x2 sIdx (xP 1) (xP 2))))]))
noncomputable def ph_joined : Fn Tpa := fnOf 2 3 bd_joined
noncomputable def bd_less : Sx Tpa :=
    (sRet (xBt sTuple [(xLcR (stI 2) [2] [(xBt sLen [(xP 0)])] xYes (x2 sSub (x2 sIdx (xP 0) (xP 2)) (x2 sIdx (xP 1) (xP 2))))]))
noncomputable def ph_less : Fn Tpa := fnOf 2 3 bd_less
noncomputable def bd_solved : Sx Tpa :=
    (sSeq (sTo (stI 2) (xLcR (stI 4) [4] [(xBt sLen [(xP 0)])] xYes (x2 sPlus (xBt sList [(x2 sIdx (xP 0) (xP 4))]) (xLst [(x2 sIdx (xP 1) (xP 4))]))))
    (sSeq (sTo (stI 3) (xC (.int 1)))
    (sSeq (sForR (stI 4) [(xBt sLen [(xP 2)])] (sSeq (sForR (stI 5) [(xBt sLen [(xP 2)])] (sIf (xB (x2 (sEq true) (xP 5) (xP 4))) (sSeq (sTo (stI 6) (x2 sIdx (x2 sIdx (xP 2) (xP 5)) (xP 4)))
    (sForR (stI 7) [(x2 sPlus (xBt sLen [(xP 2)]) (xC (.int 1)))] (sSet2 2 (xP 5) (xP 7) (x2 sFdivW (x2 sSub (x2 sMulW (x2 sIdx (x2 sIdx (xP 2) (xP 4)) (xP 4)) (x2 sIdx (x2 sIdx (xP 2) (xP 5)) (xP 7))) (x2 sMulW (xP 6) (x2 sIdx (x2 sIdx (xP 2) (xP 4)) (xP 7)))) (xP 3))))) sNx))
    (sTo (stI 3) (x2 sIdx (x2 sIdx (xP 2) (xP 4)) (xP 4)))))
    (sRet (xTup [(xLc (stI 8) [8] (xF 2) xYes (x2 sIdx (xP 8) (x1 sNeg (xC (.int 1))))), (xM 3)])))))
noncomputable def ph_solved : Fn Tpa := fnOf 2 9 bd_solved
noncomputable def bd_fire : Sx Tpa :=
    (sSeq (sTo (stI 3) (xLst [(xV 2)]))
    (sWhile (xT (xC (.bl true))) (sSeq (sTo (stI 4) (xLst []))
    (sSeq (sForR (stI 5) [(x2 sIdx (xP 0) (xC (.int 1)))] (sIf (xAndT (xB (x2 (sIn true) (xP 5) (xP 3))) (xB (x2 sLt (x2 sIdx (xP 1) (xP 5)) (xCall ph_roads_into [(xP 0), (xP 5), (xP 3)])))) (sApp 4 (xV 5)) sNx))
    (sSeq (sIf (xB (x2 (sEq false) (xBt sLen [(xP 4)]) (xC (.int 0)))) (sRet (xM 3)) sNx)
    (sApp 3 (x2 sIdx (xP 4) (xC (.int 0)))))))))
noncomputable def ph_fire : Fn Tpa := fnOf 3 6 bd_fire
noncomputable def bd_standing : Sx Tpa :=
    (sSeq (sTo (stI 3) (xCall ph_fire [(xP 0), (xP 1), (xP 2)]))
    (sRet (xLcR (stI 4) [4] [(x2 sIdx (xP 0) (xC (.int 1)))] (xB (x2 (sIn true) (xP 4) (xP 3))) (xV 4))))
noncomputable def ph_standing : Fn Tpa := fnOf 3 5 bd_standing
noncomputable def bd_first_script : Sx Tpa :=
    (sSeq (sTo (stI 3) (xLcR (stI 10) [10] [(x2 sIdx (xP 0) (xC (.int 1)))] (xB (x2 (sEq true) (xP 10) (xP 2))) (xV 10)))
    (sSeq (sTo (stI 4) (xCall ph_matrix [(xP 0)]))
    (sSeq (sTo (stI 5) (xLc (stI 11) [11] (xP 3) xYes (xLc (stI 12) [12] (xP 3) xYes (x2 sIdx (x2 sIdx (xP 4) (xP 11)) (xP 12)))))
    (sSeq (sTo (stI 6) (x2 sTimes (xLst [(xC (.int 0))]) (x2 sIdx (xP 0) (xC (.int 1)))))
    (sSeq (sIf (xB (x2 sGt (xBt sLen [(xP 3)]) (xC (.int 0)))) (sSeq (sTo (stT [7, 8]) (xCall ph_solved [(xP 5), (xLc (stI 10) [10] (xP 3) xYes (x2 sIdx (xP 1) (xP 10)))]))
    (sForR (stI 9) [(xBt sLen [(xP 3)])] (sSetI 6 (x2 sIdx (xP 3) (xP 9)) (x2 sFdivW (x2 sIdx (xP 7) (xP 9)) (xP 8))))) sNx)
    (sRet (xBt sTuple [(xP 6)])))))))
noncomputable def ph_first_script : Fn Tpa := fnOf 3 13 bd_first_script
noncomputable def bd_debtor : Sx Tpa :=
    (sSeq (sForR (stI 2) [(xBt sLen [(xP 0)])] (sIf (xAndT (xB (x2 (sEq true) (xP 2) (xP 1))) (xB (x2 sLt (x2 sIdx (xP 0) (xP 2)) (xC (.int 0))))) (sRet (xM 2)) sNx))
    (sRet (xC .non)))
noncomputable def ph_debtor : Fn Tpa := fnOf 2 3 bd_debtor
noncomputable def bd_reduced : Sx Tpa :=
    (sSeq (sTo (stI 3) (xCall ph_first_script [(xP 0), (xP 1), (xP 2)]))
    (sSeq (sTo (stI 4) (xCall ph_after [(xP 0), (xP 1), (xP 3)]))
    (sSeq (sTo (stI 5) (xCall ph_debtor [(xP 4), (xP 2)]))
    (sSeq (sWhile (xB (x2 (sIsN true) (xP 5) (xC .non))) (sSeq (sTo (stI 6) (xBt sTuple [(xLcR (stI 8) [8] [(x2 sIdx (xP 0) (xC (.int 1)))] xYes (xIf (xB (x2 (sEq false) (xP 8) (xP 5))) (x1 sNeg (xC (.int 1))) (xC (.int 0))))]))
    (sSeq (sPar [3, 4] [(xCall ph_joined [(xP 3), (xP 6)]), (xCall ph_after [(xP 0), (xP 4), (xP 6)])])
    (sTo (stI 5) (xCall ph_debtor [(xP 4), (xP 2)])))))
    (sSeq (sTo (stI 7) (xCall ph_standing [(xP 0), (xP 4), (xP 2)]))
    (sSeq (sWhile (xB (x2 sGt (xBt sLen [(xP 7)]) (xC (.int 0)))) (sSeq (sTo (stI 3) (xCall ph_joined [(xP 3), (xBt sTuple [(xLcR (stI 5) [5] [(x2 sIdx (xP 0) (xC (.int 1)))] xYes (xIf (xB (x2 (sIn false) (xP 5) (xP 7))) (xC (.int 1)) (xC (.int 0))))])]))
    (sSeq (sTo (stI 4) (xCall ph_lend_together [(xP 0), (xP 4), (xP 7)]))
    (sTo (stI 7) (xCall ph_standing [(xP 0), (xP 4), (xP 2)])))))
    (sRet (xTup [(xM 4), (xM 3)]))))))))
noncomputable def ph_reduced : Fn Tpa := fnOf 3 9 bd_reduced
noncomputable def bd_is_script : Sx Tpa :=
    (sSeq (sIf (xOrT (xNotT (xT (xIsi "tuple" (xP 0)))) (xB (x2 (sEq true) (xBt sLen [(xP 0)]) (x2 sIdx (xP 1) (xC (.int 1)))))) (sRet (xC (.bl false))) sNx)
    (sRet (xBt sAll [(xLc (stI 2) [2] (xP 0) xYes (xAnd (xIsi "int" (xP 2)) (xNot (xIsi "bool" (xP 2)))))])))
noncomputable def ph_is_script : Fn Tpa := fnOf 2 3 bd_is_script
noncomputable def bd_ended : Sx Tpa :=
    (sSeq (sTo (stT [2, 3]) (xCall ph_reduced [(xP 0), (xP 1), (xC (.int 0))]))
    (sSeq (sIf (xB (x2 sGe (x2 sIdx (xP 2) (xC (.int 0))) (xC (.int 0)))) (sRet (xTup [(xC (.str "ended")), (xCall ph_plain [(xP 3)])])) sNx)
    (sRet (xTup [(xC (.str "never")), (xCall ph_plain [(xP 3)]), (xBt sTuple [(xCall ph_fire [(xP 0), (xP 2), (xC (.int 0))])])]))))
noncomputable def ph_ended : Fn Tpa := fnOf 2 4 bd_ended
noncomputable def bd_stands_against : Sx Tpa :=
    (sRet (xBt sAll [(xLcR (stI 3) [3] [(xBt sLen [(xP 2)])] xYes (x2 sLt (x2 sIdx (xP 1) (x2 sIdx (xP 2) (xP 3))) (xCall ph_roads_into [(xP 0), (x2 sIdx (xP 2) (xP 3)), (xSl (xP 2) none (some (xP 3)))])))]))
noncomputable def ph_stands_against : Fn Tpa := fnOf 3 4 bd_stands_against
noncomputable def bd_accepts_end : Sx Tpa :=
    (sSeq (sIf (xOrT (xNotT (xT (xCall ph_is_town [(xP 0)]))) (xOrT (xNotT (xT (xCall ph_is_purses [(xP 1), (xP 0)]))) (xOrT (xNotT (xT (xIsi "tuple" (xP 2)))) (xB (x2 sLt (xBt sLen [(xP 2)]) (xC (.int 2))))))) (sRet (xC (.bl false))) sNx)
    (sSeq (sIf (xOrT (xNotT (xT (xCall ph_is_script [(x2 sIdx (xP 2) (xC (.int 1))), (xP 0)]))) (xB (x2 (sEq true) (xBt sMinX [(x2 sIdx (xP 2) (xC (.int 1)))]) (xC (.int 0))))) (sRet (xC (.bl false))) sNx)
    (sSeq (sTo (stI 3) (xCall ph_after [(xP 0), (xP 1), (x2 sIdx (xP 2) (xC (.int 1)))]))
    (sSeq (sIf (xB (x2 (sEq false) (x2 sIdx (xP 2) (xC (.int 0))) (xC (.str "ended")))) (sRet (xAnd (x2 (sEq false) (xBt sLen [(xP 2)]) (xC (.int 2))) (x2 sGe (xBt sMinX [(xP 3)]) (xC (.int 0))))) sNx)
    (sSeq (sIf (xOrT (xB (x2 (sEq true) (x2 sIdx (xP 2) (xC (.int 0))) (xC (.str "never")))) (xOrT (xB (x2 (sEq true) (xBt sLen [(xP 2)]) (xC (.int 3)))) (xNotT (xT (xCall ph_is_order [(x2 sIdx (xP 2) (xC (.int 2))), (xP 0)]))))) (sRet (xC (.bl false))) sNx)
    (sRet (xCall ph_stands_against [(xP 0), (xP 3), (x2 sIdx (xP 2) (xC (.int 2)))])))))))
noncomputable def ph_accepts_end : Fn Tpa := fnOf 3 4 bd_accepts_end
noncomputable def bd_takings : Sx Tpa :=
    (sSeq (sTo (stI 2) (xLst [(xTup [])]))
    (sSeq (sForR (stI 3) [(x2 sSub (xP 0) (xC (.int 1)))] (sTo (stI 2) (xLc2 (stI 4) [4, 5] (xP 2) xYes (inR [(x2 sPlus (x2 sSub (xP 1) (xBt sSumX [(xP 4)])) (xC (.int 1)))]) (stI 5) [5] xYes (x2 sPlus (xP 4) (xTup [(xV 5)])))))
    (sRet (xLc (stI 4) [4] (xP 2) xYes (x2 sPlus (xP 4) (xTup [(x2 sSub (xP 1) (xBt sSumX [(xP 4)]))]))))))
noncomputable def ph_takings : Fn Tpa := fnOf 2 6 bd_takings
noncomputable def bd_is_ended : Sx Tpa :=
    (sRet (x2 sGe (x2 sIdx (x2 sIdx (xCall ph_reduced [(xP 0), (xP 1), (xC (.int 0))]) (xC (.int 0))) (xC (.int 0))) (xC (.int 0))))
noncomputable def ph_is_ended : Fn Tpa := fnOf 2 2 bd_is_ended
noncomputable def bd_rank : Sx Tpa :=
    (sSeq (sForR (stI 3) [(x2 sPlus (xP 2) (xC (.int 1)))] (sIf (xNotT (xT (xBt sAll [(xLc (stI 4) [4] (xCall ph_takings [(x2 sIdx (xP 0) (xC (.int 1))), (xP 3)]) xYes (xCall ph_is_ended [(xP 0), (xCall ph_less [(xP 1), (xP 4)])]))]))) (sRet (x2 sSub (xP 3) (xC (.int 1)))) sNx))
    (sRet (xM 2)))
noncomputable def ph_rank : Fn Tpa := fnOf 3 5 bd_rank
noncomputable def bd_taking : Sx Tpa :=
    (sSeq (sForR (stI 3) [(x2 sPlus (xP 2) (xC (.int 1)))] (sForS (stI 4) (xCall ph_takings [(x2 sIdx (xP 0) (xC (.int 1))), (xP 3)]) (sSeq (sTo (stI 5) (xCall ph_ended [(xP 0), (xCall ph_less [(xP 1), (xP 4)])]))
    (sIf (xB (x2 (sEq false) (x2 sIdx (xP 5) (xC (.int 0))) (xC (.str "never")))) (sRet (xTup [(xM 4), (xM 5)])) sNx))))
    (sRet (xC .non)))
noncomputable def ph_taking : Fn Tpa := fnOf 3 6 bd_taking
noncomputable def bd_accepts_taking : Sx Tpa :=
    (sSeq (sIf (xOrT (xNotT (xT (xCall ph_is_town [(xP 0)]))) (xOrT (xNotT (xT (xCall ph_is_purses [(xP 1), (xP 0)]))) (xOrT (xNotT (xT (xIsi "tuple" (xP 2)))) (xB (x2 (sEq true) (xBt sLen [(xP 2)]) (xC (.int 2))))))) (sRet (xC (.bl false))) sNx)
    (sSeq (sTo (stT [3, 4]) (xV 2))
    (sSeq (sIf (xOrT (xNotT (xT (xIsi "tuple" (xP 3)))) (xOrT (xB (x2 (sEq true) (xBt sLen [(xP 3)]) (x2 sIdx (xP 0) (xC (.int 1))))) (xNotT (xT (xBt sAll [(xLc (stI 6) [6] (xP 3) xYes (xCall ph_is_whole [(xP 6), (xC (.int 0)), (xC (.int 999))]))]))))) (sRet (xC (.bl false))) sNx)
    (sSeq (sTo (stI 5) (xCall ph_less [(xP 1), (xP 3)]))
    (sSeq (sIf (xOrT (xNotT (xT (xIsi "tuple" (xP 4)))) (xB (x2 (sEq true) (xSl (xP 4) none (some (xC (.int 1)))) (xTup [(xC (.str "never"))])))) (sRet (xC (.bl false))) sNx)
    (sRet (xAnd (xCall ph_is_purses [(xP 5), (xP 0)]) (xCall ph_accepts_end [(xP 0), (xP 5), (xP 4)]))))))))
noncomputable def ph_accepts_taking : Fn Tpa := fnOf 3 7 bd_accepts_taking
noncomputable def bd_bearing : Sx Tpa :=
    (sSeq (sTo (stI 3) (xLst []))
    (sSeq (sForS (stI 4) (xCall ph_takings [(x2 sIdx (xP 0) (xC (.int 1))), (xP 2)]) (sSeq (sTo (stI 5) (xCall ph_ended [(xP 0), (xCall ph_less [(xP 1), (xP 4)])]))
    (sSeq (sIf (xB (x2 (sEq false) (x2 sIdx (xP 5) (xC (.int 0))) (xC (.str "never")))) (sRet (xC .non)) sNx)
    (sApp 3 (x2 sIdx (xP 5) (xC (.int 1)))))))
    (sRet (xBt sTuple [(xP 3)]))))
noncomputable def ph_bearing : Fn Tpa := fnOf 3 6 bd_bearing
noncomputable def bd_accepts_bearing : Sx Tpa :=
    (sSeq (sIf (xOrT (xNotT (xT (xCall ph_is_town [(xP 0)]))) (xOrT (xNotT (xT (xCall ph_is_purses [(xP 1), (xP 0)]))) (xNotT (xT (xCall ph_is_whole [(xP 2), (xC (.int 0)), (xC (.int 3))]))))) (sRet (xC (.bl false))) sNx)
    (sSeq (sTo (stI 4) (xCall ph_takings [(x2 sIdx (xP 0) (xC (.int 1))), (xP 2)]))
    (sSeq (sIf (xOrT (xNotT (xT (xIsi "tuple" (xP 3)))) (xB (x2 (sEq true) (xBt sLen [(xP 3)]) (xBt sLen [(xP 4)])))) (sRet (xC (.bl false))) sNx)
    (sSeq (sForR (stI 5) [(xBt sLen [(xP 4)])] (sSeq (sIf (xOrT (xNotT (xT (xCall ph_is_script [(x2 sIdx (xP 3) (xP 5)), (xP 0)]))) (xB (x2 (sEq true) (xBt sMinX [(x2 sIdx (xP 3) (xP 5))]) (xC (.int 0))))) (sRet (xC (.bl false))) sNx)
    (sIf (xB (x2 sLt (xBt sMinX [(xCall ph_after [(xP 0), (xCall ph_less [(xP 1), (x2 sIdx (xP 4) (xP 5))]), (x2 sIdx (xP 3) (xP 5))])]) (xC (.int 0)))) (sRet (xC (.bl false))) sNx)))
    (sRet (xC (.bl true)))))))
noncomputable def ph_accepts_bearing : Fn Tpa := fnOf 4 6 bd_accepts_bearing
abbrev ph_l_take : Fn Tpa := phTake
noncomputable def bd_l_pick : Sx Tpa :=
    (sRet (x2 sIdx (xP 1) (xCall ph_l_take [(xP 0), (xBt sLen [(xP 1)])])))
noncomputable def ph_l_pick : Fn Tpa := fnOf 2 2 bd_l_pick
noncomputable def bd_l_town : Sx Tpa :=
    (sSeq (sTo (stI 3) (x2 sPlus (xC (.int 1)) (xCall ph_l_take [(xP 0), (xP 1)])))
    (sSeq (sTo (stI 4) (xLst []))
    (sSeq (sForR (stI 5) [(xC (.int 1)), (xP 3)] (sSeq (sTo (stI 6) (xCall ph_l_pick [(xP 0), (xLst [(x2 sSub (xP 5) (xC (.int 1))), (xC (.int 0)), (xCall ph_l_take [(xP 0), (xP 5)])])]))
    (sApp 4 (xTup [(xV 6), (xV 5)]))))
    (sSeq (sForR (stI 7) [(xCall ph_l_take [(xP 0), (x2 sPlus (xP 2) (xC (.int 1)))])] (sSeq (sPar [8, 6] [(xCall ph_l_take [(xP 0), (xP 3)]), (xCall ph_l_take [(xP 0), (xP 3)])])
    (sIf (xAndT (xB (x2 (sEq true) (xP 8) (xP 6))) (xB (x2 sLt (xBt sLen [(xP 4)]) (xC (.int 60))))) (sApp 4 (xTup [(xBt sMin2 [(xP 8), (xP 6)]), (xBt sMax2 [(xP 8), (xP 6)])])) sNx)))
    (sRet (xTup [(xC (.str "town")), (xM 3), (xBt sTuple [(xBt sSortX [(xP 4)])])]))))))
noncomputable def ph_l_town : Fn Tpa := fnOf 3 9 bd_l_town
noncomputable def bd_l_ends : Sx Tpa :=
    (sSeq (sTo (stI 2) (xLst []))
    (sSeq (sForS (stT [3, 4]) (x2 sIdx (xP 0) (xC (.int 2))) (sSeq (sIf (xB (x2 (sEq false) (xP 3) (xP 1))) (sApp 2 (xV 4)) sNx)
    (sIf (xB (x2 (sEq false) (xP 4) (xP 1))) (sApp 2 (xV 3)) sNx)))
    (sRet (xM 2))))
noncomputable def ph_l_ends : Fn Tpa := fnOf 2 5 bd_l_ends
noncomputable def bd_l_after : Sx Tpa :=
    (sSeq (sTo (stI 3) (xBt sList [(xP 1)]))
    (sSeq (sForS (stT [4, 5]) (x2 sIdx (xP 0) (xC (.int 2))) (sSeq (sSetI 3 (xP 4) (x2 sPlus (x2 sSub (x2 sIdx (xP 3) (xP 4)) (x2 sIdx (xP 2) (xP 4))) (x2 sIdx (xP 2) (xP 5))))
    (sSetI 3 (xP 5) (x2 sPlus (x2 sSub (x2 sIdx (xP 3) (xP 5)) (x2 sIdx (xP 2) (xP 5))) (x2 sIdx (xP 2) (xP 4))))))
    (sRet (xBt sTuple [(xP 3)]))))
noncomputable def ph_l_after : Fn Tpa := fnOf 3 6 bd_l_after
noncomputable def bd_l_purses : Sx Tpa :=
    (sRet (xBt sTuple [(xLcR (stI 3) [3] [(x2 sIdx (xP 1) (xC (.int 1)))] xYes (x2 sSub (xCall ph_l_take [(xP 0), (x2 sPlus (x2 sTimes (xC (.int 2)) (xP 2)) (xC (.int 1)))]) (xP 2)))]))
noncomputable def ph_l_purses : Fn Tpa := fnOf 3 4 bd_l_purses
noncomputable def bd_l_fire : Sx Tpa :=
    (sSeq (sTo (stI 3) (xLst [(xV 2)]))
    (sSeq (sForR (stI 4) [(x2 sIdx (xP 0) (xC (.int 1)))] (sSeq (sTo (stI 5) (xLst []))
    (sSeq (sForR (stI 6) [(x2 sIdx (xP 0) (xC (.int 1)))] (sIf (xAndT (xB (x2 (sIn true) (xP 6) (xP 3))) (xB (x2 sLt (x2 sIdx (xP 1) (xP 6)) (xBt sLen [(xLc (stI 7) [7] (xCall ph_l_ends [(xP 0), (xP 6)]) (xB (x2 (sIn false) (xP 7) (xP 3))) (xV 7))])))) (sApp 5 (xV 6)) sNx))
    (sSeq (sIf (xB (x2 (sEq false) (xBt sLen [(xP 5)]) (xC (.int 0)))) (fun t e => some (t, e, .bk)) sNx)
    (sApp 3 (x2 sIdx (xP 5) (xC (.int 0))))))))
    (sRet (xM 3))))
noncomputable def ph_l_fire : Fn Tpa := fnOf 3 8 bd_l_fire
noncomputable def bd_l_reduced : Sx Tpa :=
    (sSeq (sTo (stI 3) (xBt sTuple [(xP 1)]))
    (sSeq (sForR (stI 4) [(xC (.int 4000))] (sSeq (sTo (stI 5) (xLcR (stI 7) [7] [(x2 sIdx (xP 0) (xC (.int 1)))] (xAndT (xB (x2 (sEq true) (xP 7) (xP 2))) (xB (x2 sLt (x2 sIdx (xP 3) (xP 7)) (xC (.int 0))))) (xV 7)))
    (sSeq (sIf (xB (x2 (sEq false) (xBt sLen [(xP 5)]) (xC (.int 0)))) (fun t e => some (t, e, .bk)) sNx)
    (sTo (stI 3) (xCall ph_l_after [(xP 0), (xP 3), (xBt sTuple [(xLcR (stI 7) [7] [(x2 sIdx (xP 0) (xC (.int 1)))] xYes (xIf (xB (x2 (sEq false) (xP 7) (x2 sIdx (xP 5) (xC (.int 0))))) (x1 sNeg (xC (.int 1))) (xC (.int 0))))])])))))
    (sSeq (sForR (stI 4) [(xC (.int 4000))] (sSeq (sTo (stI 6) (xCall ph_l_fire [(xP 0), (xP 3), (xP 2)]))
    (sSeq (sIf (xB (x2 (sEq false) (xBt sLen [(xP 6)]) (x2 sIdx (xP 0) (xC (.int 1))))) (fun t e => some (t, e, .bk)) sNx)
    (sTo (stI 3) (xCall ph_l_after [(xP 0), (xP 3), (xBt sTuple [(xLcR (stI 7) [7] [(x2 sIdx (xP 0) (xC (.int 1)))] xYes (xIf (xB (x2 (sIn false) (xP 7) (xP 6))) (xC (.int 0)) (xC (.int 1))))])])))))
    (sRet (xM 3)))))
noncomputable def ph_l_reduced : Fn Tpa := fnOf 3 8 bd_l_reduced
noncomputable def bd_l_script : Sx Tpa :=
    (sRet (xAnd (xIsi "tuple" (xP 0)) (xAnd (x2 (sEq false) (xBt sLen [(xP 0)]) (xP 1)) (x2 (sEq false) (xBt sLen [(xLc (stI 2) [2] (xP 0) (xOrT (xNotT (xT (xIsi "int" (xP 2)))) (xT (xIsi "bool" (xP 2)))) (xV 2))]) (xC (.int 0))))))
noncomputable def ph_l_script : Fn Tpa := fnOf 2 3 bd_l_script
noncomputable def bd_l_against : Sx Tpa :=
    (sSeq (sIf (xOrT (xNotT (xT (xCall ph_l_script [(xP 2), (x2 sIdx (xP 0) (xC (.int 1)))]))) (xB (x2 (sEq true) (xBt sSortX [(xP 2)]) (xRg1 .lst (x2 sIdx (xP 0) (xC (.int 1))))))) (sRet (xC (.bl false))) sNx)
    (sSeq (sForR (stI 3) [(xBt sLen [(xP 2)])] (sIf (xB (x2 sGe (x2 sIdx (xP 1) (x2 sIdx (xP 2) (xP 3))) (xBt sLen [(xLc (stI 4) [4] (xCall ph_l_ends [(xP 0), (x2 sIdx (xP 2) (xP 3))]) (xB (x2 (sIn false) (xP 4) (xSl (xP 2) none (some (xP 3))))) (xV 4))]))) (sRet (xC (.bl false))) sNx))
    (sRet (xC (.bl true)))))
noncomputable def ph_l_against : Fn Tpa := fnOf 3 5 bd_l_against
noncomputable def bd_l_end_right : Sx Tpa :=
    (sSeq (sIf (xOrT (xNotT (xT (xIsi "tuple" (xP 2)))) (xOrT (xB (x2 sLt (xBt sLen [(xP 2)]) (xC (.int 2)))) (xOrT (xNotT (xT (xCall ph_l_script [(x2 sIdx (xP 2) (xC (.int 1))), (x2 sIdx (xP 0) (xC (.int 1)))]))) (xB (x2 (sEq true) (x2 sIdx (xBt sSortX [(x2 sIdx (xP 2) (xC (.int 1)))]) (xC (.int 0))) (xC (.int 0))))))) (sRet (xC (.bl false))) sNx)
    (sSeq (sTo (stI 3) (xCall ph_l_after [(xP 0), (xP 1), (x2 sIdx (xP 2) (xC (.int 1)))]))
    (sSeq (sIf (xB (x2 (sEq false) (x2 sIdx (xP 2) (xC (.int 0))) (xC (.str "ended")))) (sRet (xAnd (x2 (sEq false) (xBt sLen [(xP 2)]) (xC (.int 2))) (x2 sGe (x2 sIdx (xBt sSortX [(xP 3)]) (xC (.int 0))) (xC (.int 0))))) sNx)
    (sRet (xAnd (x2 (sEq false) (x2 sIdx (xP 2) (xC (.int 0))) (xC (.str "never"))) (xAnd (x2 (sEq false) (xBt sLen [(xP 2)]) (xC (.int 3))) (xCall ph_l_against [(xP 0), (xP 3), (x2 sIdx (xP 2) (xC (.int 2)))])))))))
noncomputable def ph_l_end_right : Fn Tpa := fnOf 3 4 bd_l_end_right
noncomputable def bd_l_takings : Sx Tpa :=
    (sSeq (sTo (stI 2) (xLst [(xTup [])]))
    (sSeq (sForR (stI 3) [(xP 0)] (sSeq (sTo (stI 4) (xLst []))
    (sSeq (sForS (stI 5) (xF 2) (sTo (stI 4) (x2 sPlus (xP 4) (xLcR (stI 6) [6] [(x2 sPlus (xP 1) (xC (.int 1)))] (xB (x2 sLe (x2 sPlus (xBt sSumX [(xP 5)]) (xP 6)) (xP 1))) (x2 sPlus (xP 5) (xTup [(xV 6)]))))))
    (sTo (stI 2) (xM 4)))))
    (sRet (xLc (stI 5) [5] (xP 2) (xB (x2 (sEq false) (xBt sSumX [(xP 5)]) (xP 1))) (xV 5)))))
noncomputable def ph_l_takings : Fn Tpa := fnOf 2 7 bd_l_takings
noncomputable def bd_l_rank : Sx Tpa :=
    (sSeq (sForR (stI 3) [(x2 sPlus (xP 2) (xC (.int 1)))] (sForS (stI 4) (xCall ph_l_takings [(x2 sIdx (xP 0) (xC (.int 1))), (xP 3)]) (sIf (xB (x2 sLt (x2 sIdx (xCall ph_l_reduced [(xP 0), (xBt sTuple [(xLcR (stI 5) [5] [(x2 sIdx (xP 0) (xC (.int 1)))] xYes (x2 sSub (x2 sIdx (xP 1) (xP 5)) (x2 sIdx (xP 4) (xP 5))))]), (xC (.int 0))]) (xC (.int 0))) (xC (.int 0)))) (sRet (x2 sSub (xP 3) (xC (.int 1)))) sNx)))
    (sRet (xM 2)))
noncomputable def ph_l_rank : Fn Tpa := fnOf 3 6 bd_l_rank
noncomputable def bd_l_taking_right : Sx Tpa :=
    (sSeq (sIf (xOrT (xNotT (xT (xIsi "tuple" (xP 2)))) (xOrT (xB (x2 (sEq true) (xBt sLen [(xP 2)]) (xC (.int 2)))) (xOrT (xNotT (xT (xIsi "tuple" (x2 sIdx (xP 2) (xC (.int 0)))))) (xB (x2 (sEq true) (xBt sLen [(x2 sIdx (xP 2) (xC (.int 0)))]) (x2 sIdx (xP 0) (xC (.int 1)))))))) (sRet (xC (.bl false))) sNx)
    (sSeq (sIf (xOrT (xNotT (xT (xCall ph_l_script [(x2 sIdx (xP 2) (xC (.int 0))), (x2 sIdx (xP 0) (xC (.int 1)))]))) (xB (x2 sGt (xBt sLen [(xLc (stI 4) [4] (x2 sIdx (xP 2) (xC (.int 0))) (xOrT (xB (x2 sLt (xP 4) (xC (.int 0)))) (xB (x2 sGt (xP 4) (xC (.int 999))))) (xV 4))]) (xC (.int 0))))) (sRet (xC (.bl false))) sNx)
    (sSeq (sTo (stI 3) (xBt sTuple [(xLcR (stI 5) [5] [(x2 sIdx (xP 0) (xC (.int 1)))] xYes (x2 sSub (x2 sIdx (xP 1) (xP 5)) (x2 sIdx (x2 sIdx (xP 2) (xC (.int 0))) (xP 5))))]))
    (sSeq (sIf (xOrT (xB (x2 sGt (xBt sLen [(xLc (stI 4) [4] (xP 3) (xB (x2 sGt (xBt sAbs [(xP 4)]) (xC (.int 999)))) (xV 4))]) (xC (.int 0)))) (xOrT (xNotT (xT (xIsi "tuple" (x2 sIdx (xP 2) (xC (.int 1)))))) (xB (x2 (sEq true) (xSl (x2 sIdx (xP 2) (xC (.int 1))) none (some (xC (.int 1)))) (xTup [(xC (.str "never"))]))))) (sRet (xC (.bl false))) sNx)
    (sRet (xCall ph_l_end_right [(xP 0), (xP 3), (x2 sIdx (xP 2) (xC (.int 1)))]))))))
noncomputable def ph_l_taking_right : Fn Tpa := fnOf 3 6 bd_l_taking_right
noncomputable def bd_l_bent : Sx Tpa :=
    (sSeq (sTo (stI 3) (xCall ph_l_take [(xP 0), (x2 sIdx (xP 1) (xC (.int 1)))]))
    (sSeq (sTo (stT [4, 5]) (xV 2))
    (sRet (xCall ph_l_pick [(xP 0), (xLst [(xTup [(x2 sPlus (x2 sPlus (xSl (xP 4) none (some (xP 3))) (xTup [(x2 sPlus (x2 sIdx (xP 4) (xP 3)) (xC (.int 1)))])) (xSl (xP 4) (some (x2 sPlus (xP 3) (xC (.int 1)))) none)), (xV 5)]), (xTup [(x2 sPlus (x2 sPlus (xSl (xP 4) none (some (xP 3))) (xTup [(xCall ph_l_pick [(xP 0), (xLst [(x1 sNeg (xC (.int 1))), (xC .non), (xC (.bl true)), (xC (.int 1000))])])])) (xSl (xP 4) (some (x2 sPlus (xP 3) (xC (.int 1)))) none)), (xV 5)]), (xTup [(xV 4), (xSl (xP 5) none (some (xC (.int 2))))]), (xTup [(xV 4), (x2 sPlus (xTup [(xC (.str "ended"))]) (xSl (xP 5) (some (xC (.int 1))) none))]), (xTup [(xV 4), (xC .non)]), (xTup [(xBt sList [(xP 4)]), (xV 5)]), (xTup [(xV 4)]), (x2 sPlus (xP 2) (xTup [(xC (.int 0))])), (xC .non), (xTup [(xV 4), (x2 sPlus (xSl (xP 5) none (some (xC (.int 2)))) (xTup [(x1 sRev (x2 sIdx (xP 5) (xC (.int 2))))]))]), (xTup [(xV 4), (xTup [(xC (.str "never")), (xBt sTuple [(xLc (stI 6) [6] (x2 sIdx (xP 5) (xC (.int 1))) xYes (x2 sPlus (xP 6) (xC (.int 1))))]), (x2 sIdx (xP 5) (xC (.int 2)))])]), (xTup [(x2 sPlus (xP 4) (xTup [(xC (.int 0))])), (xV 5)]), (xC (.int 5))])]))))
noncomputable def ph_l_bent : Fn Tpa := fnOf 3 7 bd_l_bent
noncomputable def bd_l_bearing_right : Sx Tpa :=
    (sSeq (sTo (stI 4) (xCall ph_l_takings [(x2 sIdx (xP 0) (xC (.int 1))), (xP 2)]))
    (sSeq (sIf (xOrT (xNotT (xT (xIsi "tuple" (xP 3)))) (xB (x2 (sEq true) (xBt sLen [(xP 3)]) (xBt sLen [(xP 4)])))) (sRet (xC (.bl false))) sNx)
    (sSeq (sForR (stI 5) [(xBt sLen [(xP 4)])] (sSeq (sIf (xOrT (xNotT (xT (xCall ph_l_script [(x2 sIdx (xP 3) (xP 5)), (x2 sIdx (xP 0) (xC (.int 1)))]))) (xB (x2 (sEq true) (x2 sIdx (xBt sSortX [(x2 sIdx (xP 3) (xP 5))]) (xC (.int 0))) (xC (.int 0))))) (sRet (xC (.bl false))) sNx)
    (sIf (xB (x2 sLt (x2 sIdx (xBt sSortX [(xCall ph_l_after [(xP 0), (xBt sTuple [(xLcR (stI 6) [6] [(x2 sIdx (xP 0) (xC (.int 1)))] xYes (x2 sSub (x2 sIdx (xP 1) (xP 6)) (x2 sIdx (x2 sIdx (xP 4) (xP 5)) (xP 6))))]), (x2 sIdx (xP 3) (xP 5))])]) (xC (.int 0))) (xC (.int 0)))) (sRet (xC (.bl false))) sNx)))
    (sRet (xC (.bl true))))))
noncomputable def ph_l_bearing_right : Fn Tpa := fnOf 4 7 bd_l_bearing_right
noncomputable def bd_l_bears : Sx Tpa :=
    (sSeq (sForR (stI 5) [(x2 sPlus (xP 4) (xC (.int 1)))] (sSeq (sTo (stI 6) (xCall ph_bearing [(xP 1), (xP 2), (xP 5)]))
    (sSeq (sIf (xB (x2 (sEq true) (x2 (sIsN false) (xP 6) (xC .non)) (x2 sGt (xP 5) (xP 3)))) (sRet (xC (.bl false))) sNx)
    (sIf (xB (x2 (sIsN true) (xP 6) (xC .non))) (sSeq (sIf (xOrT (xNotT (xT (xCall ph_l_bearing_right [(xP 1), (xP 2), (xP 5), (xP 6)]))) (xB (x2 (sIs true) (xCall ph_accepts_bearing [(xP 1), (xP 2), (xP 5), (xP 6)]) (xC (.bl true))))) (sRet (xC (.bl false))) sNx)
    (sSeq (sTo (stI 7) (xCall ph_l_take [(xP 0), (xBt sLen [(xP 6)])]))
    (sSeq (sTo (stI 8) (xBt sTuple [(xLc (stI 13) [13] (x2 sIdx (xP 6) (xP 7)) xYes (x2 sPlus (xP 13) (xC (.int 1))))]))
    (sSeq (sTo (stI 9) (xBt sTuple [(xLcR (stI 14) [14] [(x2 sIdx (xP 1) (xC (.int 1)))] xYes (xIf (xB (x2 (sEq false) (xP 14) (xC (.int 0)))) (xC (.int 1)) (xC (.int 0))))]))
    (sSeq (sTo (stI 10) (xLst [(xV 8), (xV 9), (x2 sTimes (xTup [(xC (.int 0))]) (x2 sIdx (xP 1) (xC (.int 1)))), (xC .non), (xBt sList [(x2 sIdx (xP 6) (xP 7))]), (xSl (x2 sIdx (xP 6) (xP 7)) (some (xC (.int 1))) none), (x2 sIdx (xP 6) (x2 sSub (xP 7) (xC (.int 1))))]))
    (sSeq (sForS (stI 11) (x2 sPlus (xLc (stI 8) [8] (xF 10) xYes (x2 sPlus (x2 sPlus (xSl (xP 6) none (some (xP 7))) (xTup [(xV 8)])) (xSl (xP 6) (some (x2 sPlus (xP 7) (xC (.int 1)))) none))) (xLst [(xSl (xP 6) (some (xC (.int 1))) none), (x2 sPlus (xP 6) (xSl (xP 6) none (some (xC (.int 1))))), (xBt sList [(xP 6)]), (xC .non), (x1 sRev (xP 6))])) (sSeq (sTo (stI 12) (xCall ph_accepts_bearing [(xP 1), (xP 2), (xP 5), (xP 11)]))
    (sIf (xOrT (xNotT (xT (xIsi "bool" (xP 12)))) (xB (x2 (sEq true) (xP 12) (xCall ph_l_bearing_right [(xP 1), (xP 2), (xP 5), (xP 11)])))) (sRet (xC (.bl false))) sNx)))
    (sIf (xB (x2 (sIs true) (xCall ph_accepts_bearing [(xP 1), (xP 2), (xCall ph_l_pick [(xP 0), (xLst [(xC (.int 4)), (x1 sNeg (xC (.int 1))), (xC .non), (xC (.bl true))])]), (xP 6)]) (xC (.bl false)))) (sRet (xC (.bl false))) sNx))))))) sNx))))
    (sRet (xAnd (x2 (sIs false) (xCall ph_accepts_bearing [(xP 1), (xP 2), (xC (.int 0)), (xC .non)]) (xC (.bl false))) (x2 (sIs false) (xCall ph_accepts_bearing [(xC .non), (xP 2), (xC (.int 0)), (xTup [(xTup [(xC (.int 0))])])]) (xC (.bl false))))))
noncomputable def ph_l_bears : Fn Tpa := fnOf 5 15 bd_l_bears
noncomputable def bd_law : Sx Tpa :=
    (sSeq (sIf (xB (x2 (sEq true) (xC (.int 3)) (xC (.int 3)))) (sRet (xC (.bl false))) sNx)
    (sSeq (sTo (stI 2) (xCall ph_l_town [(xP 1), (xC (.int 4)), (xC (.int 4))]))
    (sSeq (sTo (stI 3) (x2 sIdx (xP 2) (xC (.int 1))))
    (sSeq (sTo (stI 4) (xCall ph_l_take [(xP 1), (xC (.int 4))]))
    (sSeq (sIf (xB (x2 (sEq true) (xCall ph_takings [(xP 3), (xP 4)]) (xCall ph_l_takings [(xP 3), (xP 4)]))) (sRet (xC (.bl false))) sNx)
    (sSeq (sTo (stI 5) (xCall ph_l_purses [(xP 1), (xP 2), (xC (.int 2))]))
    (sSeq (sTo (stI 6) (xCall ph_l_take [(xP 1), (xP 3)]))
    (sSeq (sTo (stI 5) (x2 sPlus (x2 sPlus (xSl (xP 5) none (some (xP 6))) (xTup [(x2 sSub (x2 sSub (x2 sPlus (x2 sIdx (xP 5) (xP 6)) (xCall ph_l_take [(xP 1), (xC (.int 12))])) (xC (.int 2))) (xBt sSumX [(xP 5)]))])) (xSl (xP 5) (some (x2 sPlus (xP 6) (xC (.int 1)))) none)))
    (sSeq (sTo (stI 7) (xCall ph_l_take [(xP 1), (xC (.int 4))]))
    (sSeq (sTo (stI 8) (xCall ph_l_rank [(xP 2), (xP 5), (xP 7)]))
    (sSeq (sIf (xB (x2 (sEq true) (xCall ph_rank [(xP 2), (xP 5), (xP 7)]) (xP 8))) (sRet (xC (.bl false))) sNx)
    (sSeq (sIf (xNotT (xT (xCall ph_l_bears [(xP 1), (xP 2), (xP 5), (xP 8), (xP 7)]))) (sRet (xC (.bl false))) sNx)
    (sSeq (sTo (stI 9) (xCall ph_taking [(xP 2), (xP 5), (xP 7)]))
    (sSeq (sIf (xB (x2 (sEq true) (x2 (sIsN false) (xP 9) (xC .non)) (x2 (sEq false) (xP 8) (xP 7)))) (sRet (xC (.bl false))) sNx)
    (sSeq (sIf (xB (x2 (sIsN false) (xP 9) (xC .non))) (sSeq (sTo (stI 10) (xBt sTuple [(xLcR (stI 14) [14] [(xP 3)] xYes (xIf (xB (x2 (sEq true) (xP 14) (xP 6))) (xC (.int 0)) (xC (.int 900))))]))
    (sTo (stI 9) (xTup [(xV 10), (xC .non)]))) (sIf (xOrT (xB (x2 (sEq true) (xBt sSumX [(x2 sIdx (xP 9) (xC (.int 0)))]) (x2 sPlus (xP 8) (xC (.int 1))))) (xOrT (xNotT (xT (xCall ph_l_taking_right [(xP 2), (xP 5), (xP 9)]))) (xB (x2 (sIs true) (xCall ph_accepts_taking [(xP 2), (xP 5), (xP 9)]) (xC (.bl true)))))) (sRet (xC (.bl false))) sNx))
    (sSeq (sIf (xB (x2 (sIsN true) (x2 sIdx (xP 9) (xC (.int 1))) (xC .non))) (sForR (stI 11) [(xC (.int 6))] (sSeq (sTo (stI 12) (xCall ph_l_bent [(xP 1), (xP 2), (xP 9)]))
    (sSeq (sTo (stI 13) (xCall ph_accepts_taking [(xP 2), (xP 5), (xP 12)]))
    (sIf (xOrT (xNotT (xT (xIsi "bool" (xP 13)))) (xB (x2 (sEq true) (xP 13) (xCall ph_l_taking_right [(xP 2), (xP 5), (xP 12)])))) (sRet (xC (.bl false))) sNx)))) sNx)
    (sRet (xAnd (x2 (sIs false) (xCall ph_accepts_taking [(xC .non), (xP 5), (xP 9)]) (xC (.bl false))) (x2 (sIs false) (xCall ph_accepts_taking [(xP 2), (xBt sList [(xP 5)]), (xP 9)]) (xC (.bl false)))))))))))))))))))))
end Lw
set_option Elab.async false
set_option linter.all false
set_option maxRecDepth 100000
set_option maxHeartbeats 4000000
namespace Lw
open PySem L2 Fw
local macro_rules | `(tactic| walk_at "red") => `(tactic| focus ((try dsimp only [jn, jn2, List.map]); try rfl))
local macro_rules | `(tactic| walk_at "slots") => `(tactic| focus ((try simp only [List.map_cons, List.map_nil, List.replicate, List.cons_append, List.nil_append, Nat.reduceSub]); try rfl))
local macro_rules | `(tactic| walk_at "imm") => `(tactic| assumption)
local macro_rules | `(tactic| walk_at "imm") => `(tactic| exact immA_nats)
local macro_rules | `(tactic| walk_at "imm") => `(tactic| exact immA_ints)
local macro_rules | `(tactic| walk_at "imm") => `(tactic| exact immA_vec)
local macro_rules | `(tactic| walk_at "imm") => `(tactic| exact imm_vec)
local macro_rules | `(tactic| walk_at "imm") => `(tactic| rfl)
local macro_rules | `(tactic| walk_at "set") => `(tactic| focus ((try dsimp only [wipeE, List.set, frzAll, List.map]); try rfl))
local macro_rules | `(tactic| walk_at "len") => `(tactic| (simp only [List.length_map, List.length_range, List.length_append, List.length_cons, List.length_nil, vec_len]; rfl))
local macro_rules | `(tactic| walk_at "len") => `(tactic| (simp only [List.length_map, List.length_range, List.length_append, List.length_cons, List.length_nil, vec_len]; done))
local macro_rules | `(tactic| walk_at "len") => `(tactic| exact vec_len)
local macro_rules | `(tactic| walk_at "len") => `(tactic| rfl)
local macro_rules | `(tactic| walk_at "lt") => `(tactic| (simp only [List.length_map, List.length_range, List.length_append, List.length_cons, List.length_nil, vec_len]; omega))
local macro_rules | `(tactic| walk_at "lt") => `(tactic| omega)
local macro_rules | `(tactic| walk_at "lt") => `(tactic| exact Nat.le_of_ble_eq_true rfl)
local macro_rules | `(tactic| walk_at "lt") => `(tactic| assumption)
local macro_rules | `(tactic| walk_at "bnd") => `(tactic| exact bnd_of (by omega) (by omega))
local macro_rules | `(tactic| walk_at "ints") => `(tactic| assumption)
local macro_rules | `(tactic| walk_at "ints") => `(tactic| rfl)
local macro_rules | `(tactic| walk_at "ints") => `(tactic| exact intsD_mapf)
local macro_rules | `(tactic| walk_at "ints") => `(tactic| exact intsD_map _)
local macro_rules | `(tactic| walk_at "ints") => `(tactic| exact intsD_vec)
local macro_rules | `(tactic| walk_at "cok") => `(tactic| assumption)
local macro_rules | `(tactic| walk_at "cok") => `(tactic| exact cok_natsl)
local macro_rules | `(tactic| walk_at "cok") => `(tactic| exact cok_nats)
local macro_rules | `(tactic| walk_at "cok") => `(tactic| exact cok_intsl)
local macro_rules | `(tactic| walk_at "cok") => `(tactic| exact cok_ints)
local macro_rules | `(tactic| walk_at "cok") => `(tactic| exact cok_vecl)
local macro_rules | `(tactic| walk_at "cok") => `(tactic| exact cok_vec)
local macro_rules | `(tactic| walk_at "cok") => `(tactic| rfl)
local macro_rules | `(tactic| walk_at "asg") => `(tactic| ((with_reducible apply stT_of); (focus ((try dsimp only [List.map, subg]); try rfl)); (walk_at "asg")))
local macro_rules | `(tactic| walk_at "asg") => `(tactic| ((with_reducible apply stA_cons); (walk_at "asg"); (walk_at "asg")))
local macro_rules | `(tactic| walk_at "asg") => `(tactic| (with_reducible exact stA_nil))
local macro_rules | `(tactic| walk_at "asg") => `(tactic| ((with_reducible apply stI_pk); (exact Nat.le_of_ble_eq_true rfl); (walk_at "set")))
local macro_rules | `(tactic| walk_at "asg") => `(tactic| ((with_reducible apply stI_frz); (exact Nat.le_of_ble_eq_true rfl); (walk_at "set")))
local macro_rules | `(tactic| walk_at "asg") => `(tactic| ((with_reducible apply stI_own); (exact Nat.le_of_ble_eq_true rfl); (walk_at "set")))
local macro_rules | `(tactic| walk_at "op") => `(tactic| with_reducible exact o_is_b)
local macro_rules | `(tactic| walk_at "op") => `(tactic| ((with_reducible apply o_pow'); rfl))
local macro_rules | `(tactic| walk_at "op") => `(tactic| ((with_reducible apply o_ne_s); (walk_at "cok"); with_reducible rfl))
local macro_rules | `(tactic| walk_at "op") => `(tactic| ((with_reducible apply o_eq_s); (walk_at "cok"); with_reducible rfl))
local macro_rules | `(tactic| walk_at "op") => `(tactic| with_reducible exact o_sort_p)
local macro_rules | `(tactic| walk_at "op") => `(tactic| ((with_reducible apply o_sort_t); (walk_at "ints")))
local macro_rules | `(tactic| walk_at "op") => `(tactic| ((with_reducible apply o_sort); (walk_at "ints")))
local macro_rules | `(tactic| walk_at "op") => `(tactic| ((with_reducible apply o_sum_l); (walk_at "ints")))
local macro_rules | `(tactic| walk_at "op") => `(tactic| ((with_reducible apply o_sum_t); (walk_at "ints")))
local macro_rules | `(tactic| walk_at "op") => `(tactic| ((with_reducible apply o_list_t); (walk_at "imm")))
local macro_rules | `(tactic| walk_at "op") => `(tactic| ((with_reducible apply o_list_i); (walk_at "imm")))
local macro_rules | `(tactic| walk_at "op") => `(tactic| with_reducible exact o_tuple_t)
local macro_rules | `(tactic| walk_at "op") => `(tactic| ((with_reducible apply o_tuple_i); (walk_at "imm")))
local macro_rules | `(tactic| walk_at "op") => `(tactic| with_reducible exact o_tuple)
local macro_rules | `(tactic| walk_at "op") => `(tactic| ((with_reducible apply o_len_l); (walk_at "len")))
local macro_rules | `(tactic| walk_at "op") => `(tactic| ((with_reducible apply o_len_t); (walk_at "len")))
local macro_rules | `(tactic| walk_at "op") => `(tactic| ((with_reducible apply o_idx_l); rfl; (walk_at "imm")))
local macro_rules | `(tactic| walk_at "op") => `(tactic| ((with_reducible apply o_idx_t); rfl; (walk_at "imm")))
local macro_rules | `(tactic| walk_at "op") => `(tactic| ((with_reducible apply o_idx_ln); assumption))
local macro_rules | `(tactic| walk_at "op") => `(tactic| ((with_reducible apply o_idx_tn); assumption))
local macro_rules | `(tactic| walk_at "op") => `(tactic| with_reducible exact o_idx_hd)
local macro_rules | `(tactic| walk_at "op") => `(tactic| with_reducible exact o_rev_tn)
local macro_rules | `(tactic| walk_at "op") => `(tactic| with_reducible exact o_cut_m1t)
local macro_rules | `(tactic| walk_at "op") => `(tactic| with_reducible exact o_cut_m1l)
local macro_rules | `(tactic| walk_at "op") => `(tactic| with_reducible exact o_cut_lol)
local macro_rules | `(tactic| walk_at "op") => `(tactic| with_reducible exact o_cut_hil)
local macro_rules | `(tactic| walk_at "op") => `(tactic| with_reducible exact o_cut_lon)
local macro_rules | `(tactic| walk_at "op") => `(tactic| with_reducible exact o_cut_hin)
local macro_rules | `(tactic| walk_at "op") => `(tactic| ((with_reducible apply o_idxl_vec); (walk_at "lt")))
local macro_rules | `(tactic| walk_at "op") => `(tactic| ((with_reducible apply o_idx_vec); (walk_at "lt")))
local macro_rules | `(tactic| walk_at "op") => `(tactic| ((with_reducible apply o_fdiv) <;> omega))
local macro_rules | `(tactic| walk_at "op") => `(tactic| ((with_reducible apply o_mod); omega))
local macro_rules | `(tactic| walk_at "op") => `(tactic| ((with_reducible apply o_times_l); (walk_at "bnd")))
local macro_rules | `(tactic| walk_at "op") => `(tactic| ((with_reducible apply o_times_r); (walk_at "bnd")))
local macro_rules | `(tactic| walk_at "op") => `(tactic| with_reducible exact o_any)
local macro_rules | `(tactic| walk_at "op") => `(tactic| with_reducible exact o_all)
local macro_rules | `(tactic| walk_at "op") => `(tactic| with_reducible exact o_nin_t)
local macro_rules | `(tactic| walk_at "op") => `(tactic| with_reducible exact o_in_t)
local macro_rules | `(tactic| walk_at "op") => `(tactic| with_reducible exact o_nin_l)
local macro_rules | `(tactic| walk_at "op") => `(tactic| with_reducible exact o_in_l)
local macro_rules | `(tactic| walk_at "op") => `(tactic| with_reducible exact o_any')
local macro_rules | `(tactic| walk_at "op") => `(tactic| with_reducible exact o_all')
local macro_rules | `(tactic| walk_at "op") => `(tactic| with_reducible exact o_nin_tn)
local macro_rules | `(tactic| walk_at "op") => `(tactic| with_reducible exact o_nin_ln)
local macro_rules | `(tactic| walk_at "op") => `(tactic| with_reducible exact o_in_tn)
local macro_rules | `(tactic| walk_at "op") => `(tactic| with_reducible exact o_in_ln)
local macro_rules | `(tactic| walk_at "op") => `(tactic| ((with_reducible apply o_dgetN); assumption))
local macro_rules | `(tactic| walk_at "op") => `(tactic| with_reducible exact o_ndinN)
local macro_rules | `(tactic| walk_at "op") => `(tactic| with_reducible exact o_dinN)
local macro_rules | `(tactic| walk_at "op") => `(tactic| with_reducible exact o_min2)
local macro_rules | `(tactic| walk_at "op") => `(tactic| with_reducible exact o_max2)
local macro_rules | `(tactic| walk_at "op") => `(tactic| with_reducible exact o_eq_b)
local macro_rules | `(tactic| walk_at "op") => `(tactic| with_reducible exact o_ne_i)
local macro_rules | `(tactic| walk_at "op") => `(tactic| with_reducible exact o_eq_i)
local macro_rules | `(tactic| walk_at "op") => `(tactic| with_reducible exact o_ne_n)
local macro_rules | `(tactic| walk_at "op") => `(tactic| with_reducible exact o_eq_n)
local macro_rules | `(tactic| walk_at "op") => `(tactic| with_reducible exact o_neg)
local macro_rules | `(tactic| walk_at "op") => `(tactic| with_reducible exact o_ge)
local macro_rules | `(tactic| walk_at "op") => `(tactic| with_reducible exact o_gt)
local macro_rules | `(tactic| walk_at "op") => `(tactic| with_reducible exact o_le)
local macro_rules | `(tactic| walk_at "op") => `(tactic| with_reducible exact o_lt)
local macro_rules | `(tactic| walk_at "op") => `(tactic| with_reducible exact o_sub)
local macro_rules | `(tactic| walk_at "op") => `(tactic| with_reducible exact o_plus)
local macro_rules | `(tactic| walk_at "e1") => `(tactic| ((with_reducible apply w_fn); rfl; (walk_at "slots")))
local macro_rules | `(tactic| walk_at "e1") => `(tactic| with_reducible apply k_drop)
local macro_rules | `(tactic| walk_at "e1") => `(tactic| with_reducible apply w_drop)
local macro_rules | `(tactic| walk_at "e1") => `(tactic| with_reducible apply w_mdk)
local macro_rules | `(tactic| walk_at "e1") => `(tactic| with_reducible apply w_dput)
local macro_rules | `(tactic| walk_at "e1") => `(tactic| ((with_reducible apply k_dsp2); (walk_at "red")))
local macro_rules | `(tactic| walk_at "e1") => `(tactic| with_reducible apply k_dsp)
local macro_rules | `(tactic| walk_at "e1") => `(tactic| with_reducible apply k_dspE)
local macro_rules | `(tactic| walk_at "e1") => `(tactic| with_reducible apply w_dspE)
local macro_rules | `(tactic| walk_at "e1") => `(tactic| with_reducible apply w_dspL)
local macro_rules | `(tactic| walk_at "e1") => `(tactic| with_reducible apply w_dspI)
local macro_rules | `(tactic| walk_at "e1") => `(tactic| with_reducible apply k_j)
local macro_rules | `(tactic| walk_at "e1") => `(tactic| ((with_reducible apply k_cut); (walk_at "op")))
local macro_rules | `(tactic| walk_at "e1") => `(tactic| with_reducible apply k_lo)
local macro_rules | `(tactic| walk_at "e1") => `(tactic| with_reducible apply k_iv)
local macro_rules | `(tactic| walk_at "e1") => `(tactic| with_reducible apply w_os)
local macro_rules | `(tactic| walk_at "e1") => `(tactic| with_reducible apply w_on)
local macro_rules | `(tactic| walk_at "e1") => `(tactic| with_reducible apply k_sl)
local macro_rules | `(tactic| walk_at "e1") => `(tactic| with_reducible apply w_sl)
local macro_rules | `(tactic| walk_at "e1") => `(tactic| with_reducible apply k_inR2)
local macro_rules | `(tactic| walk_at "e1") => `(tactic| with_reducible apply k_inR)
local macro_rules | `(tactic| walk_at "e1") => `(tactic| with_reducible apply w_inR)
local macro_rules | `(tactic| walk_at "e1") => `(tactic| ((with_reducible apply k_rg1); (first | assumption | omega)))
local macro_rules | `(tactic| walk_at "e1") => `(tactic| with_reducible apply w_rg1)
local macro_rules | `(tactic| walk_at "e1") => `(tactic| with_reducible apply w_dct)
local macro_rules | `(tactic| walk_at "e1") => `(tactic| with_reducible apply k_notX)
local macro_rules | `(tactic| walk_at "e1") => `(tactic| with_reducible apply w_notX)
local macro_rules | `(tactic| walk_at "e1") => `(tactic| ((with_reducible apply k_or_f); rfl))
local macro_rules | `(tactic| walk_at "e1") => `(tactic| ((with_reducible apply k_or_t); rfl))
local macro_rules | `(tactic| walk_at "e1") => `(tactic| with_reducible apply w_orX)
local macro_rules | `(tactic| walk_at "e1") => `(tactic| ((with_reducible apply k_and_f); rfl))
local macro_rules | `(tactic| walk_at "e1") => `(tactic| ((with_reducible apply k_and_t); rfl))
local macro_rules | `(tactic| walk_at "e1") => `(tactic| with_reducible apply w_andX)
local macro_rules | `(tactic| walk_at "e1") => `(tactic| with_reducible apply k_qb)
local macro_rules | `(tactic| walk_at "e1") => `(tactic| with_reducible apply k_qc)
local macro_rules | `(tactic| walk_at "e1") => `(tactic| with_reducible apply k_itb)
local macro_rules | `(tactic| walk_at "e1") => `(tactic| with_reducible apply k_itr)
local macro_rules | `(tactic| walk_at "e1") => `(tactic| with_reducible apply k_itc)
local macro_rules | `(tactic| walk_at "e1") => `(tactic| with_reducible apply k_itn)
local macro_rules | `(tactic| walk_at "e1") => `(tactic| with_reducible apply k_lcf)
local macro_rules | `(tactic| walk_at "e1") => `(tactic| with_reducible apply k_lc)
local macro_rules | `(tactic| walk_at "e1") => `(tactic| ((with_reducible apply k_lcd_f); rfl))
local macro_rules | `(tactic| walk_at "e1") => `(tactic| ((with_reducible apply k_lcd_t); rfl))
local macro_rules | `(tactic| walk_at "e1") => `(tactic| with_reducible apply w_yes)
local macro_rules | `(tactic| walk_at "e1") => `(tactic| with_reducible apply w_xLc2R)
local macro_rules | `(tactic| walk_at "e1") => `(tactic| with_reducible apply w_xLc2)
local macro_rules | `(tactic| walk_at "e1") => `(tactic| with_reducible apply w_xLcR)
local macro_rules | `(tactic| walk_at "e1") => `(tactic| with_reducible apply w_xLc)
local macro_rules | `(tactic| walk_at "e1") => `(tactic| with_reducible apply w_forR)
local macro_rules | `(tactic| walk_at "e1") => `(tactic| with_reducible apply w_forS)
local macro_rules | `(tactic| walk_at "e1") => `(tactic| with_reducible apply w_setI)
local macro_rules | `(tactic| walk_at "e1") => `(tactic| ((with_reducible apply k_aug); (exact Nat.le_of_ble_eq_true rfl); dsimp only [List.set]))
local macro_rules | `(tactic| walk_at "e1") => `(tactic| ((with_reducible apply w_aug); rfl))
local macro_rules | `(tactic| walk_at "e1") => `(tactic| ((with_reducible apply k_par); rfl; (walk_at "asg")))
local macro_rules | `(tactic| walk_at "e1") => `(tactic| with_reducible apply w_par)
local macro_rules | `(tactic| walk_at "e1") => `(tactic| ((with_reducible apply k_ifX_f); rfl))
local macro_rules | `(tactic| walk_at "e1") => `(tactic| ((with_reducible apply k_ifX_t); rfl))
local macro_rules | `(tactic| walk_at "e1") => `(tactic| with_reducible apply w_ifX)
local macro_rules | `(tactic| walk_at "e1") => `(tactic| ((with_reducible apply k_isi); rfl))
local macro_rules | `(tactic| walk_at "e1") => `(tactic| with_reducible apply w_isi)
local macro_rules | `(tactic| walk_at "e1") => `(tactic| ((with_reducible apply k_1); (walk_at "op")))
local macro_rules | `(tactic| walk_at "e1") => `(tactic| with_reducible apply w_x1)
local macro_rules | `(tactic| walk_at "e1") => `(tactic| ((with_reducible apply k_app); rfl; (walk_at "lt"); dsimp only [List.set]))
local macro_rules | `(tactic| walk_at "e1") => `(tactic| ((with_reducible apply w_app); rfl))
local macro_rules | `(tactic| walk_at "e1") => `(tactic| ((with_reducible apply k_lst); (walk_at "red"); (walk_at "red")))
local macro_rules | `(tactic| walk_at "e1") => `(tactic| ((with_reducible apply k_tup); (walk_at "red"); (walk_at "red")))
local macro_rules | `(tactic| walk_at "e1") => `(tactic| with_reducible apply w_lst)
local macro_rules | `(tactic| walk_at "e1") => `(tactic| with_reducible apply w_tup)
local macro_rules | `(tactic| walk_at "e1") => `(tactic| ((with_reducible apply w_xFl); rfl; rfl; dsimp only [List.set]))
local macro_rules | `(tactic| walk_at "e1") => `(tactic| ((with_reducible apply w_xF); rfl; (walk_at "imm")))
local macro_rules | `(tactic| walk_at "e1") => `(tactic| ((with_reducible apply w_xMf); rfl; rfl))
local macro_rules | `(tactic| walk_at "e1") => `(tactic| ((with_reducible apply w_xMi); rfl; (walk_at "imm")))
local macro_rules | `(tactic| walk_at "e1") => `(tactic| ((with_reducible apply w_xM); rfl; dsimp only [List.set]))
local macro_rules | `(tactic| walk_at "e1") => `(tactic| with_reducible apply w_nx)
local macro_rules | `(tactic| walk_at "e1") => `(tactic| with_reducible apply k_qr)
local macro_rules | `(tactic| walk_at "e1") => `(tactic| with_reducible apply k_fn)
local macro_rules | `(tactic| walk_at "e1") => `(tactic| with_reducible apply k_retp)
local macro_rules | `(tactic| walk_at "e1") => `(tactic| with_reducible apply k_retf)
local macro_rules | `(tactic| walk_at "e1") => `(tactic| with_reducible apply k_ret)
local macro_rules | `(tactic| walk_at "e1") => `(tactic| with_reducible apply w_ret)
local macro_rules | `(tactic| walk_at "e1") => `(tactic| ((with_reducible apply k_andT_f); rfl))
local macro_rules | `(tactic| walk_at "e1") => `(tactic| ((with_reducible apply k_andT_t); rfl))
local macro_rules | `(tactic| walk_at "e1") => `(tactic| ((with_reducible apply k_orT_f); rfl))
local macro_rules | `(tactic| walk_at "e1") => `(tactic| ((with_reducible apply k_orT_t); rfl))
local macro_rules | `(tactic| walk_at "e1") => `(tactic| ((with_reducible apply k_if_f); rfl))
local macro_rules | `(tactic| walk_at "e1") => `(tactic| ((with_reducible apply k_if_t); rfl))
local macro_rules | `(tactic| walk_at "e1") => `(tactic| ((with_reducible apply k_not); rfl))
local macro_rules | `(tactic| walk_at "e1") => `(tactic| with_reducible apply w_notT)
local macro_rules | `(tactic| walk_at "e1") => `(tactic| with_reducible apply w_andT)
local macro_rules | `(tactic| walk_at "e1") => `(tactic| with_reducible apply w_orT)
local macro_rules | `(tactic| walk_at "e1") => `(tactic| with_reducible apply w_if)
local macro_rules | `(tactic| walk_at "e1") => `(tactic| ((with_reducible apply k_T); rfl))
local macro_rules | `(tactic| walk_at "e1") => `(tactic| with_reducible apply w_xT)
local macro_rules | `(tactic| walk_at "e1") => `(tactic| with_reducible apply k_B)
local macro_rules | `(tactic| walk_at "e1") => `(tactic| with_reducible apply w_xB)
local macro_rules | `(tactic| walk_at "e1") => `(tactic| ((with_reducible apply w_xVl); rfl; rfl))
local macro_rules | `(tactic| walk_at "e1") => `(tactic| ((with_reducible apply w_xV); rfl; (walk_at "imm")))
local macro_rules | `(tactic| walk_at "e1") => `(tactic| ((with_reducible apply k_bt); (walk_at "op")))
local macro_rules | `(tactic| walk_at "e1") => `(tactic| with_reducible apply w_bt)
local macro_rules | `(tactic| walk_at "e1") => `(tactic| with_reducible apply k_cr)
local macro_rules | `(tactic| walk_at "e1") => `(tactic| ((with_reducible apply k_call); (walk_at "red")))
local macro_rules | `(tactic| walk_at "e1") => `(tactic| with_reducible apply w_call)
local macro_rules | `(tactic| walk_at "e1") => `(tactic| with_reducible apply w_nil)
local macro_rules | `(tactic| walk_at "e1") => `(tactic| with_reducible apply k_x)
local macro_rules | `(tactic| walk_at "e1") => `(tactic| with_reducible apply k_c)
local macro_rules | `(tactic| walk_at "e1") => `(tactic| with_reducible apply w_cons)
local macro_rules | `(tactic| walk_at "e1") => `(tactic| ((with_reducible apply k_to); (walk_at "asg")))
local macro_rules | `(tactic| walk_at "e1") => `(tactic| ((with_reducible apply k_2b); (walk_at "op")))
local macro_rules | `(tactic| walk_at "e1") => `(tactic| ((with_reducible apply w_xPf); rfl; rfl))
local macro_rules | `(tactic| walk_at "e1") => `(tactic| ((with_reducible apply w_xPl); rfl; rfl))
local macro_rules | `(tactic| walk_at "e1") => `(tactic| ((with_reducible apply w_xP); rfl; (walk_at "imm")))
local macro_rules | `(tactic| walk_at "e1") => `(tactic| with_reducible apply w_xC)
local macro_rules | `(tactic| walk_at "e1") => `(tactic| with_reducible apply k_2a)
local macro_rules | `(tactic| walk_at "e1") => `(tactic| with_reducible apply w_x2)
local macro_rules | `(tactic| walk_at "e1") => `(tactic| with_reducible apply w_to)
local macro_rules | `(tactic| walk_at "e1") => `(tactic| with_reducible apply k_qn)
local macro_rules | `(tactic| walk_at "e1") => `(tactic| with_reducible apply w_seq)
local macro_rules | `(tactic| walk_at "ev") => `(tactic| repeat walk_at "e1")
abbrev road (p : Nat × Nat) : D := .tup [.int (p.1 : Int), .int (p.2 : Int)]
abbrev rdsD (rs : List (Nat × Nat)) : List D := rs.map road
abbrev townD (n : Nat) (rs : List (Nat × Nat)) : D := .tup [.str "town", .int (n : Int), .tup (rdsD rs)]
theorem immA_rds {rs : List (Nat × Nat)} : immA (rdsD rs) = true := immA_map fun _ _ => rfl
theorem imm_town {n : Nat} {rs : List (Nat × Nat)} : imm (townD n rs) = true := by
  show (true && (true && (immA (rdsD rs) && true))) = true
  rw [immA_rds]; rfl
def Town (n : Nat) (rs : List (Nat × Nat)) : Prop := 0 < n ∧ n < 1000 ∧ rs.length < 1000 ∧ ∀ p ∈ rs, p.1 < n ∧ p.2 < n ∧ p.1 ≠ p.2
def end1 (p : Nat × Nat) (h : Nat) : List Nat := (if p.1 = h then [p.2] else []) ++ (if p.2 = h then [p.1] else [])
def ends (rs : List (Nat × Nat)) (h : Nat) : List Nat := rs.flatMap fun p => end1 p h
theorem ends_take {rs : List (Nat × Nat)} {k : Nat} {p : Nat × Nat} {h : Nat} (e : rs[k]? = some p) : ends (rs.take (k + 1)) h = ends (rs.take k) h ++ end1 p h := by
  unfold ends
  rw [take_s e, List.flatMap_append, List.flatMap_singleton]
theorem ends_le (rs : List (Nat × Nat)) (h : Nat) : (ends rs h).length ≤ 2 * rs.length := by
  induction rs with
  | nil => exact Nat.le_refl _
  | cons q rs ih =>
    unfold ends at ih ⊢
    rw [List.flatMap_cons, List.length_append, List.length_cons]
    have : (end1 q h).length ≤ 2 := by
      unfold end1
      split <;> split <;> exact Nat.le_of_ble_eq_true rfl
    omega
theorem ends_lt {n : Nat} {rs : List (Nat × Nat)} (hr : ∀ p ∈ rs, p.1 < n ∧ p.2 < n ∧ p.1 ≠ p.2) (h : Nat) : ∀ k ∈ ends rs h, k < n := by
  intro k m
  obtain ⟨p, hp, hk⟩ := List.mem_flatMap.mp m
  obtain ⟨h1, h2, _⟩ := hr p hp
  unfold end1 at hk
  rcases List.mem_append.mp hk with q | q
  · split at q
    · rw [List.mem_singleton.mp q]; exact h2
    · cases q
  · split at q
    · rw [List.mem_singleton.mp q]; exact h1
    · cases q
theorem w_pick {ds : List D} {t : Tpa} {Q : Tpa × Bool × D → Prop} (ht : OkT t) (h0 : 0 < ds.length) (h1 : ds.length < 1000000) (hi : ∀ d ∈ ds, imm d = true) (k : ∀ t' d, OkT t' → d ∈ ds → Q (t', true, d)) : wp (ph_l_pick t [.tok, .lst ds]) Q := by
  unfold ph_l_pick bd_l_pick
  walk_at "ev"
  refine w_takeN ht (by omega) fun t' r ht' hr => ?_
  walk_at "ev"
  have hr' := hr h0
  have e : L2.atI ds (r : Int) = some ds[r] := by rw [atI_nat hr', List.getElem?_eq_getElem hr']
  refine k_2b (o_idx_l e (hi _ (List.getElem_mem hr'))) ?_
  walk_at "ev"
  exact k _ _ ht' (List.getElem_mem hr')
abbrev castP (p : Nat × Nat) : Int × Int := ((p.1 : Int), (p.2 : Int))
theorem road_pair (rs : List (Nat × Nat)) : rdsD rs = (rs.map castP).map pairD := by rw [List.map_map]; rfl
theorem unpair {rs : List (Nat × Nat)} : ∀ {l : List (Int × Int)}, (∀ q ∈ l, q ∈ rs.map castP) → ∃ rs' : List (Nat × Nat), l = rs'.map castP ∧ (∀ p ∈ rs', p ∈ rs) ∧ rs'.length = l.length
  | [], _ => ⟨[], rfl, fun _ m => (nomatch m), rfl⟩
  | q :: l, h => by
    obtain ⟨p, hp, e⟩ := List.mem_map.mp (h q (.head _))
    obtain ⟨rs', h1, h2, h3⟩ := unpair fun z m => h z (.tail _ m)
    refine ⟨p :: rs', by rw [List.map_cons, e, h1], fun z m => ?_, by rw [List.length_cons, List.length_cons, h3]⟩
    rcases List.mem_cons.mp m with r | r
    · rw [r]; exact hp
    · exact h2 z r
def Jn (n : Nat) (rs : List (Nat × Nat)) : Prop := ∀ k, 1 ≤ k → k < n → ∃ j, j < k ∧ (j, k) ∈ rs
theorem Jn.snoc {i q : Nat} {rs : List (Nat × Nat)} (h : Jn (i + 1) rs) (hq : q < i + 1) : Jn (i + 1 + 1) (rs ++ [(q, i + 1)]) := fun k h1 h2 => by
  by_cases z : k = i + 1
  · rw [z]; exact ⟨q, hq, List.mem_append_right _ (.head _)⟩
  · obtain ⟨j, h3, h4⟩ := h k h1 (by omega)
    exact ⟨j, h3, List.mem_append_left _ h4⟩
def Town2 (n : Nat) (rs : List (Nat × Nat)) : Prop := Town n rs ∧ (∀ p ∈ rs, p.1 < p.2) ∧ Jn n rs ∧ rs.length ≤ 60 ∧ srtP (rs.map castP) = rs.map castP
theorem castP_inj {p q : Nat × Nat} (h : castP p = castP q) : p = q := by
  have h1 : (p.1 : Int) = (q.1 : Int) := congrArg Prod.fst h
  have h2 : (p.2 : Int) = (q.2 : Int) := congrArg Prod.snd h
  exact Prod.ext (by omega) (by omega)
theorem w_l_town2 {a b : Nat} {t : Tpa} {Q : Tpa × Bool × D → Prop} (ht : OkT t) (ha0 : 0 < a) (ha : a ≤ 20) (hb : b < 500) (k : ∀ t' n rs, OkT t' → Town2 n rs → n ≤ a → Q (t', true, townD n rs)) : wp (ph_l_town t [.tok, .int (a : Int), .int (b : Int)]) Q := by
  unfold ph_l_town bd_l_town
  walk_at "ev"
  refine w_takeN ht (by omega) fun t1 r ht1 hr => ?_
  walk_at "ev"
  have er : (1 : Int) + (r : Int) = ((1 + r : Nat) : Int) := by omega
  rw [er]
  have hn : 0 < 1 + r ∧ 1 + r < 502 ∧ 1 + r ≤ a := by
    have := hr ha0; omega
  generalize 1 + r = n at hn
  refine k_forR (rgOf_2 (a := 1) (by omega) (by omega)) ?_
  refine w_for (fun k t' e' => OkT t' ∧ ∃ rs s5 s6, rs.length ≤ k ∧ (∀ p ∈ rs, p.1 < p.2 ∧ p.2 < n) ∧ Jn (k + 1) rs ∧ e' = [some (false, .tok), some (false, .int (a : Int)), some (false, .int (b : Int)), some (true, .int (n : Int)), some (true, .lst (rdsD rs)), s5, s6, none, none]) _ ⟨ht1, [], none, none, Nat.le_refl _, fun _ m => (nomatch m), fun k h1 h2 => by omega, rfl⟩ ?_ ?_
  · rintro i x t2 e' hx ⟨ht2, rs, s5, s6, hl, hrs, hjn, rfl⟩
    obtain ⟨hi, rfl⟩ := rgD_some hx
    have hi' : i < n - 1 := hi
    have e1 : (((1 : Nat) : Int) + (i : Int)) = ((i + 1 : Nat) : Int) := by omega
    rw [show ((((1 : Nat) : Int), n - 1).1 : Int) = ((1 : Nat) : Int) from rfl, e1]
    have ll : rs.length < 500 := by omega
    apply w_eq (by walk_at "asg")
    walk_at "ev"
    refine w_takeN ht2 (by omega) fun t3 o ht3 ho => ?_
    walk_at "ev"
    have ho' := ho (by omega)
    refine w_pick ht3 (Nat.le_of_ble_eq_true rfl) (Nat.le_of_ble_eq_true rfl) (fun d m => ?_) fun t4 d ht4 hd => ?_
    · rcases List.mem_cons.mp m with rfl | m
      · rfl
      rcases List.mem_cons.mp m with rfl | m
      · rfl
      rw [List.mem_singleton.mp m]; rfl
    · have : ∃ q : Nat, d = .int (q : Int) ∧ q < i + 1 := by
        rcases List.mem_cons.mp hd with rfl | m
        · exact ⟨i, by congr 1; omega, by omega⟩
        rcases List.mem_cons.mp m with rfl | m
        · exact ⟨0, rfl, by omega⟩
        · exact ⟨o, List.mem_singleton.mp m, ho'⟩
      obtain ⟨q, rfl, hq⟩ := this
      walk_at "ev"
      refine ⟨ht4, rs ++ [(q, i + 1)], some (true, .int ((i + 1 : Nat) : Int)), some (true, .int (q : Int)), by rw [List.length_append, List.length_singleton]; omega, fun p m => ?_, hjn.snoc hq, ?_⟩
      · rcases List.mem_append.mp m with z | z
        · exact hrs p z
        · rw [List.mem_singleton.mp z]; exact ⟨by show q < i + 1; omega, by show i + 1 < n; omega⟩
      · rw [show rdsD (rs ++ [(q, i + 1)]) = rdsD rs ++ [road (q, i + 1)] from List.map_append]
  · rintro t2 e' ⟨ht2, rs, s5, s6, hl, hrs, hjn, rfl⟩
    rw [rgD_len] at hl hjn
    have hjn : Jn n rs := fun k h1 h2 => hjn k h1 (by show k < n - 1 + 1; omega)
    have hl' : rs.length ≤ n - 1 := hl
    walk_at "ev"
    refine w_take ht2 (Int.lt_of_lt_of_le (show (b : Int) + 1 < 1000 by omega) (by decide)) fun t3 m ht3 hm => ?_
    have hm' : m < 1000 := by
      have := hm.1
      have := hm.2
      omega
    walk_at "ev"
    refine k_forR (rgOf_n (by omega)) ?_
    refine w_for (fun k t' e' => OkT t' ∧ ∃ rs s5 s6 s7 s8, rs.length ≤ 60 ∧ (∀ p ∈ rs, p.1 < p.2 ∧ p.2 < n) ∧ Jn n rs ∧ e' = [some (false, .tok), some (false, .int (a : Int)), some (false, .int (b : Int)), some (true, .int (n : Int)), some (true, .lst (rdsD rs)), s5, s6, s7, s8]) _ ⟨ht3, rs, s5, s6, none, none, by omega, hrs, hjn, rfl⟩ ?_ ?_
    · clear hm hm' hrs hl hl' ht2 ht3 hjn
      rintro i x t2 e' hx ⟨ht2, rs, s5, s6, s7, s8, hl, hrs, hjn, rfl⟩
      obtain ⟨hi, rfl⟩ := rgD_some hx
      apply w_eq (by walk_at "asg")
      walk_at "ev"
      refine w_takeN ht2 (by omega) fun t3 o ht3 ho => ?_
      walk_at "ev"
      refine w_takeN ht3 (by omega) fun t4 q ht4 hq => ?_
      walk_at "ev"
      have ho' := ho hn.1
      have hq' := hq hn.1
      by_cases z : o = q
      · refine k_andT_f (by rw [decide_eq_true z]; rfl) ?_
        walk_at "ev"
        exact ⟨ht4, rs, _, _, _, _, hl, hrs, hjn, rfl⟩
      · refine k_andT_t (by rw [decide_eq_false z]; rfl) ?_
        walk_at "ev"
        refine k_if (fun w => ?_) (fun w => ?_)
        · walk_at "ev"
          have w' : ((rdsD rs).length : Int) < 60 := of_decide_eq_true w
          rw [List.length_map] at w'
          have : ∃ x y : Nat, (if (q : Int) < (o : Int) then (q : Int) else (o : Int)) = (x : Int) ∧ (if (q : Int) > (o : Int) then (q : Int) else (o : Int)) = (y : Int) ∧ x < y ∧ y < n := by
            by_cases c : q < o
            · exact ⟨q, o, if_pos (by omega), if_neg (by omega), c, ho'⟩
            · exact ⟨o, q, if_neg (by omega), if_pos (by omega), by omega, hq'⟩
          obtain ⟨x, y, ex, ey, hxy, hy⟩ := this
          rw [ex, ey, show rdsD rs ++ [D.tup [.int (x : Int), .int (y : Int)]] = rdsD (rs ++ [(x, y)]) from (List.map_append (f := road) (l₁ := rs) (l₂ := [(x, y)])).symm]
          refine ⟨ht4, rs ++ [(x, y)], _, _, _, _, ?_, fun p m => ?_, fun k h1 h2 => ?_, rfl⟩
          · rw [List.length_append, List.length_singleton]; omega
          · rcases List.mem_append.mp m with z | z
            · exact hrs p z
            · rw [List.mem_singleton.mp z]; exact ⟨hxy, hy⟩
          · obtain ⟨j, h3, h4⟩ := hjn k h1 h2
            exact ⟨j, h3, List.mem_append_left _ h4⟩
        · walk_at "ev"
          exact ⟨ht4, rs, _, _, _, _, hl, hrs, hjn, rfl⟩
    · rintro t2 e' ⟨ht2, rs, s5, s6, s7, s8, hl, hrs, hjn, rfl⟩
      walk_at "ev"
      obtain ⟨rs', e, h1, h2⟩ := unpair (rs := rs) (l := srtP (rs.map castP)) fun q m => (srtP_perm _).mem_iff.mp m
      refine k_bt (show sSortX [(Gr.pk, .lst (rdsD rs))] = some (.own, .lst (rdsD rs')) from by rw [road_pair, road_pair rs', ← e]; exact o_sort_p) ?_
      walk_at "ev"
      have hp := srtP_perm (rs.map castP)
      refine k _ _ _ ht2 ⟨⟨hn.1, by omega, by rw [h2, hp.length_eq, List.length_map]; omega, fun p m => ?_⟩, fun p m => (hrs p (h1 p m)).1, fun k h3 h4 => ?_, by rw [h2, hp.length_eq, List.length_map]; omega, ?_⟩ hn.2.2
      · have := hrs p (h1 p m)
        omega
      · obtain ⟨j, h5, h6⟩ := hjn k h3 h4
        refine ⟨j, h5, ?_⟩
        have := hp.mem_iff.mpr (List.mem_map.mpr ⟨_, h6, rfl⟩)
        rw [e] at this
        obtain ⟨p, hp1, hp2⟩ := List.mem_map.mp this
        have : p = (j, k) := castP_inj hp2
        rw [← this]; exact hp1
      · rw [← e]
        exact sortedP_one (srtP_perm _) (srtP_sorted _) (srtP_sorted _)
theorem nd_perm : ∀ {n : Nat} {l : List Nat}, l.Nodup → (∀ x ∈ l, x < n) → l.length = n → l.Perm (List.range n) := by
  intro n l h1 h2 h3
  have key : ∀ (n : Nat) (l : List Nat), l.Nodup → (∀ x ∈ l, x < n) → l.length ≤ n ∧ (l.length = n → ∀ x, x < n → x ∈ l) := by
    intro n
    induction n with
    | zero =>
      intro l a b
      cases l with
      | nil => exact ⟨Nat.le_refl _, fun _ x hx => by omega⟩
      | cons y l => exact absurd (b y (.head _)) (by omega)
    | succ n ih =>
      intro l a b
      obtain ⟨i1, i2⟩ := ih (l.erase n) (a.erase n) fun x m => by
        obtain ⟨m1, m2⟩ := a.mem_erase_iff.mp m
        have := b x m2
        omega
      by_cases m : n ∈ l
      · have e := List.length_erase_of_mem m
        have pos : 0 < l.length := List.length_pos_of_mem m
        refine ⟨by omega, fun q x hx => ?_⟩
        by_cases z : x = n
        · rw [z]; exact m
        · exact (a.mem_erase_iff.mp (i2 (by omega) x (by omega))).2
      · rw [List.erase_of_not_mem m] at i1
        exact ⟨by omega, fun q => by omega⟩
  refine (List.perm_ext_iff_of_nodup h1 List.nodup_range).mpr fun a => ⟨fun m => List.mem_range.mpr (h2 a m), fun m => (key n l h1 h2).2 h3 a (List.mem_range.mp m)⟩
theorem nd_len {n : Nat} {l : List Nat} (h1 : l.Nodup) (h2 : ∀ x ∈ l, x < n) : l.length ≤ n := by
  have key : ∀ (n : Nat) (l : List Nat), l.Nodup → (∀ x ∈ l, x < n) → l.length ≤ n := by
    intro n
    induction n with
    | zero =>
      intro l a b
      cases l with
      | nil => exact Nat.le_refl _
      | cons y l => exact absurd (b y (.head _)) (by omega)
    | succ n ih =>
      intro l a b
      have i1 := ih (l.erase n) (a.erase n) fun x m => by
        obtain ⟨m1, m2⟩ := a.mem_erase_iff.mp m
        have := b x m2
        omega
      by_cases m : n ∈ l
      · have e := List.length_erase_of_mem m
        omega
      · rw [List.erase_of_not_mem m] at i1
        omega
  exact key n l h1 h2
theorem fl_t {p : Nat → Bool} {k : Nat} (h : p k = true) : (List.range (k + 1)).filter p = (List.range k).filter p ++ [k] := by rw [List.range_succ, List.filter_append, List.filter_cons_of_pos h]; rfl
theorem fl_f {p : Nat → Bool} {k : Nat} (h : ¬ p k = true) : (List.range (k + 1)).filter p = (List.range k).filter p := by rw [List.range_succ, List.filter_append, List.filter_cons_of_neg h, List.filter_nil, List.append_nil]
theorem nats_app {l m : List Nat} : natsD l ++ natsD m = natsD (l ++ m) := List.map_append.symm
def cr (h : Nat) (b : List Nat) (p : Nat × Nat) : Bool := (decide (h = p.1) && decide (p.2 ∈ b)) || (decide (h = p.2) && decide (p.1 ∈ b))
def into (rs : List (Nat × Nat)) (h : Nat) (b : List Nat) : Nat := ((ends rs h).filter fun o => decide (o ∈ b)).length
theorem cr_iff {h : Nat} {b : List Nat} {p : Nat × Nat} : cr h b p = true ↔ (h = p.1 ∧ p.2 ∈ b) ∨ (h = p.2 ∧ p.1 ∈ b) := by
  unfold cr
  simp only [Bool.or_eq_true, Bool.and_eq_true, decide_eq_true_eq]
theorem end1_len {p : Nat × Nat} (hp : p.1 ≠ p.2) (h : Nat) (q : Nat → Bool) : ((end1 p h).filter q).length = if (decide (h = p.1) && q p.2) || (decide (h = p.2) && q p.1) then 1 else 0 := by
  unfold end1
  by_cases z1 : p.1 = h
  · have z2 : ¬ p.2 = h := fun w => hp (z1.trans w.symm)
    rw [if_pos z1, if_neg z2, List.append_nil, decide_eq_true z1.symm, decide_eq_false (fun w => z2 w.symm), Bool.true_and, Bool.false_and, Bool.or_false]
    cases e : q p.2 with
    | true => rw [List.filter_cons_of_pos e]; rfl
    | false => rw [List.filter_cons_of_neg (by rw [e]; exact Bool.false_ne_true)]; rfl
  · rw [if_neg z1, List.nil_append, decide_eq_false (fun w => z1 w.symm), Bool.false_and, Bool.false_or]
    by_cases z2 : p.2 = h
    · rw [if_pos z2, decide_eq_true z2.symm, Bool.true_and]
      cases e : q p.1 with
      | true => rw [List.filter_cons_of_pos e]; rfl
      | false => rw [List.filter_cons_of_neg (by rw [e]; exact Bool.false_ne_true)]; rfl
    · rw [if_neg z2, decide_eq_false (fun w => z2 w.symm), Bool.false_and]; rfl
theorem ends_cnt : ∀ {rs : List (Nat × Nat)} (_ : ∀ p ∈ rs, p.1 ≠ p.2) (h : Nat) (q : Nat → Bool), ((ends rs h).filter q).length = rs.countP fun p => (decide (h = p.1) && q p.2) || (decide (h = p.2) && q p.1)
  | [], _, _, _ => rfl
  | p :: rs, hr, h, q => by
    have e : ends (p :: rs) h = end1 p h ++ ends rs h := List.flatMap_cons
    rw [e, List.filter_append, List.length_append, ends_cnt (fun x m => hr x (.tail _ m)) h q, end1_len (hr p (.head _)), List.countP_cons]
    omega
theorem into_cnt {rs : List (Nat × Nat)} (hr : ∀ p ∈ rs, p.1 ≠ p.2) (h : Nat) (b : List Nat) : into rs h b = rs.countP (cr h b) := ends_cnt hr h fun o => decide (o ∈ b)
theorem into_le {rs : List (Nat × Nat)} (hr : ∀ p ∈ rs, p.1 ≠ p.2) {h : Nat} {b b' : List Nat} (s : ∀ x ∈ b, x ∈ b') : into rs h b ≤ into rs h b' := by
  rw [into_cnt hr, into_cnt hr]
  refine List.countP_mono_left fun p _ => ?_
  rw [cr_iff, cr_iff]
  rintro (⟨a, m⟩ | ⟨a, m⟩)
  · exact .inl ⟨a, s _ m⟩
  · exact .inr ⟨a, s _ m⟩
abbrev rd (rs : List (Nat × Nat)) (k : Nat) : Nat × Nat := rs.getD k (0, 0)
theorem rd_some {rs : List (Nat × Nat)} {k : Nat} (h : k < rs.length) : rs[k]? = some (rd rs k) := by
  show _ = some (rs.getD k (0, 0))
  rw [List.getD_eq_getElem?_getD, List.getElem?_eq_getElem h]; rfl
theorem rd_mem {rs : List (Nat × Nat)} {k : Nat} (h : k < rs.length) : rd rs k ∈ rs := List.mem_of_getElem? (rd_some h)
def St (n : Nat) (rs : List (Nat × Nat)) (c : Nat → Int) (S : List Nat) : Prop := ∀ h, h < n → h ∉ S → (into rs h S : Int) ≤ c h
structure Bn (n : Nat) (rs : List (Nat × Nat)) (c : Nat → Int) (bank : Nat) (b : List Nat) : Prop where
  nd : b.Nodup
  lt : ∀ x ∈ b, x < n
  bk : bank ∈ b
  mn : ∀ S : List Nat, bank ∈ S → St n rs c S → ∀ x ∈ b, x ∈ S
theorem Bn.start {n : Nat} {rs : List (Nat × Nat)} {c : Nat → Int} {bank : Nat} (h : bank < n) : Bn n rs c bank [bank] where
  nd := List.nodup_cons.mpr ⟨fun m => (nomatch m), List.nodup_nil⟩
  lt x m := by rw [List.mem_singleton.mp m]; exact h
  bk := .head _
  mn S h _ x m := by rw [List.mem_singleton.mp m]; exact h
theorem Bn.len {n : Nat} {rs : List (Nat × Nat)} {c : Nat → Int} {bank : Nat} {b : List Nat} (B : Bn n rs c bank b) : b.length ≤ n := nd_len B.nd B.lt
theorem Bn.step {n : Nat} {rs : List (Nat × Nat)} {c : Nat → Int} {bank a : Nat} {b : List Nat} (hr : ∀ p ∈ rs, p.1 ≠ p.2) (B : Bn n rs c bank b) (ha : a < n) (hb : a ∉ b) (hc : c a < (into rs a b : Int)) : Bn n rs c bank (b ++ [a]) where
  nd := List.nodup_append.mpr ⟨B.nd, List.nodup_cons.mpr ⟨fun m => (nomatch m), List.nodup_nil⟩, fun x hx y hy z => hb (by rw [List.mem_singleton.mp hy] at z; rw [← z]; exact hx)⟩
  lt x m := by
    rcases List.mem_append.mp m with z | z
    · exact B.lt x z
    · rw [List.mem_singleton.mp z]; exact ha
  bk := List.mem_append_left _ B.bk
  mn S h1 h2 x m := by
    rcases List.mem_append.mp m with z | z
    · exact B.mn S h1 h2 x z
    · rw [List.mem_singleton.mp z]
      refine Classical.byContradiction fun w => ?_
      have := h2 a ha w
      have := into_le hr (h := a) (B.mn S h1 h2)
      omega
theorem Bn.same {n : Nat} {rs : List (Nat × Nat)} {c : Nat → Int} {bank : Nat} {b b' : List Nat} (B : Bn n rs c bank b) (s : St n rs c b) (B' : Bn n rs c bank b') (s' : St n rs c b') (x : Nat) : x ∈ b ↔ x ∈ b' := ⟨B.mn b' B'.bk s' x, B'.mn b B.bk s x⟩
def ClR (ps : List (Nat × Nat)) (S : Nat → Prop) : Prop := ∀ p ∈ ps, (S p.1 ↔ S p.2)
def Cn (ps : List (Nat × Nat)) (a b : Nat) : Prop := ∀ S : Nat → Prop, ClR ps S → S a → S b
section
variable {ps qs : List (Nat × Nat)} {a b c : Nat} {p : Nat × Nat}
theorem Cn.rf : Cn ps a a := fun _ _ h => h
theorem Cn.tr (h : Cn ps a b) (k : Cn ps b c) : Cn ps a c := fun S hS x => k S hS (h S hS x)
theorem Cn.sm (h : Cn ps a b) : Cn ps b a := fun S hS x => Classical.byContradiction fun w => h (fun y => ¬ S y) (fun p m => not_congr (hS p m)) w x
theorem Cn.mono (h : Cn ps a b) (s : ∀ p ∈ ps, p ∈ qs) : Cn qs a b := fun S hS x => h S (fun p m => hS p (s p m)) x
theorem Cn.edge (m : p ∈ ps) : Cn ps p.1 p.2 := fun _ hS x => (hS p m).mp x
theorem Cn.cl : ClR ps (Cn ps a) := fun p m => ⟨fun h => h.tr (Cn.edge m), fun h => h.tr (Cn.edge m).sm⟩
/-- one road more -/
theorem Cn.add : Cn (p :: ps) a b ↔ Cn ps a b ∨ (Cn ps a p.1 ∧ Cn ps p.2 b) ∨ (Cn ps a p.2 ∧ Cn ps p.1 b) := by
  constructor
  · intro h
    refine h (fun x => Cn ps a x ∨ (Cn ps a p.1 ∧ Cn ps p.2 x) ∨ (Cn ps a p.2 ∧ Cn ps p.1 x)) (fun q m => ?_) (.inl Cn.rf)
    rcases List.mem_cons.mp m with rfl | m
    · constructor
      · rintro (h | ⟨h, k⟩ | ⟨h, k⟩)
        · exact .inr (.inl ⟨h, Cn.rf⟩)
        · exact .inr (.inl ⟨h, Cn.rf⟩)
        · exact .inl h
      · rintro (h | ⟨h, k⟩ | ⟨h, k⟩)
        · exact .inr (.inr ⟨h, Cn.rf⟩)
        · exact .inl h
        · exact .inr (.inr ⟨h, Cn.rf⟩)
    · exact or_congr (Cn.cl q m) (or_congr (and_congr_right fun _ => Cn.cl q m) (and_congr_right fun _ => Cn.cl q m))
  · have up : ∀ {x y}, Cn ps x y → Cn (p :: ps) x y := fun h => h.mono fun q m => .tail _ m
    have e : Cn (p :: ps) p.1 p.2 := Cn.edge (.head _)
    rintro (h | ⟨h, k⟩ | ⟨h, k⟩)
    · exact up h
    · exact (up h).tr (e.tr (up k))
    · exact (up h).tr (e.sm.tr (up k))
theorem Cn.nil : Cn [] a b ↔ a = b := ⟨fun h => h (fun x => a = x) (fun p m => nomatch m) rfl, fun h => h ▸ Cn.rf⟩
end
/-- what is joined to a house, ascending -/
noncomputable def comp (n : Nat) (ps : List (Nat × Nat)) (h : Nat) : List Nat := (List.range n).filter fun x => @decide (Cn ps h x) (Classical.propDecidable _)
theorem comp_mem {n h x : Nat} {ps : List (Nat × Nat)} : x ∈ comp n ps h ↔ x < n ∧ Cn ps h x := by
  unfold comp
  rw [List.mem_filter, List.mem_range]
  exact and_congr_right fun _ => ⟨fun w => @of_decide_eq_true _ (Classical.propDecidable _) w, fun w => @decide_eq_true _ (Classical.propDecidable _) w⟩
theorem comp_asc {n h : Nat} {ps : List (Nat × Nat)} : (comp n ps h).Pairwise (· < ·) := List.pairwise_lt_range.filter _
theorem comp_nd {n h : Nat} {ps : List (Nat × Nat)} : (comp n ps h).Nodup := comp_asc.imp fun h => by omega
theorem asc_one {l m : List Nat} (hl : l.Pairwise (· < ·)) (hm : m.Pairwise (· < ·)) (h : ∀ x, x ∈ l ↔ x ∈ m) : l = m :=
  ((List.perm_ext_iff_of_nodup (hl.imp fun h => by omega) (hm.imp fun h => by omega)).mpr h).eq_of_pairwise (fun a b _ _ h1 h2 => by omega) hl hm
theorem comp_len {n h : Nat} {ps : List (Nat × Nat)} : (comp n ps h).length = n ↔ ∀ x, x < n → Cn ps h x := by
  constructor
  · intro e x hx
    have p := nd_perm (comp_nd (n := n) (h := h) (ps := ps)) (fun y m => (comp_mem.mp m).1) e
    exact (comp_mem.mp (p.mem_iff.mpr (List.mem_range.mpr hx))).2
  · intro w
    have e : comp n ps h = List.range n := asc_one comp_asc List.pairwise_lt_range fun x => by
      rw [comp_mem, List.mem_range]
      exact ⟨fun q => q.1, fun q => ⟨q, w x q⟩⟩
    rw [e, List.length_range]
abbrev lot (rs : List (Nat × Nat)) (L : List Nat) : List (Nat × Nat) := L.map (rd rs)
abbrev CnL (rs : List (Nat × Nat)) (L : List Nat) (a b : Nat) : Prop := Cn (lot rs L) a b
section
variable {n : Nat} {rs : List (Nat × Nat)} {L M : List Nat} {a b k : Nat}
theorem CnL.mono (h : CnL rs L a b) (s : ∀ k ∈ L, k ∈ M) : CnL rs M a b := Cn.mono h fun p m => by
  obtain ⟨k, hk, rfl⟩ := List.mem_map.mp m
  exact List.mem_map.mpr ⟨k, s k hk, rfl⟩
theorem CnL.iff (s : ∀ k, k ∈ L ↔ k ∈ M) : CnL rs L a b ↔ CnL rs M a b := ⟨fun h => h.mono fun k m => (s k).mp m, fun h => h.mono fun k m => (s k).mpr m⟩
theorem CnL.edge (m : k ∈ L) : CnL rs L (rd rs k).1 (rd rs k).2 := Cn.edge (List.mem_map.mpr ⟨k, m, rfl⟩)
theorem CnL.add : CnL rs (k :: L) a b ↔ CnL rs L a b ∨ (CnL rs L a (rd rs k).1 ∧ CnL rs L (rd rs k).2 b) ∨ (CnL rs L a (rd rs k).2 ∧ CnL rs L (rd rs k).1 b) := Cn.add
/-- all houses are joined -/
def Spn (n : Nat) (rs : List (Nat × Nat)) (L : List Nat) : Prop := ∀ x, x < n → CnL rs L 0 x
theorem Spn.any (h : Spn n rs L) (ha : a < n) (hb : b < n) : CnL rs L a b := (h a ha).sm.tr (h b hb)
theorem Spn.mono (h : Spn n rs L) (s : ∀ k ∈ L, k ∈ M) : Spn n rs M := fun x hx => (h x hx).mono s
/-- the roads by which a house's part grows -/
theorem grow_ex (hr : ∀ p ∈ rs, p.1 < n ∧ p.2 < n ∧ p.1 ≠ p.2) (hL : ∀ k ∈ L, k < rs.length) (ha : a < n) : ∃ (b ts : List Nat), b.Nodup ∧ (∀ x ∈ b, x < n) ∧ ts.Nodup ∧ (∀ k ∈ ts, k ∈ L) ∧ b.length = ts.length + 1 ∧ a ∈ b ∧ (∀ x ∈ b, CnL rs ts a x) ∧ ∀ k ∈ L, ((rd rs k).1 ∈ b ↔ (rd rs k).2 ∈ b) := by
  have key : ∀ (m : Nat) (b ts : List Nat), n - b.length ≤ m → b.Nodup → (∀ x ∈ b, x < n) → ts.Nodup → (∀ k ∈ ts, k ∈ L) → (∀ k ∈ ts, (rd rs k).1 ∈ b ∧ (rd rs k).2 ∈ b) → b.length = ts.length + 1 → a ∈ b → (∀ x ∈ b, CnL rs ts a x) → ∃ (b ts : List Nat), b.Nodup ∧ (∀ x ∈ b, x < n) ∧ ts.Nodup ∧ (∀ k ∈ ts, k ∈ L) ∧ b.length = ts.length + 1 ∧ a ∈ b ∧ (∀ x ∈ b, CnL rs ts a x) ∧ ∀ k ∈ L, ((rd rs k).1 ∈ b ↔ (rd rs k).2 ∈ b) := by
    intro m
    induction m with
    | zero =>
      intro b ts hm h1 h2 h3 h4 h5 h6 h7 h8
      have all : ∀ x, x < n → x ∈ b := fun x hx => Classical.byContradiction fun w => by
        have := nd_len (List.nodup_cons.mpr ⟨w, h1⟩) fun y m => (List.mem_cons.mp m).elim (fun e => by rw [e]; exact hx) (h2 y)
        rw [List.length_cons] at this
        omega
      refine ⟨b, ts, h1, h2, h3, h4, h6, h7, h8, fun k m => ?_⟩
      obtain ⟨q1, q2, _⟩ := hr _ (rd_mem (hL k m))
      exact ⟨fun _ => all _ q2, fun _ => all _ q1⟩
    | succ m ih =>
      intro b ts hm h1 h2 h3 h4 h5 h6 h7 h8
      by_cases z : ∀ k ∈ L, ((rd rs k).1 ∈ b ↔ (rd rs k).2 ∈ b)
      · exact ⟨b, ts, h1, h2, h3, h4, h6, h7, h8, z⟩
      obtain ⟨k, hk⟩ := Classical.not_forall.mp z
      obtain ⟨kL, hk⟩ := Classical.not_imp.mp hk
      obtain ⟨q1, q2, _⟩ := hr _ (rd_mem (hL k kL))
      have kt : k ∉ ts := fun w => hk ⟨fun _ => (h5 k w).2, fun _ => (h5 k w).1⟩
      have go : ∀ x y, x ∈ b → y < n → y ∉ b → CnL rs (k :: ts) x y → (∀ j, j = k → ((rd rs j).1 = x ∧ (rd rs j).2 = y) ∨ ((rd rs j).1 = y ∧ (rd rs j).2 = x)) → _ := fun x y hx hy hyb c e => ih (b ++ [y]) (k :: ts) (by
          rw [List.length_append, List.length_singleton]
          have := nd_len (List.nodup_cons.mpr ⟨hyb, h1⟩) fun z m => (List.mem_cons.mp m).elim (fun e => by rw [e]; exact hy) (h2 z)
          rw [List.length_cons] at this
          omega) (List.nodup_append.mpr ⟨h1, List.nodup_cons.mpr ⟨fun m => (nomatch m), List.nodup_nil⟩, fun z hz w hw e => hyb (by rw [List.mem_singleton.mp hw] at e; rw [← e]; exact hz)⟩)
        (fun z m => (List.mem_append.mp m).elim (h2 z) fun w => by rw [List.mem_singleton.mp w]; exact hy) (List.nodup_cons.mpr ⟨kt, h3⟩) (fun j m => (List.mem_cons.mp m).elim (fun e => by rw [e]; exact kL) (h4 j))
        (fun j m => (List.mem_cons.mp m).elim (fun w => by
          rcases e j w with ⟨e1, e2⟩ | ⟨e1, e2⟩
          · rw [e1, e2]; exact ⟨List.mem_append_left _ hx, List.mem_append_right _ (.head _)⟩
          · rw [e1, e2]; exact ⟨List.mem_append_right _ (.head _), List.mem_append_left _ hx⟩) fun w => ⟨List.mem_append_left _ (h5 j w).1, List.mem_append_left _ (h5 j w).2⟩)
        (by rw [List.length_append, List.length_singleton, List.length_cons, h6]) (List.mem_append_left _ h7)
        (fun z m => (List.mem_append.mp m).elim (fun w => (h8 z w).mono fun j m => .tail _ m) fun w => by
          rw [List.mem_singleton.mp w]
          exact CnL.mono (h8 x hx) (fun j m => .tail _ m) |>.tr c)
      have ed : CnL rs (k :: ts) (rd rs k).1 (rd rs k).2 := CnL.edge (.head _)
      by_cases w : (rd rs k).1 ∈ b
      · exact go _ _ w q2 (fun v => hk ⟨fun _ => v, fun _ => w⟩) ed fun j e => by rw [e]; exact .inl ⟨rfl, rfl⟩
      · have v : (rd rs k).2 ∈ b := Classical.byContradiction fun v => hk ⟨fun x => absurd x w, fun x => absurd x v⟩
        exact go _ _ v q1 w ed.sm fun j e => by rw [e]; exact .inr ⟨rfl, rfl⟩
  exact key n [a] [] (Nat.sub_le _ _) (List.nodup_cons.mpr ⟨fun m => (nomatch m), List.nodup_nil⟩) (fun x m => by rw [List.mem_singleton.mp m]; exact ha) List.nodup_nil (fun k m => nomatch m) (fun k m => nomatch m) rfl (.head _) fun x m => by rw [List.mem_singleton.mp m]; exact Cn.rf
theorem sub_len : ∀ {l m : List Nat}, l.Nodup → (∀ x ∈ l, x ∈ m) → l.length ≤ m.length
  | [], _, _, _ => Nat.zero_le _
  | a :: l, m, h, s => by
    obtain ⟨h1, h2⟩ := List.nodup_cons.mp h
    have am := s a (.head _)
    have := sub_len (m := m.erase a) h2 fun x mx => (List.mem_erase_of_ne fun (e : x = a) => h1 (e ▸ mx)).mpr (s x (.tail _ mx))
    rw [List.length_erase_of_mem am] at this
    have := List.length_pos_of_mem am
    rw [List.length_cons]
    omega
/-- what joins all has a part that does, of one less than the houses -/
theorem Spn.part (hr : ∀ p ∈ rs, p.1 < n ∧ p.2 < n ∧ p.1 ≠ p.2) (hL : ∀ k ∈ L, k < rs.length) (hn : 0 < n) (h : Spn n rs L) : ∃ ts : List Nat, ts.Nodup ∧ (∀ k ∈ ts, k ∈ L) ∧ ts.length + 1 = n ∧ Spn n rs ts := by
  obtain ⟨b, ts, h1, h2, h3, h4, h5, h6, h7, h8⟩ := grow_ex hr hL hn
  have all : ∀ x, x < n → x ∈ b := fun x hx => h x hx (fun y => y ∈ b) (fun p m => by
    obtain ⟨k, hk, rfl⟩ := List.mem_map.mp m
    exact h8 k hk) h6
  have p : b.Perm (List.range n) := (List.perm_ext_iff_of_nodup h1 List.nodup_range).mpr fun x => ⟨fun m => List.mem_range.mpr (h2 x m), fun m => all x (List.mem_range.mp m)⟩
  have e := p.length_eq
  rw [List.length_range] at e
  exact ⟨ts, h3, h4, by omega, fun x hx => h7 x (all x hx)⟩
/-- a tree -/
structure Tr (n : Nat) (rs : List (Nat × Nat)) (L : List Nat) : Prop where
  nd : L.Nodup
  lt : ∀ k ∈ L, k < rs.length
  len : L.length + 1 = n
  spn : Spn n rs L
theorem Tr.no (hr : ∀ p ∈ rs, p.1 < n ∧ p.2 < n ∧ p.1 ≠ p.2) (hn : 0 < n) (T : Tr n rs L) (hk : k ∈ L) (s : ∀ j ∈ M, j ∈ L) (hM : k ∉ M) : ¬ CnL rs M (rd rs k).1 (rd rs k).2 := fun c => by
  have sp : Spn n rs (L.filter fun j => decide (j ≠ k)) := fun x hx => by
    refine T.spn x hx _ (fun p m => ?_) Cn.rf
    obtain ⟨j, hj, rfl⟩ := List.mem_map.mp m
    by_cases z : j = k
    · subst z
      have c' : CnL rs (L.filter fun i => decide (i ≠ j)) (rd rs j).1 (rd rs j).2 := c.mono fun i mi => List.mem_filter.mpr ⟨s i mi, decide_eq_true fun w => hM (w ▸ mi)⟩
      exact ⟨fun w => w.tr c', fun w => w.tr c'.sm⟩
    · exact Cn.cl _ (List.mem_map.mpr ⟨j, List.mem_filter.mpr ⟨hj, decide_eq_true z⟩, rfl⟩)
  obtain ⟨ts, h1, h2, h3, _⟩ := sp.part hr (fun j m => T.lt j (List.mem_filter.mp m).1) hn
  have a := sub_len h1 h2
  have b : (L.filter fun j => decide (j ≠ k)).length < L.length := by
    have := List.length_filter_lt_length_iff_exists (p := fun j => decide (j ≠ k)) (l := L)
    rw [this]
    exact ⟨k, hk, by rw [decide_eq_true_eq]; exact fun w => w rfl⟩
  have := T.len
  omega
/-- a lot in which no road is joined by those ahead of it -/
inductive Fo (rs : List (Nat × Nat)) : List Nat → Prop
  | nil : Fo rs []
  | snoc {L : List Nat} {k : Nat} : Fo rs L → ¬ CnL rs L (rd rs k).1 (rd rs k).2 → Fo rs (L ++ [k])
theorem Fo.no (F : Fo rs L) (hd : L.Nodup) : ∀ k ∈ L, ¬ CnL rs (L.filter fun j => decide (j ≠ k)) (rd rs k).1 (rd rs k).2 := by
  induction F with
  | nil => exact fun k m => nomatch m
  | @snoc L j F hj ih =>
    obtain ⟨d1, d2, d3⟩ := List.nodup_append.mp hd
    intro k m c
    rcases List.mem_append.mp m with w | w
    · have kj : j ≠ k := fun e => d3 k w j (.head _) e.symm
      have ih := ih d1 k w
      have e : ∀ i, i ∈ (L ++ [j]).filter (fun i => decide (i ≠ k)) ↔ i ∈ j :: L.filter fun i => decide (i ≠ k) := fun i => by
        rw [List.filter_append, List.filter_cons_of_pos (p := fun i => decide (i ≠ k)) (decide_eq_true kj), List.filter_nil, List.mem_append, List.mem_singleton, List.mem_cons]
        exact or_comm
      have c := (CnL.iff e).mp c
      have up : ∀ {x y}, CnL rs (L.filter fun i => decide (i ≠ k)) x y → CnL rs L x y := fun h => h.mono fun i mi => (List.mem_filter.mp mi).1
      have ek : CnL rs L (rd rs k).1 (rd rs k).2 := CnL.edge w
      rcases CnL.add.mp c with c | ⟨c1, c2⟩ | ⟨c1, c2⟩
      · exact ih c
      · exact hj ((up c1).sm.tr (ek.tr (up c2).sm))
      · exact hj ((up c2).tr (ek.sm.tr (up c1)))
    · have e := List.mem_singleton.mp w
      subst e
      refine hj (c.mono fun i mi => ?_)
      obtain ⟨m1, m2⟩ := List.mem_filter.mp mi
      exact (List.mem_append.mp m1).resolve_right fun w => of_decide_eq_true m2 (List.mem_singleton.mp w)
theorem Fo.tr (hr : ∀ p ∈ rs, p.1 < n ∧ p.2 < n ∧ p.1 ≠ p.2) (hn : 0 < n) (F : Fo rs L) (hd : L.Nodup) (hL : ∀ k ∈ L, k < rs.length) (h : Spn n rs L) : Tr n rs L := by
  obtain ⟨ts, h1, h2, h3, h4⟩ := h.part hr hL hn
  have s : ∀ k ∈ L, k ∈ ts := fun k m => Classical.byContradiction fun w => by
    obtain ⟨q1, q2, _⟩ := hr _ (rd_mem (hL k m))
    exact F.no hd k m ((h4.any q1 q2).mono fun j mj => List.mem_filter.mpr ⟨h2 j mj, decide_eq_true fun e => w (e ▸ mj)⟩)
  have a := sub_len hd s
  have b := sub_len h1 h2
  exact ⟨hd, hL, by omega, h⟩
end
local macro_rules | `(tactic| walk_at "imm") => `(tactic| exact immA_rds)
local macro_rules | `(tactic| walk_at "imm") => `(tactic| exact imm_town)
local macro_rules | `(tactic| walk_at "op") => `(tactic| with_reducible exact o_ne_b)
local macro_rules | `(tactic| walk_at "op") => `(tactic| with_reducible exact o_isN)
theorem o_catl_i {g g' : Gr} {ds es : List D} (hs : ds.length + es.length ≤ 16777216) (m : immA (ds ++ es) = true) : sPlus (g, .lst ds) (g', .lst es) = some (.own, .lst (ds ++ es)) := by
  unfold sPlus
  dsimp only
  rw [if_pos (szB_of hs)]
  unfold upL
  rw [m]; rfl
theorem o_isN {g g' : Gr} {d : D} {neg : Bool} : sIsN neg (g, d) (g', .non) = some (.own, .bl (neg ^^ isN d)) := rfl
theorem o_ne_b {g g' : Gr} {a b : Bool} : sEq true (g, .bl a) (g', .bl b) = some (.own, .bl (!(a == b))) := by
  show some _ = some _
  rw [show ((g, D.bl a) : GD).2 = .bl a from rfl, show ((g', D.bl b) : GD).2 = .bl b from rfl, deq_bl]
  simp
local macro_rules | `(tactic| walk_at "op") => `(tactic| with_reducible exact o_ne_b)
local macro_rules | `(tactic| walk_at "op") => `(tactic| with_reducible exact o_isN)
theorem nat_snoc {b : List Nat} {a : Nat} : natsD b ++ [D.int (a : Int)] = natsD (b ++ [a]) := nats_app (m := [a])
def lap1 (p : Nat × Nat) (s : Nat → Int) (h : Nat) : Int := (if p.1 = h then s p.2 - s h else 0) + (if p.2 = h then s p.1 - s h else 0)
def lap (rs : List (Nat × Nat)) (s : Nat → Int) (h : Nat) : Int := (rs.map fun p => lap1 p s h).sum
def aft (rs : List (Nat × Nat)) (p s : Nat → Int) (h : Nat) : Int := p h + lap rs s h
theorem lap_cons {q : Nat × Nat} {rs : List (Nat × Nat)} {s : Nat → Int} {h : Nat} : lap (q :: rs) s h = lap1 q s h + lap rs s h := by unfold lap; rw [List.map_cons, List.sum_cons]
theorem ends_lap (rs : List (Nat × Nat)) (s : Nat → Int) (h : Nat) : ((ends rs h).map s).sum - s h * ((ends rs h).length : Int) = lap rs s h := by
  induction rs with
  | nil => show (0 : Int) - s h * 0 = 0; omega
  | cons q rs ih =>
    rw [lap_cons, ← ih]
    unfold ends
    rw [List.flatMap_cons, List.map_append, List.length_append, List.sum_append]
    have : ((end1 q h).map s).sum - s h * ((end1 q h).length : Int) = lap1 q s h := by
      unfold end1 lap1
      by_cases a : q.1 = h <;> by_cases b : q.2 = h <;> simp [a, b] <;> omega
    rw [← this, Int.natCast_add, Int.mul_add]
    omega
theorem lap_add (rs : List (Nat × Nat)) (s u : Nat → Int) (h : Nat) : lap rs (fun k => s k + u k) h = lap rs s h + lap rs u h := by
  induction rs with
  | nil => rfl
  | cons q rs ih =>
    rw [lap_cons, lap_cons, lap_cons, ih]
    unfold lap1
    dsimp only
    split <;> split <;> omega
theorem lap_shift (rs : List (Nat × Nat)) (s : Nat → Int) (c : Int) (h : Nat) : lap rs (fun k => s k - c) h = lap rs s h := by
  induction rs with
  | nil => rfl
  | cons q rs ih =>
    rw [lap_cons, lap_cons, ih]
    unfold lap1
    dsimp only
    split <;> split <;> omega
theorem lap_neg (rs : List (Nat × Nat)) (s : Nat → Int) (h : Nat) : lap rs (fun k => - s k) h = - lap rs s h := by
  induction rs with
  | nil => rfl
  | cons q rs ih =>
    rw [lap_cons, lap_cons, ih]
    unfold lap1
    dsimp only
    split <;> split <;> omega
theorem lap_congr {rs : List (Nat × Nat)} {s u : Nat → Int} {n : Nat} (hr : ∀ p ∈ rs, p.1 < n ∧ p.2 < n ∧ p.1 ≠ p.2) (e : ∀ k, k < n → s k = u k) {h : Nat} (hh : h < n) : lap rs s h = lap rs u h := by
  induction rs with
  | nil => rfl
  | cons q rs ih =>
    obtain ⟨h1, h2, _⟩ := hr q (.head _)
    rw [lap_cons, lap_cons, ih fun p m => hr p (.tail _ m)]
    unfold lap1
    rw [e _ h1, e _ h2, e _ hh]
theorem sum_map_add {α : Type} (l : List α) (f g : α → Int) : (l.map fun a => f a + g a).sum = (l.map f).sum + (l.map g).sum := by
  induction l with
  | nil => rfl
  | cons a l ih => rw [List.map_cons, List.map_cons, List.map_cons, List.sum_cons, List.sum_cons, List.sum_cons, ih]; omega
theorem sum_zero {α : Type} (l : List α) (f : α → Int) (h : ∀ a ∈ l, f a = 0) : (l.map f).sum = 0 := by
  induction l with
  | nil => rfl
  | cons a l ih => rw [List.map_cons, List.sum_cons, h a (.head _), ih fun b m => h b (.tail _ m)]; rfl
theorem sum_at (n a : Nat) (v : Int) (h : a < n) : ((List.range n).map fun k => if a = k then v else 0).sum = v := by
  induction n with
  | zero => omega
  | succ n ih =>
    rw [List.range_succ, List.map_append, List.sum_append, List.map_cons, List.map_nil, List.sum_cons, List.sum_nil]
    by_cases z : a = n
    · rw [if_pos z, sum_zero _ _ fun b m => if_neg (by have := List.mem_range.mp m; omega)]; omega
    · rw [if_neg z, ih (by omega)]; omega
theorem w_roads_at {n : Nat} {rs : List (Nat × Nat)} {h : Nat} {t : Tpa} {Q : Tpa × Bool × D → Prop} (T : Town n rs) (k : Q (t, true, .lst (natsD (ends rs h)))) : wp (ph_roads_at t [townD n rs, .int (h : Int)]) Q := by
  obtain ⟨_, _, T3, T4⟩ := T
  unfold ph_roads_at bd_roads_at
  walk_at "ev"
  refine k_forS (itms_tm fun _ => rfl) ?_
  refine w_for (fun k t' e' => t' = t ∧ ∃ s3 s4, e' = [some (false, townD n rs), some (false, .int (h : Int)), some (true, .lst (natsD (ends (rs.take k) h))), s3, s4]) _ ⟨rfl, none, none, rfl⟩ ?_ ?_
  · rintro i x t' e' hx ⟨rfl, s3, s4, rfl⟩
    obtain ⟨p, hp, rfl⟩ := map_some hx
    have hl := ends_le (rs.take i) h
    have hm : (rs.take i).length ≤ rs.length := by rw [List.length_take]; omega
    have e : natsD (ends (rs.take (i + 1)) h) = natsD (ends (rs.take i) h) ++ natsD (end1 p h) := by rw [ends_take hp]; exact List.map_append
    rw [e]
    apply w_eq (by walk_at "asg")
    walk_at "ev"
    by_cases z1 : p.1 = h <;> by_cases z2 : p.2 = h
    all_goals
      first | refine k_if_t (decide_eq_true z1) ?_ | refine k_if_f (decide_eq_false z1) ?_
      walk_at "ev"
      first | refine k_if_t (decide_eq_true z2) ?_ | refine k_if_f (decide_eq_false z2) ?_
      walk_at "ev"
      refine ⟨rfl, some (true, .int p.1), some (true, .int p.2), ?_⟩
      simp [end1, z1, z2]
  · rintro t' e' ⟨rfl, s3, s4, rfl⟩
    walk_at "ev"
    rw [List.length_map, List.take_length]
    exact k
theorem lap_take {rs : List (Nat × Nat)} {k : Nat} {p : Nat × Nat} {s : Nat → Int} {h : Nat} (e : rs[k]? = some p) : lap (rs.take (k + 1)) s h = lap (rs.take k) s h + lap1 p s h := by
  unfold lap
  rw [take_s e, List.map_append, List.sum_append, List.map_cons, List.map_nil, List.sum_cons, List.sum_nil]
  omega
theorem w_after {n : Nat} {rs : List (Nat × Nat)} {p s : Nat → Int} {t : Tpa} {Q : Tpa × Bool × D → Prop} (T : Town n rs) (k : Q (t, true, .tup (vec n (aft rs p s)))) : wp (ph_after t [townD n rs, .tup (vec n p), .tup (vec n s)]) Q := by
  obtain ⟨_, T2, T3, T4⟩ := id T
  unfold ph_after bd_after
  walk_at "ev"
  refine k_forR (rgOf_n (by omega)) ?_
  refine w_for (fun k t' e' => t' = t ∧ ∃ s4 s5, e' = [some (false, townD n rs), some (false, .tup (vec n p)), some (false, .tup (vec n s)), some (true, .lst (vec k (aft rs p s))), s4, s5, none]) _ ⟨rfl, none, none, rfl⟩ ?_ ?_
  · rintro i x t' e' hx ⟨rfl, s4, s5, rfl⟩
    obtain ⟨hi, rfl⟩ := rgD_some hx
    rw [Int.zero_add]
    have hl := ends_le rs i
    have hb : (natsD (ends rs i)).length < 1000000 := by rw [List.length_map]; omega
    have he := ends_lt T4 i
    apply w_eq (by walk_at "asg")
    walk_at "ev"
    refine w_roads_at T ?_
    walk_at "ev"
    refine k_Lc (itmsC_lm (F := fun (k : Nat) => .int (k : Int)) fun _ => rfl) (by walk_at "set") ?_
    refine w_lc_all _ _ (fun o => .int (s o)) (fun a m => ?_) ?_
    · have := he a m
      apply w_eq (by walk_at "asg")
      walk_at "ev"
      exact ⟨rfl, rfl⟩
    · walk_at "ev"
      have e : p i - s i * ((natsD (ends rs i)).length : Int) + ((ends rs i).map s).sum = aft rs p s i := by
        have := ends_lap rs s i
        rw [List.length_map]
        unfold aft
        omega
      rw [e, ← vec_succ]
      exact ⟨rfl, _, _, rfl⟩
  · rintro t' e' ⟨rfl, s4, s5, rfl⟩
    rw [rgD_len]
    walk_at "ev"
    exact k
def mark (h : Nat) (v : Int) (k : Nat) : Int := if k = h then v else 0
def marks (lot : List Nat) (k : Nat) : Int := if k ∈ lot then 1 else 0
theorem w_lend_together {n : Nat} {rs : List (Nat × Nat)} {p : Nat → Int} {lot : List Nat} {d : D} {t : Tpa} {Q : Tpa × Bool × D → Prop} (T : Town n rs) (hd : d = .lst (natsD lot) ∨ d = .tup (natsD lot)) (k : Q (t, true, .tup (vec n (aft rs p (marks lot))))) : wp (ph_lend_together t [townD n rs, .tup (vec n p), d]) Q := by
  obtain ⟨_, T2, T3, T4⟩ := id T
  unfold ph_lend_together bd_lend_together
  walk_at "ev"
  refine k_LcR (rgOf_n (by omega)) (by show n ≤ _; omega) (by walk_at "set") ?_
  refine w_lcr n (marks lot) (fun a ha => ?_) ?_
  · apply w_eq (by walk_at "asg")
    rcases hd with rfl | rfl
    all_goals
      walk_at "ev"
      by_cases z : a ∈ lot
      · refine k_ifX_t (decide_eq_true z) ?_
        walk_at "ev"
        exact ⟨rfl, by rw [marks, if_pos z]⟩
      · refine k_ifX_f (decide_eq_false z) ?_
        walk_at "ev"
        exact ⟨rfl, by rw [marks, if_neg z]⟩
  · walk_at "ev"
    refine w_after T ?_
    walk_at "ev"
    exact k
theorem w_joined {n : Nat} {s u : Nat → Int} {t : Tpa} {Q : Tpa × Bool × D → Prop} (hn : n < 1000) (k : Q (t, true, .tup (vec n fun k => s k + u k))) : wp (ph_joined t [.tup (vec n s), .tup (vec n u)]) Q := by
  unfold ph_joined bd_joined
  walk_at "ev"
  rw [vec_len]
  refine k_LcR (rgOf_n (by omega)) (by show n ≤ _; omega) (by walk_at "set") ?_
  refine w_lcr n (fun k => s k + u k) (fun a ha => ?_) ?_
  · apply w_eq (by walk_at "asg")
    walk_at "ev"
    exact ⟨rfl, rfl⟩
  · walk_at "ev"
    exact k
theorem w_plain {n : Nat} {s : Nat → Int} {t : Tpa} {Q : Tpa × Bool × D → Prop} (hn : 0 < n) (k : Q (t, true, .tup (vec n fun k => s k - minI ((List.range n).map s)))) : wp (ph_plain t [.tup (vec n s)]) Q := by
  have ne : (List.range n).map s ≠ [] := fun h => by have := congrArg List.length h; rw [List.length_map, List.length_range] at this; exact absurd this (by rw [List.length_nil]; omega)
  unfold ph_plain bd_plain
  walk_at "ev"
  refine k_bt (o_min_t intsD_vec ne) ?_
  walk_at "ev"
  refine k_Lc (itmsC_tm (F := fun (k : Nat) => .int (s k)) fun _ => rfl) (by walk_at "set") ?_
  refine w_lc_all _ _ (fun k => .int (s k - minI ((List.range n).map s))) (fun a m => ?_) ?_
  · apply w_eq (by walk_at "asg")
    walk_at "ev"
    exact ⟨rfl, rfl⟩
  · walk_at "ev"
    exact k
theorem w_less {n : Nat} {s u : Nat → Int} {t : Tpa} {Q : Tpa × Bool × D → Prop} (hn : n < 1000) (k : Q (t, true, .tup (vec n fun k => s k - u k))) : wp (ph_less t [.tup (vec n s), .tup (vec n u)]) Q := by
  unfold ph_less bd_less
  walk_at "ev"
  rw [vec_len]
  refine k_LcR (rgOf_n (by omega)) (by show n ≤ _; omega) (by walk_at "set") ?_
  refine w_lcr n (fun k => s k - u k) (fun a ha => ?_) ?_
  · apply w_eq (by walk_at "asg")
    walk_at "ev"
    exact ⟨rfl, rfl⟩
  · walk_at "ev"
    exact k
def may (rs : List (Nat × Nat)) (p : Nat → Int) (b : List Nat) (h : Nat) : Bool := decide (h ∉ b) && decide (p h < (into rs h b : Int))
def ready (n : Nat) (rs : List (Nat × Nat)) (p : Nat → Int) (b : List Nat) : List Nat := (List.range n).filter (may rs p b)
def fireN (n : Nat) (rs : List (Nat × Nat)) (p : Nat → Int) : Nat → List Nat → List Nat
  | 0, b => b
  | k + 1, b => match ready n rs p b with
    | [] => b
    | a :: _ => fireN n rs p k (b ++ [a])
structure FI (n : Nat) (rs : List (Nat × Nat)) (p : Nat → Int) (bank : Nat) (b : List Nat) : Prop where
  nd : b.Nodup
  lt : ∀ x ∈ b, x < n
  pos : 0 < b.length
  eq : fireN n rs p n [bank] = fireN n rs p (n + 1 - b.length) b
  hd : b[0]? = some bank
  ok : ∀ (k h : Nat), 1 ≤ k → b[k]? = some h → p h < (into rs h (b.take k) : Int)
theorem FI.start {n : Nat} {rs : List (Nat × Nat)} {p : Nat → Int} {bank : Nat} (h : bank < n) : FI n rs p bank [bank] where
  nd := List.nodup_cons.mpr ⟨fun m => (nomatch m), List.nodup_nil⟩
  lt x m := by rw [List.mem_singleton.mp m]; exact h
  pos := Nat.le_of_ble_eq_true rfl
  eq := rfl
  hd := rfl
  ok k h h1 e := by
    cases k with
    | zero => omega
    | succ k => cases e
theorem FI.len {n : Nat} {rs : List (Nat × Nat)} {p : Nat → Int} {bank : Nat} {b : List Nat} (F : FI n rs p bank b) : b.length ≤ n := nd_len F.nd F.lt
theorem FI.step {n : Nat} {rs : List (Nat × Nat)} {p : Nat → Int} {bank : Nat} {b : List Nat} {a : Nat} {l : List Nat} (F : FI n rs p bank b) (e : ready n rs p b = a :: l) : FI n rs p bank (b ++ [a]) ∧ b.length < n := by
  have ma : a ∈ ready n rs p b := by rw [e]; exact .head _
  obtain ⟨m1, m2⟩ := List.mem_filter.mp ma
  have an := List.mem_range.mp m1
  unfold may at m2
  rw [Bool.and_eq_true, decide_eq_true_iff, decide_eq_true_iff] at m2
  have nd : (b ++ [a]).Nodup := List.nodup_append.mpr ⟨F.nd, List.nodup_cons.mpr ⟨fun m => (nomatch m), List.nodup_nil⟩, fun x hx y hy z => m2.1 (by rw [List.mem_singleton.mp hy] at z; rw [← z]; exact hx)⟩
  have lt : ∀ x ∈ b ++ [a], x < n := fun x m => by
    rcases List.mem_append.mp m with z | z
    · exact F.lt x z
    · rw [List.mem_singleton.mp z]; exact an
  have ln := nd_len nd lt
  rw [List.length_append, List.length_singleton] at ln
  refine ⟨⟨nd, lt, by rw [List.length_append]; exact Nat.lt_of_lt_of_le F.pos (Nat.le_add_right _ _), ?_, ?_, fun k h h1 hk => ?_⟩, by omega⟩
  · rw [F.eq, List.length_append, List.length_singleton, show n + 1 - b.length = (n + 1 - (b.length + 1)) + 1 by omega]
    show (match ready n rs p b with | [] => b | a :: _ => fireN n rs p (n + 1 - (b.length + 1)) (b ++ [a])) = _
    rw [e]
  · rw [List.getElem?_append_left F.pos]; exact F.hd
  · by_cases z : k < b.length
    · rw [List.getElem?_append_left z] at hk
      rw [List.take_append_of_le_length (by omega)]
      exact F.ok k h h1 hk
    · have kl : k = b.length := by
        have := (List.getElem?_eq_some_iff.mp hk).1
        rw [List.length_append, List.length_singleton] at this
        omega
      subst kl
      rw [List.getElem?_append_right (Nat.le_refl _), Nat.sub_self] at hk
      cases hk
      rw [List.take_left]
      exact m2.2
theorem FI.stop {n : Nat} {rs : List (Nat × Nat)} {p : Nat → Int} {bank : Nat} {b : List Nat} (F : FI n rs p bank b) (e : ready n rs p b = []) : fireN n rs p n [bank] = b := by
  rw [F.eq]
  cases n + 1 - b.length with
  | zero => rfl
  | succ k =>
    show (match ready n rs p b with | [] => b | a :: _ => fireN n rs p k (b ++ [a])) = _
    rw [e]
theorem nats_snoc {b : List Nat} {a : Nat} : natsD b ++ [D.int (a : Int)] = natsD (b ++ [a]) := nats_app (m := [a])
theorem w_roads_into {n : Nat} {rs : List (Nat × Nat)} {h : Nat} {b : List Nat} {d : D} {t : Tpa} {Q : Tpa × Bool × D → Prop} (T : Town n rs) (hd : d = .lst (natsD b) ∨ d = .tup (natsD b)) (k : Q (t, true, .int (into rs h b : Int))) : wp (ph_roads_into t [townD n rs, .int (h : Int), d]) Q := by
  unfold ph_roads_into bd_roads_into
  rcases hd with rfl | rfl
  all_goals
    walk_at "ev"
    refine w_roads_at T ?_
    walk_at "ev"
    refine k_Lc (itmsC_lm (F := fun (k : Nat) => .int (k : Int)) fun _ => rfl) (by walk_at "set") ?_
    refine w_lc_pure _ _ (fun (k : Nat) => .int (k : Int)) (fun o => decide (o ∈ b)) (fun a m => ?_) ?_
    · apply w_eq (by walk_at "asg")
      walk_at "ev"
      refine ⟨rfl, rfl, fun _ => ?_⟩
      walk_at "ev"
      exact ⟨rfl, rfl⟩
    · walk_at "ev"
      rw [List.length_map]
      exact k
theorem w_fire {n : Nat} {rs : List (Nat × Nat)} {p : Nat → Int} {bank : Nat} {t : Tpa} {Q : Tpa × Bool × D → Prop} (T : Town n rs) (hb : bank < n) (k : Q (t, true, .lst (natsD (fireN n rs p n [bank])))) : wp (ph_fire t [townD n rs, .tup (vec n p), .int (bank : Int)]) Q := by
  obtain ⟨_, T2, T3, T4⟩ := id T
  unfold ph_fire bd_fire
  walk_at "ev"
  refine w_while (fun m t' e' => t' = t ∧ ∃ b s4 s5, e' = [some (false, townD n rs), some (false, .tup (vec n p)), some (false, .int (bank : Int)), some (true, .lst (natsD b)), s4, s5] ∧ FI n rs p bank b ∧ m = n - b.length) (n - 1) ⟨rfl, [bank], none, none, rfl, FI.start hb, rfl⟩ ?_
  rintro m t' e' ⟨rfl, b, s4, s5, rfl, F, rfl⟩
  have bl := F.len
  walk_at "ev"
  refine k_wh (fun _ => ?_) (fun z => by cases z)
  walk_at "ev"
  refine k_forRn (by omega) ?_
  refine w_for (fun k t1 e1 => t1 = t' ∧ ∃ s5, e1 = [some (false, townD n rs), some (false, .tup (vec n p)), some (false, .int (bank : Int)), some (true, .lst (natsD b)), some (true, .lst (natsD ((List.range k).filter (may rs p b)))), s5]) _ ⟨rfl, _, rfl⟩ ?_ ?_
  · rintro i x t1 e1 hx ⟨rfl, s5, rfl⟩
    obtain ⟨hi, rfl⟩ := rgD_some hx
    rw [Int.zero_add]
    have hl : ((List.range i).filter (may rs p b)).length ≤ (List.range i).length := List.length_filter_le _ _
    rw [List.length_range] at hl
    apply w_eq (by walk_at "asg")
    walk_at "ev"
    by_cases z : i ∈ b
    · refine k_andT_f (by rw [decide_eq_true z]; rfl) ?_
      walk_at "ev"
      rw [fl_f (by unfold may; rw [decide_eq_false (fun w => w z)]; exact Bool.false_ne_true)]
      exact ⟨rfl, _, rfl⟩
    · refine k_andT_t (by rw [decide_eq_false z]; rfl) ?_
      walk_at "ev"
      refine w_roads_into T (.inl rfl) ?_
      walk_at "ev"
      by_cases y : p i < (into rs i b : Int)
      · refine k_if_t (decide_eq_true y) ?_
        walk_at "ev"
        rw [fl_t (by unfold may; rw [decide_eq_true z, decide_eq_true y]; rfl), ← nats_app]
        exact ⟨rfl, _, rfl⟩
      · refine k_if_f (decide_eq_false y) ?_
        walk_at "ev"
        rw [fl_f (by unfold may; rw [decide_eq_false y, Bool.and_false]; exact Bool.false_ne_true)]
        exact ⟨rfl, _, rfl⟩
  · rintro t1 e1 ⟨rfl, s5, rfl⟩
    rw [rgD_len]
    walk_at "ev"
    cases er : ready n rs p b with
    | nil =>
      have er' : (List.range n).filter (may rs p b) = [] := er
      rw [er']
      refine k_if_t rfl ?_
      walk_at "ev"
      rw [F.stop er] at k
      exact k
    | cons a l =>
      have er' : (List.range n).filter (may rs p b) = a :: l := er
      rw [er']
      obtain ⟨F', lt'⟩ := F.step er
      refine k_if_f (decide_eq_false (by rw [List.length_map, List.length_cons]; omega)) ?_
      walk_at "ev"
      rw [nats_snoc]
      exact ⟨n - (b ++ [a]).length, by rw [List.length_append, List.length_singleton]; omega, rfl, b ++ [a], _, _, rfl, F', rfl⟩
theorem w_standing {n : Nat} {rs : List (Nat × Nat)} {p : Nat → Int} {bank : Nat} {t : Tpa} {Q : Tpa × Bool × D → Prop} (T : Town n rs) (hb : bank < n) (k : Q (t, true, .lst (natsD ((List.range n).filter fun h => decide (h ∉ fireN n rs p n [bank]))))) : wp (ph_standing t [townD n rs, .tup (vec n p), .int (bank : Int)]) Q := by
  obtain ⟨_, T2, T3, T4⟩ := id T
  unfold ph_standing bd_standing
  walk_at "ev"
  refine w_fire T hb ?_
  walk_at "ev"
  refine k_LcRn (by omega) (by walk_at "set") ?_
  refine w_lc_pure (List.range n) (fun k => .int (0 + (k : Int))) (fun k => .int (k : Int)) (fun h => decide (h ∉ fireN n rs p n [bank])) (fun a m => ?_) ?_
  · rw [Int.zero_add]
    apply w_eq (by walk_at "asg")
    walk_at "ev"
    refine ⟨rfl, by rw [decide_not], fun _ => ?_⟩
    walk_at "ev"
    exact ⟨rfl, rfl⟩
  · walk_at "ev"
    exact k
def sumQ : Nat → (Nat → Rat) → Rat
  | 0, _ => 0
  | n + 1, f => sumQ n f + f n
theorem sumQ_congr {n : Nat} {f g : Nat → Rat} (h : ∀ i, i < n → f i = g i) : sumQ n f = sumQ n g := by
  induction n with
  | zero => rfl
  | succ n ih => unfold sumQ; rw [ih fun i hi => h i (by omega), h n (by omega)]
theorem sumQ_lin {n : Nat} {f g : Nat → Rat} {t : Rat} : sumQ n (fun i => f i + t * g i) = sumQ n f + t * sumQ n g := by
  induction n with
  | zero => unfold sumQ; grind
  | succ n ih => unfold sumQ; rw [ih]; grind
theorem sumQ_zero {n : Nat} {f : Nat → Rat} (h : ∀ i, i < n → f i = 0) : sumQ n f = 0 := by
  induction n with
  | zero => rfl
  | succ n ih => unfold sumQ; rw [ih fun i hi => h i (by omega), h n (by omega)]; grind
theorem sumQ_one {n k : Nat} {f : Nat → Rat} (hk : k < n) (h : ∀ i, i < n → i ≠ k → f i = 0) : sumQ n f = f k := by
  induction n with
  | zero => omega
  | succ n ih =>
    unfold sumQ
    by_cases z : k = n
    · rw [sumQ_zero fun i hi => h i (by omega) (by omega), z]; grind
    · rw [ih (by omega) fun i hi => h i (by omega), h n (by omega) (by omega)]; grind
theorem sumQ_two {n r : Nat} {f : Nat → Rat} (hr : r + 1 < n) (h : ∀ i, i < n → i ≠ r → i ≠ r + 1 → f i = 0) : sumQ n f = f r + f (r + 1) := by
  induction n with
  | zero => omega
  | succ n ih =>
    unfold sumQ
    by_cases z : r + 1 = n
    · rw [sumQ_one (k := r) (by omega) fun i hi ne => h i (by omega) ne (by omega), z]
    · rw [ih (by omega) fun i hi => h i (by omega), h n (by omega) (by omega) (by omega)]; grind
def sk (i a : Nat) : Nat := if a < i then a else a + 1
def pk' (i r : Nat) : Nat := if r < i then r else r - 1
def sgn (i : Nat) : Rat := if i % 2 = 0 then 1 else -1
theorem sgn_succ (i : Nat) : sgn (i + 1) = -sgn i := by
  unfold sgn
  by_cases z : i % 2 = 0
  · rw [if_pos z, if_neg (by omega)]
  · rw [if_neg z, if_pos (by omega)]; grind
def dt : Nat → (Nat → Nat → Rat) → Rat
  | 0, _ => 1
  | n + 1, A => sumQ (n + 1) fun i => sgn i * A i 0 * dt n fun a b => A (sk i a) (b + 1)
theorem dt_congr : ∀ {n : Nat} {A B : Nat → Nat → Rat}, (∀ a b, a < n → b < n → A a b = B a b) → dt n A = dt n B
  | 0, _, _, _ => rfl
  | n + 1, A, B, h => by
    unfold dt
    refine sumQ_congr fun i hi => ?_
    rw [h i 0 hi (by omega), dt_congr (n := n) (A := fun a b => A (sk i a) (b + 1)) (B := fun a b => B (sk i a) (b + 1)) fun a b ha hb => h _ _ (by unfold sk; split <;> omega) (by omega)]
def rw_ (A : Nat → Nat → Rat) (r : Nat) (u : Nat → Rat) : Nat → Nat → Rat := fun a b => if a = r then u b else A a b
theorem rw_at {A : Nat → Nat → Rat} {r a b : Nat} {u : Nat → Rat} (h : a = r) : rw_ A r u a b = u b := if_pos h
theorem rw_ne {A : Nat → Nat → Rat} {r a b : Nat} {u : Nat → Rat} (h : a ≠ r) : rw_ A r u a b = A a b := if_neg h
theorem sk_pk {i r : Nat} (h : i ≠ r) {a : Nat} : sk i a = r ↔ a = pk' i r := by
  unfold sk pk'
  split <;> split <;> omega
theorem minor_row {A : Nat → Nat → Rat} {i r : Nat} {u : Nat → Rat} (h : i ≠ r) : (fun a b => rw_ A r u (sk i a) (b + 1)) = rw_ (fun a b => A (sk i a) (b + 1)) (pk' i r) (fun b => u (b + 1)) := by
  funext a b
  by_cases z : a = pk' i r
  · rw [rw_at ((sk_pk h).mpr z), rw_at z]
  · rw [rw_ne fun w => z ((sk_pk h).mp w), rw_ne z]
theorem minor_same {A : Nat → Nat → Rat} {r : Nat} {u : Nat → Rat} : (fun a b => rw_ A r u (sk r a) (b + 1)) = fun a b => A (sk r a) (b + 1) := by
  funext a b
  rw [rw_ne (by unfold sk; split <;> omega)]
theorem dt_lin : ∀ {n : Nat} {A : Nat → Nat → Rat} {r : Nat} {u v : Nat → Rat} {t : Rat}, r < n → dt n (rw_ A r fun b => u b + t * v b) = dt n (rw_ A r u) + t * dt n (rw_ A r v)
  | 0, _, _, _, _, _, h => by omega
  | n + 1, A, r, u, v, t, h => by
    unfold dt
    rw [← sumQ_lin]
    refine sumQ_congr fun i hi => ?_
    by_cases z : i = r
    · subst z
      rw [minor_same, minor_same, minor_same, rw_at rfl, rw_at rfl, rw_at rfl]
      grind
    · rw [minor_row z, minor_row z, minor_row z, rw_ne z, rw_ne z, rw_ne z, dt_lin (n := n) (by unfold pk'; split <;> omega)]
      grind
theorem dt_adj : ∀ {n : Nat} {A : Nat → Nat → Rat} {r : Nat}, r + 1 < n → (∀ b, A r b = A (r + 1) b) → dt n A = 0
  | 0, _, _, h, _ => by omega
  | n + 1, A, r, h, e => by
    unfold dt
    rw [sumQ_two h fun i hi n1 n2 => ?_]
    · have : (fun a b => A (sk (r + 1) a) (b + 1)) = fun a b => A (sk r a) (b + 1) := by
        funext a b
        by_cases z : a = r
        · rw [z, show sk (r + 1) r = r from if_pos (by omega), show sk r r = r + 1 from if_neg (by omega), e]
        · rw [show sk (r + 1) a = sk r a from by unfold sk; split <;> split <;> omega]
      rw [this, sgn_succ, e 0]
      grind
    · rw [dt_adj (n := n) (r := pk' i r) (by unfold pk'; split <;> omega) fun b => ?_]
      · grind
      · rw [show sk i (pk' i r) = r from (sk_pk n1).mpr rfl, show sk i (pk' i r + 1) = r + 1 from (sk_pk n2).mpr (by unfold pk'; split <;> split <;> omega), e]
theorem dt_eq0 : ∀ {r n : Nat} {A : Nat → Nat → Rat}, 0 < r → r < n → (∀ b, A 0 b = A r b) → dt n A = 0
  | 0, _, _, h, _, _ => by omega
  | 1, n, A, _, h, e => dt_adj (r := 0) h e
  | r + 2, n, A, _, h, e => by
    have bb : ∀ u v : Nat → Rat, dt n (rw_ (rw_ A (r + 1) u) (r + 2) v) = - dt n (rw_ (rw_ A (r + 1) v) (r + 2) u) := fun u v => by
      have z : ∀ w : Nat → Rat, dt n (rw_ (rw_ A (r + 1) w) (r + 2) w) = 0 := fun w => dt_adj (r := r + 1) h fun b => by
        show (if r + 1 = r + 2 then w b else if r + 1 = r + 1 then w b else A (r + 1) b) = if r + 1 + 1 = r + 2 then w b else _
        rw [if_neg (by omega), if_pos rfl, if_pos rfl]
      have sw : ∀ (p q : Nat → Rat), rw_ (rw_ A (r + 1) p) (r + 2) q = rw_ (rw_ A (r + 2) q) (r + 1) p := fun p q => by
        funext a b
        by_cases z1 : a = r + 1
        · rw [z1]; show (if r + 1 = r + 2 then _ else if r + 1 = r + 1 then p b else _) = if r + 1 = r + 1 then p b else _
          rw [if_neg (by omega), if_pos rfl, if_pos rfl]
        · show (if a = r + 2 then q b else if a = r + 1 then p b else A a b) = if a = r + 1 then p b else if a = r + 2 then q b else A a b
          rw [if_neg z1, if_neg z1]
      have h1 := z fun b => u b + 1 * v b
      rw [dt_lin h, sw, sw, dt_lin (by omega), dt_lin (by omega), ← sw, ← sw, ← sw, ← sw, z u, z v] at h1
      grind
    have e1 := bb (A (r + 1)) (A (r + 2))
    have e2 : rw_ (rw_ A (r + 1) (A (r + 1))) (r + 2) (A (r + 2)) = A := by
      funext a b
      show (if a = r + 2 then A (r + 2) b else if a = r + 1 then A (r + 1) b else A a b) = A a b
      split
      · rename_i z; rw [z]
      · split
        · rename_i z; rw [z]
        · rfl
    rw [e2] at e1
    rw [e1, dt_eq0 (r := r + 1) (by omega) (by omega) fun b => ?_]
    · grind
    · show (if 0 = r + 2 then _ else if 0 = r + 1 then _ else A 0 b) = if r + 1 = r + 2 then _ else if r + 1 = r + 1 then A (r + 2) b else _
      rw [if_neg (by omega), if_neg (by omega), if_neg (by omega), if_pos rfl, e]
theorem dt_add {n r : Nat} {A : Nat → Nat → Rat} {t : Rat} (h0 : 0 < r) (h : r < n) : dt n (rw_ A r fun b => A r b + t * A 0 b) = dt n A := by
  rw [dt_lin h, dt_eq0 (A := rw_ A r (A 0)) h0 h fun b => ?_]
  · have : rw_ A r (A r) = A := by
      funext a b
      show (if a = r then A r b else A a b) = A a b
      split
      · rename_i z; rw [z]
      · rfl
    rw [this]; grind
  · show (if 0 = r then _ else A 0 b) = if r = r then A 0 b else _
    rw [if_neg (by omega), if_pos rfl]
/-- one step of elimination -/
def cm (A : Nat → Nat → Rat) (m : Nat) : Nat → Nat → Rat := fun a b => if 1 ≤ a ∧ a ≤ m then A a b + (-(A a 0 / A 0 0)) * A 0 b else A a b
theorem cm_in {A : Nat → Nat → Rat} {m a b : Nat} (h : 1 ≤ a ∧ a ≤ m) : cm A m a b = A a b + (-(A a 0 / A 0 0)) * A 0 b := if_pos h
theorem cm_out {A : Nat → Nat → Rat} {m a b : Nat} (h : ¬ (1 ≤ a ∧ a ≤ m)) : cm A m a b = A a b := if_neg h
theorem dt_cm {n : Nat} {A : Nat → Nat → Rat} : ∀ m, m ≤ n → dt (n + 1) (cm A m) = dt (n + 1) A
  | 0, _ => by
    refine congrArg (dt (n + 1)) ?_
    funext a b
    rw [cm_out (by omega)]
  | m + 1, hm => by
    refine Eq.trans ?_ (dt_cm m (by omega))
    rw [← dt_add (A := cm A m) (r := m + 1) (t := -(A (m + 1) 0 / A 0 0)) (by omega) (by omega)]
    refine congrArg (dt (n + 1)) ?_
    funext a b
    by_cases z : a = m + 1
    · rw [z, cm_in (by omega), rw_at rfl, cm_out (by omega), cm_out (by omega)]
    · rw [rw_ne z]
      by_cases y : 1 ≤ a ∧ a ≤ m
      · rw [cm_in (by omega), cm_in y]
      · rw [cm_out (by omega), cm_out y]
theorem dt_elim {n : Nat} {A : Nat → Nat → Rat} (hp : A 0 0 ≠ 0) : dt (n + 1) A = A 0 0 * dt n fun a b => A (a + 1) (b + 1) - A (a + 1) 0 / A 0 0 * A 0 (b + 1) := by
  rw [← dt_cm n (Nat.le_refl _)]
  conv => lhs; unfold dt
  rw [sumQ_one (k := 0) (by omega) fun i hi ne => ?_]
  · rw [cm_out (by omega), show sgn 0 = 1 from rfl, dt_congr (n := n) (A := fun a b => cm A n (sk 0 a) (b + 1)) (B := fun a b => A (a + 1) (b + 1) - A (a + 1) 0 / A 0 0 * A 0 (b + 1)) fun a b ha hb => ?_]
    · grind
    · rw [show sk 0 a = a + 1 from if_neg (by omega), cm_in (by omega)]; grind
  · rw [cm_in (by omega)]; grind
def sch (A : Nat → Nat → Rat) : Nat → Nat → Nat → Rat
  | 0 => A
  | k + 1 => fun i j => sch A k i j - sch A k i k / sch A k k k * sch A k k j
def piv (A : Nat → Nat → Rat) : Nat → Rat
  | 0 => 1
  | k + 1 => piv A k * sch A k k k
def bord (k : Nat) (A : Nat → Nat → Rat) (i j : Nat) : Nat → Nat → Rat := fun a b => A (if a < k then a else i) (if b < k then b else j)
theorem dt_bord {A : Nat → Nat → Rat} {k i j : Nat} (hp : ∀ l, l < k → sch A l l l ≠ 0) : dt (k + 1) (bord k A i j) = piv A k * sch A k i j := by
  have g : ∀ m l, l + m = k → piv A l * dt (m + 1) (fun a b => sch A l (if a + l < k then a + l else i) (if b + l < k then b + l else j)) = piv A k * sch A k i j := by
    intro m
    induction m with
    | zero =>
      intro l hl
      have e : l = k := by omega
      subst e
      refine congrArg (piv A l * ·) ?_
      show sumQ 1 _ = _
      unfold sumQ sumQ dt
      dsimp only
      rw [if_neg (by omega), if_neg (by omega), show sgn 0 = 1 from rfl]
      grind
    | succ m ih =>
      intro l hl
      have h0 := hp l (by omega)
      rw [dt_elim (by rw [if_pos (by omega), if_pos (by omega), Nat.zero_add]; exact h0), ← ih (l + 1) (by omega)]
      rw [if_pos (show 0 + l < k by omega), if_pos (show 0 + l < k by omega), Nat.zero_add]
      have e : (fun a b => sch A l (if a + 1 + l < k then a + 1 + l else i) (if b + 1 + l < k then b + 1 + l else j) - sch A l (if a + 1 + l < k then a + 1 + l else i) l / sch A l l l * sch A l l (if b + 1 + l < k then b + 1 + l else j)) = fun a b => sch A (l + 1) (if a + (l + 1) < k then a + (l + 1) else i) (if b + (l + 1) < k then b + (l + 1) else j) := by
        funext a b
        rw [show a + 1 + l = a + (l + 1) by omega, show b + 1 + l = b + (l + 1) by omega]
        rfl
      rw [e]
      show _ = piv A l * sch A l l l * _
      grind
  have := g k 0 (by omega)
  rw [show piv A 0 = 1 from rfl] at this
  rw [← this]
  have e : bord k A i j = fun a b => sch A 0 (if a + 0 < k then a + 0 else i) (if b + 0 < k then b + 0 else j) := rfl
  rw [e]
  grind
theorem sumQ_int {n : Nat} {f : Nat → Rat} {B : Nat} (h : ∀ i, i < n → ∃ z : Int, f i = (z : Rat) ∧ z.natAbs ≤ B) : ∃ z : Int, sumQ n f = (z : Rat) ∧ z.natAbs ≤ n * B := by
  induction n with
  | zero => exact ⟨0, rfl, by omega⟩
  | succ n ih =>
    obtain ⟨z, h1, h2⟩ := ih fun i hi => h i (by omega)
    obtain ⟨w, h3, h4⟩ := h n (by omega)
    refine ⟨z + w, ?_, ?_⟩
    · unfold sumQ
      rw [h1, h3, Rat.intCast_add]
    · rw [Nat.add_mul]; omega
theorem dt_int {B : Nat} : ∀ {n : Nat} {A : Nat → Nat → Rat}, (∀ a b, a < n → b < n → ∃ z : Int, A a b = (z : Rat) ∧ z.natAbs ≤ B) → ∃ z : Int, dt n A = (z : Rat) ∧ z.natAbs ≤ (n * B) ^ n
  | 0, _, _ => ⟨1, rfl, by rw [Nat.pow_zero]; exact Nat.le_refl 1⟩
  | n + 1, A, h => by
    unfold dt
    have := sumQ_int (n := n + 1) (f := fun i => sgn i * A i 0 * dt n fun a b => A (sk i a) (b + 1)) (B := B * (n * B) ^ n) fun i hi => by
      obtain ⟨z, h1, h2⟩ := h i 0 hi (by omega)
      obtain ⟨w, h3, h4⟩ := dt_int (n := n) (A := fun a b => A (sk i a) (b + 1)) fun a b ha hb => h _ _ (by unfold sk; split <;> omega) (by omega)
      have l : (z * w).natAbs ≤ B * (n * B) ^ n := by rw [Int.natAbs_mul]; exact Nat.mul_le_mul h2 h4
      unfold sgn
      rw [h1, h3]
      split
      · exact ⟨z * w, by rw [Rat.intCast_mul]; grind, l⟩
      · exact ⟨-(z * w), by rw [Rat.intCast_neg, Rat.intCast_mul]; grind, by rw [Int.natAbs_neg]; exact l⟩
    obtain ⟨z, h1, h2⟩ := this
    refine ⟨z, h1, Nat.le_trans h2 ?_⟩
    rw [Nat.pow_succ, Nat.mul_comm ((_ : Nat) ^ n), Nat.mul_assoc (n + 1)]
    refine Nat.mul_le_mul (Nat.le_refl _) (Nat.mul_le_mul (Nat.le_refl _) ?_)
    exact Nat.pow_le_pow_left (Nat.mul_le_mul (by omega) (Nat.le_refl _)) n
theorem sumQ_first {n : Nat} {f : Nat → Rat} : sumQ (n + 1) f = f 0 + sumQ n fun i => f (i + 1) := by
  induction n with
  | zero => unfold sumQ sumQ; grind
  | succ n ih =>
    have e : sumQ (n + 1 + 1) f = sumQ (n + 1) f + f (n + 1) := rfl
    have e2 : sumQ (n + 1) (fun i => f (i + 1)) = sumQ n (fun i => f (i + 1)) + f (n + 1) := rfl
    rw [e, e2, ih]; grind
theorem sumQ_nonpos {n : Nat} {f : Nat → Rat} (h : ∀ i, i < n → f i ≤ 0) : sumQ n f ≤ 0 := by
  induction n with
  | zero => unfold sumQ; grind
  | succ n ih =>
    unfold sumQ
    have := ih fun i hi => h i (by omega)
    have := h n (by omega)
    grind
theorem neg_mul_neg' {a b : Rat} (ha : a ≤ 0) (hb : b ≤ 0) : 0 ≤ a * b := by
  have := Rat.mul_nonneg (a := -a) (b := -b) (by grind) (by grind)
  grind
theorem nonpos_mul {a b : Rat} (ha : a ≤ 0) (hb : 0 ≤ b) : a * b ≤ 0 := by
  have := Rat.mul_nonneg (a := -a) (b := b) (by grind) hb
  grind
section
variable {m : Nat} {A : Nat → Nat → Rat} {s : Nat → Rat}
structure MM (m : Nat) (A : Nat → Nat → Rat) (s : Nat → Rat) (k : Nat) : Prop where
  pv : ∀ l, l < k → 0 < sch A l l l
  off : ∀ i j, k ≤ i → k ≤ j → i < m → j < m → i ≠ j → sch A k i j ≤ 0
  row : ∀ i, k ≤ i → i < m → 0 < sumQ (m - k) fun b => sch A k i (k + b) * s (k + b)
theorem MM.piv (sp : ∀ j, j < m → 0 < s j) {k : Nat} (M : MM m A s k) (hk : k < m) : 0 < sch A k k k := by
  have h := M.row k (Nat.le_refl _) hk
  rw [show m - k = (m - k - 1) + 1 by omega, sumQ_first, Nat.add_zero] at h
  have h2 : sumQ (m - k - 1) (fun i => sch A k k (k + (i + 1)) * s (k + (i + 1))) ≤ 0 := sumQ_nonpos fun i hi => nonpos_mul (M.off k _ (Nat.le_refl _) (by omega) hk (by omega) (by omega)) (Std.le_of_lt (sp _ (by omega)))
  have h3 := sp k hk
  have h4 : 0 < sch A k k k * s k := by grind
  by_cases z : 0 < sch A k k k
  · exact z
  · have := nonpos_mul (a := sch A k k k) (b := s k) (by grind) (Std.le_of_lt h3)
    grind
theorem MM.step (sp : ∀ j, j < m → 0 < s j) {k : Nat} (M : MM m A s k) (hk : k < m) : MM m A s (k + 1) := by
  have p0 := M.piv sp hk
  have ne : sch A k k k ≠ 0 := by grind
  have ip : 0 < (sch A k k k)⁻¹ := Rat.inv_pos.mpr p0
  refine ⟨fun l hl => ?_, fun i j hi hj him hjm n => ?_, fun i hi him => ?_⟩
  · by_cases z : l = k
    · rw [z]; exact p0
    · exact M.pv l (by omega)
  · show sch A k i j - sch A k i k / sch A k k k * sch A k k j ≤ 0
    have a1 := M.off i j (by omega) (by omega) him hjm n
    have a2 := neg_mul_neg' (M.off i k (by omega) (Nat.le_refl _) him hk (by omega)) (M.off k j (Nat.le_refl _) (by omega) hk hjm (by omega))
    have a3 := Rat.mul_nonneg a2 (Std.le_of_lt ip)
    have e : sch A k i k / sch A k k k * sch A k k j = sch A k i k * sch A k k j * (sch A k k k)⁻¹ := by grind
    rw [e]; grind
  · have ti := M.row i (by omega) him
    have tk := M.row k (Nat.le_refl _) hk
    rw [show m - k = (m - (k + 1)) + 1 by omega, sumQ_first, Nat.add_zero] at ti tk
    have e : (sumQ (m - (k + 1)) fun b => sch A (k + 1) i (k + 1 + b) * s (k + 1 + b)) = (sumQ (m - (k + 1)) fun b => sch A k i (k + (b + 1)) * s (k + (b + 1))) + (-(sch A k i k / sch A k k k)) * sumQ (m - (k + 1)) fun b => sch A k k (k + (b + 1)) * s (k + (b + 1)) := by
      rw [← sumQ_lin]
      refine sumQ_congr fun b hb => ?_
      rw [show k + 1 + b = k + (b + 1) by omega]
      show (sch A k i _ - sch A k i k / sch A k k k * sch A k k _) * _ = _
      grind
    rw [e]
    have c0 := M.off i k (by omega) (Nat.le_refl _) him hk (by omega)
    have r0 : 0 ≤ -(sch A k i k / sch A k k k) := by
      have := nonpos_mul c0 (Std.le_of_lt ip)
      have e : sch A k i k / sch A k k k = sch A k i k * (sch A k k k)⁻¹ := by grind
      rw [e]; grind
    generalize (sumQ (m - (k + 1)) fun b => sch A k i (k + (b + 1)) * s (k + (b + 1))) = X at ti
    generalize (sumQ (m - (k + 1)) fun b => sch A k k (k + (b + 1)) * s (k + (b + 1))) = Y at tk
    have g := Rat.mul_nonneg r0 (Std.le_of_lt tk)
    have e2 : -(sch A k i k / sch A k k k) * (sch A k k k * s k + Y) = -(sch A k i k * s k) + -(sch A k i k / sch A k k k) * Y := by grind
    rw [e2] at g
    grind
theorem MM.all (sp : ∀ j, j < m → 0 < s j) (h0 : MM m A s 0) : ∀ k, k ≤ m → MM m A s k
  | 0, _ => h0
  | k + 1, h => (MM.all sp h0 k (by omega)).step sp (by omega)
end
/-- the whole numbers that the elimination without fractions meets -/
theorem elim_ok {m B : Nat} {A : Nat → Nat → Int} {s : Nat → Rat} (hB : ∀ i j, i < m → j ≤ m → (A i j).natAbs ≤ B) (off : ∀ i j, i < m → j < m → i ≠ j → A i j ≤ 0) (sp : ∀ j, j < m → 0 < s j)
    (row : ∀ i, i < m → 0 < sumQ m fun j => (A i j : Rat) * s j) : ∃ (W : Nat → Nat → Nat → Int) (D : Nat → Int), D 0 = 1 ∧ (∀ k, k < m → D (k + 1) = W k k k) ∧ (∀ k, k ≤ m → 0 < D k) ∧ (∀ i j, i < m → j ≤ m → W 0 i j = A i j) ∧
      (∀ k i j, k < m → i < m → j ≤ m → (W k i j).natAbs ≤ (m * B) ^ m) ∧ ∀ k i j, k + 1 < m → i < m → j ≤ m → (W k k k * W k i j - W k i k * W k k j) / D k = W (k + 1) i j := by
  have M0 : MM m (fun i j => (A i j : Rat)) s 0 := by
    refine ⟨fun l hl => by omega, fun i j _ _ hi hj n => ?_, fun i _ hi => ?_⟩
    · show (A i j : Rat) ≤ 0
      have := off i j hi hj n
      exact_mod_cast this
    · have := row i hi
      rw [Nat.sub_zero]
      have e : (sumQ m fun b => sch (fun i j => (A i j : Rat)) 0 i (0 + b) * s (0 + b)) = sumQ m fun j => (A i j : Rat) * s j := sumQ_congr fun b _ => by rw [Nat.zero_add]; rfl
      rw [e]; exact this
  have Mk := MM.all sp M0
  have pv : ∀ l, l < m → 0 < sch (fun i j => (A i j : Rat)) l l l := fun l hl => (Mk l (by omega)).piv sp hl
  have ex : ∀ k i j, ∃ z : Int, k < m → i < m → j ≤ m → (z : Rat) = piv (fun i j => (A i j : Rat)) k * sch (fun i j => (A i j : Rat)) k i j ∧ z.natAbs ≤ (m * B) ^ m := fun k i j => by
    by_cases h : k < m ∧ i < m ∧ j ≤ m
    · obtain ⟨z, h1, h2⟩ := dt_int (B := B) (n := k + 1) (A := bord k (fun i j => (A i j : Rat)) i j) fun a b ha hb => ⟨_, rfl, hB _ _ (by split <;> omega) (by split <;> omega)⟩
      refine ⟨z, fun _ _ _ => ⟨?_, Nat.le_trans h2 ?_⟩⟩
      · rw [← h1, dt_bord fun l hl => by have := pv l (by omega); grind]
      · have c1 : (k + 1) * B ≤ m * B := Nat.mul_le_mul (by omega) (Nat.le_refl _)
        by_cases hb : m * B = 0
        · have : (k + 1) * B = 0 := by omega
          rw [this, Nat.pow_succ, Nat.mul_zero]; exact Nat.zero_le _
        · exact Nat.le_trans (Nat.pow_le_pow_left c1 _) (Nat.pow_le_pow_right (by omega) (by omega))
    · exact ⟨0, fun a b c => absurd ⟨a, b, c⟩ h⟩
  have hW := fun k i j => Classical.choose_spec (ex k i j)
  generalize hw : (fun k i j => Classical.choose (ex k i j)) = W
  have hW : ∀ k i j, k < m → i < m → j ≤ m → (W k i j : Rat) = piv (fun i j => (A i j : Rat)) k * sch (fun i j => (A i j : Rat)) k i j ∧ (W k i j).natAbs ≤ (m * B) ^ m := fun k i j a b c => by
    rw [← hw]; exact hW k i j a b c
  have dD : ∀ k, k ≤ m → ((if k = 0 then 1 else W (k - 1) (k - 1) (k - 1) : Int) : Rat) = piv (fun i j => (A i j : Rat)) k := fun k hk => by
    cases k with
    | zero => rw [if_pos rfl]; rfl
    | succ k => rw [if_neg (by omega), Nat.add_sub_cancel, (hW k k k (by omega) (by omega) (by omega)).1]; rfl
  have pp : ∀ k, k ≤ m → 0 < piv (fun i j => (A i j : Rat)) k := by
    intro k
    induction k with
    | zero => intro _; show (0 : Rat) < 1; decide
    | succ k ih => intro hk; exact Rat.mul_pos (ih (by omega)) (pv k (by omega))
  have dp : ∀ k, k ≤ m → 0 < (if k = 0 then 1 else W (k - 1) (k - 1) (k - 1) : Int) := fun k hk => by
    have h1 := pp k hk
    rw [← dD k hk] at h1
    exact_mod_cast h1
  refine ⟨W, fun k => if k = 0 then 1 else W (k - 1) (k - 1) (k - 1), rfl, fun k _ => by dsimp only; rw [if_neg (by omega), Nat.add_sub_cancel], dp, fun i j hi hj => ?_, fun k i j a b c => (hW k i j a b c).2, fun k i j hk hi hj => ?_⟩
  · have h := (hW 0 i j (by omega) hi hj).1
    have e : (W 0 i j : Rat) = (A i j : Rat) := by
      rw [h]
      show (1 : Rat) * (A i j : Rat) = _
      grind
    exact_mod_cast e
  · have h1 := (hW k k k (by omega) (by omega) (by omega)).1
    have h2 := (hW k i j (by omega) hi hj).1
    have h3 := (hW k i k (by omega) hi (by omega)).1
    have h4 := (hW k k j (by omega) (by omega) hj).1
    have h5 := (hW (k + 1) i j hk hi hj).1
    have h6 := dD k (by omega)
    have p0 := dp k (by omega)
    have p1 : sch (fun i j => (A i j : Rat)) k k k ≠ 0 := by have := pv k (by omega); grind
    have e : W k k k * W k i j - W k i k * W k k j = W (k + 1) i j * (if k = 0 then 1 else W (k - 1) (k - 1) (k - 1) : Int) := by
      have : ((W k k k * W k i j - W k i k * W k k j : Int) : Rat) = ((W (k + 1) i j * (if k = 0 then 1 else W (k - 1) (k - 1) (k - 1) : Int) : Int) : Rat) := by
        rw [Rat.intCast_sub, Rat.intCast_mul, Rat.intCast_mul, Rat.intCast_mul, h1, h2, h3, h4, h5, h6]
        show _ = piv _ k * sch _ k k k * (sch _ k i j - sch _ k i k / sch _ k k k * sch _ k k j) * piv _ k
        grind
      exact Rat.intCast_inj.mp this
    rw [e]
    exact Int.mul_ediv_cancel _ (by omega)
def Lp (rs : List (Nat × Nat)) (bank : Nat) : Nat → Nat → Prop
  | 0, x => x = bank
  | i + 1, x => Lp rs bank i x ∨ ∃ o ∈ ends rs x, Lp rs bank i o
theorem min_ex {P : Nat → Prop} (h : ∃ i, P i) : ∃ i, P i ∧ ∀ j, j < i → ¬ P j := by
  obtain ⟨i, hi⟩ := h
  induction i using Nat.strongRecOn with
  | _ i ih =>
    by_cases z : ∃ j, j < i ∧ P j
    · obtain ⟨j, h1, h2⟩ := z
      exact ih j h1 h2
    · exact ⟨i, hi, fun j hj w => z ⟨j, hj, w⟩⟩
theorem max_ex (ρ : Nat → Nat) : ∀ n, ∃ N, ∀ x, x < n → ρ x ≤ N
  | 0 => ⟨0, fun x h => by omega⟩
  | n + 1 => by
    obtain ⟨N, h⟩ := max_ex ρ n
    refine ⟨N + ρ n, fun x hx => ?_⟩
    by_cases z : x = n
    · rw [z]; omega
    · have := h x (by omega); omega
theorem ends_mem {rs : List (Nat × Nat)} {p : Nat × Nat} (m : p ∈ rs) : p.2 ∈ ends rs p.1 ∧ p.1 ∈ ends rs p.2 := by
  unfold ends
  refine ⟨List.mem_flatMap.mpr ⟨p, m, ?_⟩, List.mem_flatMap.mpr ⟨p, m, ?_⟩⟩
  · unfold end1; rw [if_pos rfl]; exact List.mem_append_left _ (.head _)
  · unfold end1; rw [if_pos (rfl : p.2 = p.2)]; exact List.mem_append_right _ (.head _)
theorem ends_no {n : Nat} {rs : List (Nat × Nat)} (hr : ∀ p ∈ rs, p.1 < n ∧ p.2 < n ∧ p.1 ≠ p.2) (h : Nat) : h ∉ ends rs h := fun m => by
  unfold ends at m
  obtain ⟨p, mp, m⟩ := List.mem_flatMap.mp m
  obtain ⟨_, _, ne⟩ := hr p mp
  unfold end1 at m
  rcases List.mem_append.mp m with m | m
  · split at m
    · rename_i z
      exact ne (by rw [z]; exact List.mem_singleton.mp m)
    · cases m
  · split at m
    · rename_i z
      exact ne (by rw [z]; exact (List.mem_singleton.mp m).symm)
    · cases m
theorem rank_ex {n bank : Nat} {rs : List (Nat × Nat)} (C : ∀ x, x < n → Cn rs bank x) : ∃ (ρ : Nat → Nat) (N : Nat), ρ bank = 0 ∧ ∀ x, x < n → ρ x ≤ N ∧ (x ≠ bank → 0 < ρ x ∧ ∃ o ∈ ends rs x, ρ o < ρ x) := by
  have ex : ∀ x, ∃ i, (∃ j, Lp rs bank j x) → Lp rs bank i x ∧ ∀ j, j < i → ¬ Lp rs bank j x := fun x => by
    by_cases h : ∃ j, Lp rs bank j x
    · obtain ⟨i, h1⟩ := min_ex h
      exact ⟨i, fun _ => h1⟩
    · exact ⟨0, fun w => absurd w h⟩
  have hρ := fun x => Classical.choose_spec (ex x)
  generalize hw : (fun x => Classical.choose (ex x)) = ρ
  have hρ : ∀ x, (∃ j, Lp rs bank j x) → Lp rs bank (ρ x) x ∧ ∀ j, j < ρ x → ¬ Lp rs bank j x := fun x => by rw [← hw]; exact hρ x
  obtain ⟨N, hN⟩ := max_ex ρ n
  refine ⟨ρ, N, ?_, fun x hx => ⟨hN x hx, fun nb => ?_⟩⟩
  · have := hρ bank ⟨0, rfl⟩
    by_cases z : ρ bank = 0
    · exact z
    · exact absurd rfl (this.2 0 (by omega))
  · have hx' : ∃ j, Lp rs bank j x := C x hx (fun y => ∃ j, Lp rs bank j y) (fun p m => by
      obtain ⟨e1, e2⟩ := ends_mem m
      exact ⟨fun ⟨j, w⟩ => ⟨j + 1, .inr ⟨_, e2, w⟩⟩, fun ⟨j, w⟩ => ⟨j + 1, .inr ⟨_, e1, w⟩⟩⟩) ⟨0, rfl⟩
    obtain ⟨h1, h2⟩ := hρ x hx'
    cases hr : ρ x with
    | zero => rw [hr] at h1; exact absurd h1 nb
    | succ i =>
      rw [hr] at h1 h2
      refine ⟨by omega, ?_⟩
      rcases h1 with h1 | ⟨o, mo, h1⟩
      · exact absurd h1 (h2 i (by omega))
      · refine ⟨o, mo, ?_⟩
        have := (hρ o ⟨i, h1⟩).2
        by_cases z : i < ρ o
        · exact absurd h1 (this i z)
        · omega
def sg (C N : Nat) : Nat → Int
  | 0 => 0
  | r + 1 => sg C N r + (C : Int) ^ (N - (r + 1))
theorem sg_pow {C N r : Nat} (hr : r ≤ N) : ∀ d, r + d ≤ N → ((C : Int) - 1) * (sg C N (r + d) - sg C N r) = (C : Int) ^ (N - r) - (C : Int) ^ (N - (r + d))
  | 0, _ => by rw [Nat.add_zero, Int.sub_self, Int.mul_zero, Int.sub_self]
  | d + 1, h => by
    have ih := sg_pow (C := C) hr d (by omega)
    have e : sg C N (r + (d + 1)) = sg C N (r + d) + (C : Int) ^ (N - (r + d + 1)) := rfl
    have e2 : (C : Int) ^ (N - (r + d)) = (C : Int) * (C : Int) ^ (N - (r + d + 1)) := by
      rw [show N - (r + d) = (N - (r + d + 1)) + 1 by omega, Int.pow_succ, Int.mul_comm]
    rw [e2] at ih
    rw [e, show r + (d + 1) = r + d + 1 from rfl]
    generalize (C : Int) ^ (N - (r + d + 1)) = G at *
    generalize sg C N (r + d) = a at *
    generalize sg C N r = b at *
    grind
theorem sg_mono {C N r : Nat} : ∀ d, sg C N r ≤ sg C N (r + d)
  | 0 => Int.le_refl _
  | d + 1 => by
    have := sg_mono (C := C) (N := N) (r := r) d
    have h : (0 : Int) ≤ (C : Int) ^ (N - (r + d + 1)) := Int.pow_nonneg (Int.natCast_nonneg C)
    have e : sg C N (r + (d + 1)) = sg C N (r + d) + (C : Int) ^ (N - (r + d + 1)) := rfl
    omega
theorem sum_ge {α : Type} {f : α → Int} {m : Int} : ∀ {E : List α}, (∀ x ∈ E, m ≤ f x) → (E.length : Int) * m ≤ (E.map f).sum
  | [], _ => by simp
  | a :: E, h => by
    have h1 := h a (.head _)
    have h2 := sum_ge (E := E) fun x mx => h x (.tail _ mx)
    rw [List.map_cons, List.sum_cons, List.length_cons, show ((E.length + 1 : Nat) : Int) = (E.length : Int) + 1 from rfl, Int.add_mul, Int.one_mul]
    omega
theorem sum_ge1 {α : Type} {f : α → Int} {m : Int} {o : α} : ∀ {E : List α}, (∀ x ∈ E, m ≤ f x) → o ∈ E → f o + ((E.length : Int) - 1) * m ≤ (E.map f).sum
  | [], _, mo => nomatch mo
  | a :: E, h, mo => by
    rw [List.map_cons, List.sum_cons, List.length_cons, show ((E.length + 1 : Nat) : Int) - 1 = (E.length : Int) by omega]
    rcases List.mem_cons.mp mo with z | z
    · have h2 := sum_ge (E := E) fun x mx => h x (.tail _ mx)
      rw [z]; omega
    · have h1 := h a (.head _)
      have h2 := sum_ge1 (E := E) (fun x mx => h x (.tail _ mx)) z
      rw [Int.sub_mul, Int.one_mul] at h2
      omega
theorem sum_mulc {α : Type} {f : α → Int} {c : Int} : ∀ {E : List α}, (E.map fun x => c * f x).sum = c * (E.map f).sum
  | [] => by simp
  | a :: E => by rw [List.map_cons, List.sum_cons, List.map_cons, List.sum_cons, sum_mulc (E := E), Int.mul_add]
theorem sum_diff {E : List Nat} {σ : Nat → Int} {a : Int} : (E.map fun o => a - σ o).sum = a * (E.length : Int) - (E.map σ).sum := by
  induction E with
  | nil => simp
  | cons b E ih =>
    rw [List.map_cons, List.sum_cons, List.map_cons, List.sum_cons, ih, List.length_cons, show ((E.length + 1 : Nat) : Int) = (E.length : Int) + 1 from rfl, Int.mul_add, Int.mul_one]
    omega
theorem super_ex {n bank : Nat} {rs : List (Nat × Nat)} (hr : ∀ p ∈ rs, p.1 < n ∧ p.2 < n ∧ p.1 ≠ p.2) (C : ∀ x, x < n → Cn rs bank x) : ∃ σ : Nat → Int, σ bank = 0 ∧ ∀ x, x < n → x ≠ bank → 0 < σ x ∧ lap rs σ x ≤ -1 := by
  obtain ⟨ρ, N, h0, h⟩ := rank_ex C
  let B := 2 * rs.length + 3
  have pos : ∀ k : Nat, (1 : Int) ≤ (B : Int) ^ k := fun k => by
    have : (0 : Int) < (B : Int) ^ k := Int.pow_pos (by omega)
    omega
  refine ⟨fun x => sg B N (ρ x), by dsimp only; rw [h0]; rfl, fun x hx nb => ?_⟩
  obtain ⟨hN, h2⟩ := h x hx
  obtain ⟨r0, o, mo, ro⟩ := h2 nb
  have last : sg B N (ρ x) = sg B N (ρ x - 1) + (B : Int) ^ (N - ρ x) := by
    have e : sg B N (ρ x - 1 + 1) = sg B N (ρ x - 1) + (B : Int) ^ (N - (ρ x - 1 + 1)) := rfl
    rw [show ρ x - 1 + 1 = ρ x by omega] at e
    exact e
  constructor
  · have := sg_mono (C := B) (N := N) (r := 0) (ρ x - 1)
    rw [Nat.zero_add, show sg B N 0 = 0 from rfl] at this
    have := pos (N - ρ x)
    dsimp only
    omega
  · -- the sum of the differences
    have el := ends_lap rs (fun x => sg B N (ρ x)) x
    have sd := sum_diff (E := ends rs x) (σ := fun x => sg B N (ρ x)) (a := sg B N (ρ x))
    have le := ends_le rs x
    have lt := ends_lt hr x
    have g1 : ∀ y ∈ ends rs x, -((B : Int) ^ (N - ρ x) - 1) ≤ ((B : Int) - 1) * (sg B N (ρ x) - sg B N (ρ y)) := fun y my => by
      have hy := (h y (lt y my)).1
      have := pos (N - ρ x)
      by_cases z : ρ y ≤ ρ x
      · have m1 := sg_mono (C := B) (N := N) (r := ρ y) (ρ x - ρ y)
        rw [show ρ y + (ρ x - ρ y) = ρ x by omega] at m1
        have : 0 ≤ ((B : Int) - 1) * (sg B N (ρ x) - sg B N (ρ y)) := Int.mul_nonneg (by omega) (by omega)
        omega
      · have e := sg_pow (C := B) hN (ρ y - ρ x) (by omega)
        rw [show ρ x + (ρ y - ρ x) = ρ y by omega] at e
        have p2 := pos (N - ρ y)
        have e2 : ((B : Int) - 1) * (sg B N (ρ x) - sg B N (ρ y)) = -(((B : Int) - 1) * (sg B N (ρ y) - sg B N (ρ x))) := by
          rw [← Int.mul_neg, Int.neg_sub]
        omega
    have g2 : ((B : Int) - 1) * (B : Int) ^ (N - ρ x) ≤ ((B : Int) - 1) * (sg B N (ρ x) - sg B N (ρ o)) := by
      have m1 := sg_mono (C := B) (N := N) (r := ρ o) (ρ x - 1 - ρ o)
      rw [show ρ o + (ρ x - 1 - ρ o) = ρ x - 1 by omega] at m1
      exact Int.mul_le_mul_of_nonneg_left (by omega) (by omega)
    have g3 := sum_ge1 (f := fun y => ((B : Int) - 1) * (sg B N (ρ x) - sg B N (ρ y))) g1 mo
    rw [sum_mulc, sd] at g3
    have p1 := pos (N - ρ x)
    have ln : (0 : Int) ≤ (ends rs x).length := by omega
    have lu : ((ends rs x).length : Int) ≤ (B : Int) - 3 := by omega
    have ll : lap rs (fun x => sg B N (ρ x)) x = -(sg B N (ρ x) * ((ends rs x).length : Int) - ((ends rs x).map fun x => sg B N (ρ x)).sum) := by omega
    rw [ll]
    generalize (sg B N (ρ x) * ((ends rs x).length : Int) - ((ends rs x).map fun x => sg B N (ρ x)).sum) = X at g3 ⊢
    generalize ((ends rs x).length : Int) = L at *
    generalize ((B : Int) - 1) * (sg B N (ρ x) - sg B N (ρ o)) = Y at *
    generalize (B : Int) ^ (N - ρ x) = G at *
    generalize hB : (B : Int) = b at *
    -- (b - 1) * X is positive
    have k1 : (L - 1) * (G - 1) ≤ (b - 4) * (G - 1) := Int.mul_le_mul_of_nonneg_right (by omega) (by omega)
    have k2 : (L - 1) * -(G - 1) = -((L - 1) * (G - 1)) := Int.mul_neg _ _
    have k3 : (b - 1) * G = (b - 4) * (G - 1) + (3 * G + (b - 4)) := by grind
    have k4 : 0 < (b - 1) * X := by omega
    have b3 : 3 ≤ b := by omega
    have : 0 < X := Classical.byContradiction fun w => by
      have := Int.mul_le_mul_of_nonneg_left (show X ≤ 0 by omega) (show 0 ≤ b - 1 by omega)
      rw [Int.mul_zero] at this
      omega
    omega
def lapM (rs : List (Nat × Nat)) (h o : Nat) : Int := if o = h then ((ends rs h).length : Int) else 0 - ((ends rs h).count o : Int)
theorem cnt_sum {O : List Nat} {σ : Nat → Int} (nd : O.Nodup) : ∀ {E : List Nat}, (∀ e ∈ E, e ∈ O ∨ σ e = 0) → (O.map fun o => (E.count o : Int) * σ o).sum = (E.map σ).sum
  | [], _ => by
    rw [sum_zero]
    · rfl
    · intro a _; rw [List.count_nil]; exact Int.zero_mul _
  | e :: E, h => by
    have ih := cnt_sum nd (E := E) fun x m => h x (.tail _ m)
    have e1 : (O.map fun o => ((e :: E).count o : Int) * σ o) = O.map fun o => (E.count o : Int) * σ o + if e = o then σ o else 0 := by
      refine List.map_congr_left fun o _ => ?_
      rw [List.count_cons]
      by_cases z : e = o
      · subst z
        rw [if_pos (by simp), if_pos rfl, show ((E.count e + 1 : Nat) : Int) = (E.count e : Int) + 1 from rfl, Int.add_mul, Int.one_mul]
      · rw [if_neg (by simpa using z), if_neg z]; simp
    rw [e1, sum_map_add, ih, List.map_cons, List.sum_cons]
    have e2 : (O.map fun o => if e = o then σ o else 0).sum = σ e := by
      have g : ∀ {O : List Nat}, O.Nodup → (O.map fun o => if e = o then σ o else 0).sum = if e ∈ O then σ e else 0 := by
        intro O
        induction O with
        | nil => intro _; rfl
        | cons a O ih =>
          intro nd
          obtain ⟨n1, n2⟩ := List.nodup_cons.mp nd
          rw [List.map_cons, List.sum_cons, ih n2]
          by_cases z : e = a
          · subst z
            rw [if_pos rfl, if_neg n1, if_pos (.head _)]; omega
          · rw [if_neg z, Int.zero_add]
            by_cases y : e ∈ O
            · rw [if_pos y, if_pos (.tail _ y)]
            · rw [if_neg y, if_neg fun m => (List.mem_cons.mp m).elim z y]
      rw [g nd]
      rcases h e (.head _) with w | w
      · rw [if_pos w]
      · split <;> omega
    omega
theorem lapM_sum {n bank h : Nat} {rs : List (Nat × Nat)} {O : List Nat} {σ : Nat → Int} (hr : ∀ p ∈ rs, p.1 < n ∧ p.2 < n ∧ p.1 ≠ p.2) (nd : O.Nodup) (hO : ∀ x, x < n → x ∈ O ∨ x = bank) (hh : h ∈ O) (s0 : σ bank = 0) : (O.map fun o => lapM rs h o * σ o).sum = -lap rs σ h := by
  have nh := ends_no hr h
  have e1 : (O.map fun o => lapM rs h o * σ o) = O.map fun o => (if o = h then ((ends rs h).length : Int) * σ o else 0) + (-1) * (((ends rs h).count o : Int) * σ o) := by
    refine List.map_congr_left fun o _ => ?_
    unfold lapM
    by_cases z : o = h
    · rw [if_pos z, if_pos z, z, List.count_eq_zero.mpr nh]; simp
    · rw [if_neg z, if_neg z]; grind
  rw [e1, sum_map_add, sum_mulc, cnt_sum nd fun e m => (hO e (ends_lt hr h e m)).imp id fun w => by rw [w]; exact s0]
  have e2 : (O.map fun o => if o = h then ((ends rs h).length : Int) * σ o else 0).sum = ((ends rs h).length : Int) * σ h := by
    clear e1 hO
    induction O with
    | nil => cases hh
    | cons a O ih =>
      obtain ⟨n1, n2⟩ := List.nodup_cons.mp nd
      rw [List.map_cons, List.sum_cons]
      rcases List.mem_cons.mp hh with z | z
      · subst z
        rw [if_pos rfl, sum_zero]
        · omega
        · intro b mb; rw [if_neg fun w => n1 (by rw [← w]; exact mb)]
      · rw [if_neg fun w => n1 (by rw [w]; exact z), ih n2 z]; omega
  have el := ends_lap rs σ h
  rw [e2, Int.mul_comm (_ : Int) (σ h)]
  omega
theorem sumQ_list {O : List Nat} {f : Nat → Int} : ∀ m, m ≤ O.length → sumQ m (fun j => ((f (O.getD j 0) : Int) : Rat)) = (((((O.take m).map f).sum : Int)) : Rat)
  | 0, _ => by rw [List.take_zero]; rfl
  | m + 1, h => by
    have ih := sumQ_list (O := O) (f := f) m (by omega)
    have e : O[m]? = some (O.getD m 0) := by rw [List.getD_eq_getElem?_getD, List.getElem?_eq_getElem (by omega)]; rfl
    unfold sumQ
    rw [ih, take_s e, List.map_append, List.sum_append, List.map_cons, List.map_nil, List.sum_cons, List.sum_nil, Int.add_zero, Rat.intCast_add]
theorem w_matrix {n : Nat} {rs : List (Nat × Nat)} {t : Tpa} {Q : Tpa × Bool × D → Prop} (T : Town n rs) (k : Q (t, true, .lst ((List.range n).map fun h => D.lst (vec n (lapM rs h))))) : wp (ph_matrix t [townD n rs]) Q := by
  obtain ⟨T1, T2, T3, T4⟩ := id T
  unfold ph_matrix bd_matrix
  walk_at "ev"
  refine k_forRn (by omega) ?_
  refine w_for (fun i t' e' => t' = t ∧ ∃ s2 s3, e' = [some (false, townD n rs), some (true, .lst ((List.range i).map fun h => D.lst (vec n (lapM rs h)))), s2, s3, none]) _ ⟨rfl, _, _, rfl⟩ ?_ ?_
  · rintro i x t' e' hx ⟨rfl, s2, s3, rfl⟩
    obtain ⟨hi, rfl⟩ := rgD_some hx
    rw [Int.zero_add]
    have ln : ((List.range i).map fun h => D.lst (vec n (lapM rs h))).length < 16777216 := by rw [List.length_map, List.length_range]; omega
    apply w_eq (by walk_at "asg")
    walk_at "ev"
    refine w_roads_at T ?_
    walk_at "ev"
    refine k_LcRn (by omega) (by walk_at "set") ?_
    refine w_lcr n (lapM rs i) (fun a ha => ?_) ?_
    · apply w_eq (by walk_at "asg")
      walk_at "ev"
      by_cases z : a = i
      · refine k_ifX_t (decide_eq_true z) ?_
        walk_at "ev"
        refine ⟨rfl, ?_⟩
        rw [List.length_map, lapM, if_pos z]
      · refine k_ifX_f (decide_eq_false z) ?_
        walk_at "ev"
        refine k_2b o_count_n ?_
        walk_at "ev"
        exact ⟨rfl, by rw [lapM, if_neg z]⟩
    walk_at "ev"
    rw [show ((List.range i).map fun h => D.lst (vec n (lapM rs h))) ++ [D.lst (vec n (lapM rs i))] = (List.range (i + 1)).map fun h => D.lst (vec n (lapM rs h)) from by rw [List.range_succ, List.map_append]; rfl]
    exact ⟨rfl, _, _, rfl⟩
  · rintro t' e' ⟨rfl, s2, s3, rfl⟩
    rw [rgD_len]
    walk_at "ev"
    exact k
def rowsM (m M : Nat) (R : Nat → Nat → Int) : List D := (List.range m).map fun i => D.lst (vec M (R i))
theorem rowsM_len {m M : Nat} {R : Nat → Nat → Int} : (rowsM m M R).length = m := by unfold rowsM; rw [List.length_map, List.length_range]
theorem rowsM_get {m M i : Nat} {R : Nat → Nat → Int} (h : i < m) : (rowsM m M R)[i]? = some (.lst (vec M (R i))) := by unfold rowsM; rw [List.getElem?_map, List.getElem?_range h]; rfl
theorem rowsM_set {m M a : Nat} {R : Nat → Nat → Int} {r : Nat → Int} : (rowsM m M R).set a (.lst (vec M r)) = rowsM m M fun i => if i = a then r else R i := by
  refine List.ext_getElem? fun i => ?_
  by_cases hi : i < m
  · rw [rowsM_get hi, List.getElem?_set, rowsM_get hi]
    by_cases z : a = i
    · rw [if_pos z, if_pos (by rw [rowsM_len, z]; exact hi), if_pos z.symm]
    · rw [if_neg z, if_neg fun w => z w.symm]
  · rw [List.getElem?_eq_none (by rw [List.length_set, rowsM_len]; omega), List.getElem?_eq_none (by rw [rowsM_len]; omega)]
theorem rowsM_ext {m M : Nat} {R R' : Nat → Nat → Int} (h : ∀ i, i < m → ∀ j, j < M → R i j = R' i j) : rowsM m M R = rowsM m M R' := by
  unfold rowsM
  exact List.map_congr_left fun i hi => by rw [vec_ext fun j hj => h i (List.mem_range.mp hi) j hj]
theorem o_idx_rowp {m M k : Nat} {R : Nat → Nat → Int} {g' : Gr} (h : k < m) : sIdx (.pk, .lst (rowsM m M R)) (g', .int (k : Int)) = some (.pk, .lst (vec M (R k))) := by
  show (L2.atI (rowsM m M R) (k : Int)).map (up .pk) = _
  rw [atI_nat (by rw [rowsM_len]; exact h), rowsM_get h]; rfl
theorem o_idx_rowf {m M k : Nat} {R : Nat → Nat → Int} {g' : Gr} (h : k < m) : sIdx (.frz, .lst (rowsM m M R)) (g', .int (k : Int)) = some (.frz, .lst (vec M (R k))) := by
  show (L2.atI (rowsM m M R) (k : Int)).map (up .frz) = _
  rw [atI_nat (by rw [rowsM_len]; exact h), rowsM_get h]; rfl
theorem itmsC_lf {g : Gr} {ds : List D} (h : npk g = true) : itmsC (g, .lst ds) = some (ds.map (up .frz)) := by
  show (if immA ds || npk g then some (ds.map (up .frz)) else none) = _
  rw [h, Bool.or_true]; rfl
theorem atI_vlast {n : Nat} {f : Nat → Int} : L2.atI (vec (n + 1) f) (-1) = some (.int (f n)) := by
  unfold L2.atI L2.ixN
  rw [vec_len, if_neg (by decide), if_pos (by omega)]
  show (vec (n + 1) f)[(-1 + ((n + 1 : Nat) : Int)).toNat]? = _
  rw [show (-1 + ((n + 1 : Nat) : Int)).toNat = n by omega, vec_get (by omega)]
theorem w_lc_frz {τ α : Type} {asg : GD → Slots → Option Slots} {elt : Ex τ} {e ew : Slots} {t : τ} {Q : RX τ} (l : List α) (F G : α → D)
    (h : ∀ a, a ∈ l → wp (asg (.frz, F a) ew) fun e1 => wp (elt t e1) fun r' => r'.1 = t ∧ r'.2.2 = (.own, G a))
    (k : Q (t, e, .own, .lst (l.map G))) : wp (sLc asg xYes elt ew (l.map fun a => ((.frz, F a) : GD)) t) (Klce e Q) := by
  have z : sLc asg xYes elt ew (l.map fun a => ((.frz, F a) : GD)) t = some (t, l.map fun a => ((.own, G a) : GD)) := by
    clear k
    induction l with
    | nil => rfl
    | cons a l ih =>
      have ih := ih fun b m => h b (.tail _ m)
      obtain ⟨e1, h1, ⟨t2, e2, y⟩, h2, h3, h4⟩ := h a (.head _)
      dsimp only at h3 h4
      subst h3 h4
      rw [List.map_cons]
      unfold sLc
      rw [h1]
      have hy : xYes t2 e1 = some (t2, e1, true) := rfl
      dsimp only [Option.bind_some]
      rw [hy]
      dsimp only [Option.bind_some]
      rw [h2]
      dsimp only [Option.bind_some]
      rw [ih]; rfl
  refine ⟨_, z, ?_⟩
  refine k_lce (jn_owns fun x m => ?_) rfl ?_
  · obtain ⟨a, _, rfl⟩ := List.mem_map.mp m; rfl
  · rw [List.map_map]; exact k
theorem lg_lt {z : Int} {b : Nat} (h : z.natAbs < 2 ^ b) (h0 : 0 < b) : z.natAbs.log2 < b := by
  by_cases z0 : z.natAbs = 0
  · rw [z0]; exact h0
  · exact (Nat.log2_lt z0).mpr h
theorem div_abs {x d : Int} (hd : 0 < d) : (x / d).natAbs ≤ x.natAbs := by
  have := Int.natAbs_ediv_le_natAbs x d
  exact this
theorem step_abs {a b c e d : Int} {β n : Nat} (ha : a.natAbs < 2 ^ β) (hb : b.natAbs < 2 ^ n) (hc : c.natAbs < 2 ^ n) (he : e.natAbs < 2 ^ β) (hd : 0 < d) : ((a * b - c * e) / d).natAbs < 2 ^ (n + β + 1) := by
  refine Nat.lt_of_le_of_lt (div_abs hd) ?_
  have h1 : (a * b).natAbs < 2 ^ (β + n) := by rw [Int.natAbs_mul, Nat.pow_add]; exact Nat.mul_lt_mul'' ha hb
  have h2 : (c * e).natAbs < 2 ^ (n + β) := by rw [Int.natAbs_mul, Nat.pow_add]; exact Nat.mul_lt_mul'' hc he
  rw [Nat.add_comm β n] at h1
  rw [Nat.pow_succ]
  omega
theorem w_solved {m B β : Nat} {A : Nat → Nat → Int} {s : Nat → Rat} {t : Tpa} {Q : Tpa × Bool × D → Prop} (m0 : 0 < m) (m1 : m ≤ 20) (hB : ∀ i j, i < m → j ≤ m → (A i j).natAbs ≤ B) (off : ∀ i j, i < m → j < m → i ≠ j → A i j ≤ 0) (sp : ∀ j, j < m → 0 < s j)
    (row : ∀ i, i < m → 0 < sumQ m fun j => (A i j : Rat) * s j) (hβ : (m * B) ^ m < 2 ^ β) (b0 : 0 < β) (b1 : β ≤ 8000) (k : ∀ f d, 0 < d → d.natAbs.log2 < 9000 → Q (t, true, .tup [.lst (vec m f), .int d])) :
    wp (ph_solved t [.lst (rowsM m m A), .lst (vec m fun i => A i m)]) Q := by
  obtain ⟨W, De, d0, dS, dp, w0, wb, ws⟩ := elim_ok hB off sp row
  have wB : ∀ k i j, k < m → i < m → j ≤ m → (W k i j).natAbs < 2 ^ β := fun k i j a b c => Nat.lt_of_le_of_lt (wb k i j a b c) hβ
  have dB : ∀ k, k ≤ m → (De k).natAbs < 2 ^ β := fun k hk => by
    cases k with
    | zero => rw [d0]; exact Nat.one_lt_two_pow (by omega)
    | succ k => rw [dS k (by omega)]; exact wB k k k (by omega) (by omega) (by omega)
  have dL : ∀ k, k ≤ m → (De k).natAbs.log2 < 9000 := fun k hk => Nat.lt_of_lt_of_le (lg_lt (dB k hk) b0) (by omega)
  unfold ph_solved bd_solved
  walk_at "ev"
  rw [rowsM_len]
  refine k_LcRn (by omega) (by walk_at "set") ?_
  refine w_lc_all (List.range m) (fun k => .int (0 + (k : Int))) (fun i => .lst (vec (m + 1) (A i))) (fun a ma => ?_) ?_
  · have ha := List.mem_range.mp ma
    rw [Int.zero_add]
    apply w_eq (by walk_at "asg")
    walk_at "ev"
    refine k_2b (o_idx_rowf ha) ?_
    walk_at "ev"
    refine k_2b (o_catl_i (by rw [vec_len, List.length_singleton]; omega) (immA_app immA_vec rfl)) ?_
    exact ⟨rfl, by rw [← vec_succ]⟩
  walk_at "ev"
  rw [show (List.range m).map (fun i => D.lst (vec (m + 1) (A i))) = rowsM m (m + 1) A from rfl, rowsM_len]
  refine k_forRn (by omega) ?_
  refine w_for (fun k t' e' => t' = t ∧ ∃ R s4 s5 s6 s7, e' = [some (false, .lst (rowsM m m A)), some (false, .lst (vec m fun i => A i m)), some (true, .lst (rowsM m (m + 1) R)), some (true, .int (De k)), s4, s5, s6, s7, none] ∧ (∀ i j, k ≤ i → i < m → j ≤ m → k < m → R i j = W k i j) ∧ ∀ i j, i < m → j ≤ m → (R i j).natAbs < 2 ^ ((β + 1) * (k + 1))) _ ⟨rfl, A, _, _, _, _, by rw [d0], fun i j _ a b _ => (w0 i j a b).symm, fun i j a b => ?_⟩ ?_ ?_
  · rw [← w0 i j a b]
    exact Nat.lt_of_lt_of_le (wB 0 i j m0 a b) (Nat.pow_le_pow_right (by omega) (by omega))
  · rintro kk x t' e' hx ⟨rfl, R, s4, s5, s6, s7, rfl, hW, hR⟩
    obtain ⟨hk, rfl⟩ := rgD_some hx
    rw [Int.zero_add]
    have Rk : ∀ j, j ≤ m → R kk j = W kk kk j := fun j hj => hW kk j (Nat.le_refl _) hk hj hk
    have big : (β + 1) * (kk + 1) ≤ 8001 * 20 := Nat.mul_le_mul (by omega) (by omega)
    have bpos : 0 < (β + 1) * (kk + 1) := Nat.mul_pos (by omega) (by omega)
    -- the new rows
    let N : Nat → Nat → Int := fun i j => (R kk kk * R i j - R i kk * R kk j) / De kk
    apply w_eq (by walk_at "asg")
    walk_at "ev"
    rw [rowsM_len]
    refine k_forRn (by omega) ?_
    refine w_for (fun i t1 e1 => t1 = t' ∧ ∃ s5 s6 s7, e1 = [some (false, .lst (rowsM m m A)), some (false, .lst (vec m fun i => A i m)), some (true, .lst (rowsM m (m + 1) fun i' => if i' < i ∧ i' ≠ kk then N i' else R i')), some (true, .int (De kk)), some (true, .int (kk : Int)), s5, s6, s7, none]) _ ⟨rfl, s5, s6, s7, by rw [show (fun i' => if i' < 0 ∧ i' ≠ kk then N i' else R i') = R from funext fun i' => if_neg (by omega)]⟩ ?_ ?_
    · rintro i x t1 e1 hx ⟨rfl, s5, s6, s7, rfl⟩
      obtain ⟨hi, rfl⟩ := rgD_some hx
      rw [Int.zero_add]
      apply w_eq (by walk_at "asg")
      walk_at "ev"
      by_cases z : i = kk
      · refine k_if_f (by rw [decide_eq_true z]; rfl) ?_
        walk_at "ev"
        rw [show (fun i' => if i' < i + 1 ∧ i' ≠ kk then N i' else R i') = fun i' => if i' < i ∧ i' ≠ kk then N i' else R i' from funext fun i' => by
          by_cases y : i' < i ∧ i' ≠ kk
          · rw [if_pos y, if_pos ⟨by omega, y.2⟩]
          · rw [if_neg y, if_neg (by omega)]]
        exact ⟨rfl, _, _, _, rfl⟩
      · refine k_if_t (by rw [decide_eq_false z]; rfl) ?_
        have ri : (if i < i ∧ i ≠ kk then N i else R i) = R i := if_neg (by omega)
        have rk : (if kk < i ∧ kk ≠ kk then N kk else R kk) = R kk := if_neg (by omega)
        walk_at "ev"
        refine k_2b (o_idx_rowp hi) ?_
        rw [ri]
        walk_at "ev"
        rw [rowsM_len]
        refine k_forRn (n := m + 1) (by omega) ?_
        refine w_for (fun j t2 e2 => t2 = t1 ∧ ∃ s7, e2 = [some (false, .lst (rowsM m m A)), some (false, .lst (vec m fun i => A i m)), some (true, .lst (rowsM m (m + 1) fun i' => if i' = i then (fun j' => if j' < j then N i j' else R i j') else if i' < i ∧ i' ≠ kk then N i' else R i')), some (true, .int (De kk)), some (true, .int (kk : Int)), some (true, .int (i : Int)), some (true, .int (R i kk)), s7, none]) _ ⟨rfl, s7, by
          rw [show (fun i' => if i' = i then (fun j' => if j' < 0 then N i j' else R i j') else if i' < i ∧ i' ≠ kk then N i' else R i') = fun i' => if i' < i ∧ i' ≠ kk then N i' else R i' from funext fun i' => by
            by_cases y : i' = i
            · rw [if_pos y, y, ri]; exact funext fun j' => if_neg (by omega)
            · rw [if_neg y]]⟩ ?_ ?_
        · rintro j x t2 e2 hx ⟨rfl, s7, rfl⟩
          obtain ⟨hj, rfl⟩ := rgD_some hx
          rw [Int.zero_add]
          apply w_eq (by walk_at "asg")
          refine w_set2 ?_
          walk_at "ev"
          have rk' : (if kk = i then (fun j' => if j' < j then N i j' else R i j') else if kk < i ∧ kk ≠ kk then N kk else R kk) = R kk := by
            rw [if_neg fun w => z w.symm, rk]
          have ri' : (if i = i then (fun j' => if j' < j then N i j' else R i j') else if i < i ∧ i ≠ kk then N i else R i) = fun j' => if j' < j then N i j' else R i j' := if_pos rfl
          have b1 := hR kk kk hk (by omega)
          have b2 := hR i j hi (by omega)
          have b3 := hR i kk hi (by omega)
          have b4 := hR kk j hk (by omega)
          refine k_2b (o_idx_rowp hk) ?_
          rw [rk']
          walk_at "ev"
          refine k_2b (o_idx_rowp hi) ?_
          rw [ri']
          walk_at "ev"
          refine k_2b (show sMulW (_, .int (R kk kk)) (_, .int (if j < j then N i j else R i j)) = some (.own, .int (R kk kk * R i j)) from by rw [if_neg (Nat.lt_irrefl j)]; exact o_mulW (by have := lg_lt b1 bpos; have := lg_lt b2 bpos; omega)) ?_
          walk_at "ev"
          refine k_2b (o_idx_rowp hk) ?_
          rw [rk']
          walk_at "ev"
          refine k_2b (o_mulW (by have := lg_lt b3 bpos; have := lg_lt b4 bpos; omega)) ?_
          walk_at "ev"
          refine k_2b (o_fdivW (dp kk (by omega)) (dL kk (by omega))) ?_
          refine ⟨_, i, j, _, rfl, rfl, rowsM_get hi, immA_vec, by rw [vec_len]; exact hj, ?_⟩
          walk_at "ev"
          refine ⟨rfl, ⟨_, rfl⟩, ?_⟩
          walk_at "ev"
          refine ⟨rfl, ⟨_, rfl⟩, ?_⟩
          dsimp only [List.set]
          rw [ri', vec_set, rowsM_set]
          rw [show (fun i_1 => if i_1 = i then (fun k => if k = j then (R kk kk * R i j - R i kk * R kk j) / De kk else if k < j then N i k else R i k) else if i_1 = i then (fun j' => if j' < j then N i j' else R i j') else if i_1 < i ∧ i_1 ≠ kk then N i_1 else R i_1) = fun i' => if i' = i then (fun j' => if j' < j + 1 then N i j' else R i j') else if i' < i ∧ i' ≠ kk then N i' else R i' from funext fun i' => by
            by_cases y : i' = i
            · rw [if_pos y, if_pos y]
              refine funext fun j' => ?_
              by_cases y1 : j' = j
              · rw [if_pos y1, if_pos (by omega), y1]
              · rw [if_neg y1]
                by_cases y2 : j' < j
                · rw [if_pos y2, if_pos (by omega)]
                · rw [if_neg y2, if_neg (by omega)]
            · rw [if_neg y, if_neg y, if_neg y]]
          exact ⟨rfl, _, rfl⟩
        · rintro t2 e2 ⟨rfl, s7, rfl⟩
          rw [rgD_len]
          walk_at "ev"
          rw [show rowsM m (m + 1) (fun i' => if i' = i then (fun j' => if j' < m + 1 then N i j' else R i j') else if i' < i ∧ i' ≠ kk then N i' else R i') = rowsM m (m + 1) fun i' => if i' < i + 1 ∧ i' ≠ kk then N i' else R i' from rowsM_ext fun i' _ j hj => by
            by_cases y : i' = i
            · rw [if_pos y, if_pos hj, if_pos (by omega), y]
            · rw [if_neg y]
              by_cases y1 : i' < i ∧ i' ≠ kk
              · rw [if_pos y1, if_pos ⟨by omega, y1.2⟩]
              · rw [if_neg y1, if_neg (by omega)]]
          exact ⟨rfl, _, _, _, rfl⟩
    · rintro t1 e1 ⟨rfl, s5, s6, s7, rfl⟩
      rw [rgD_len]
      walk_at "ev"
      refine k_2b (o_idx_rowp hk) ?_
      rw [if_neg (fun w => w.2 rfl)]
      walk_at "ev"
      rw [Rk kk (by omega), ← dS kk hk]
      refine ⟨rfl, _, _, _, _, _, rfl, fun i j hi him hj hk1 => ?_, fun i j hi hj => ?_⟩
      · rw [if_pos ⟨him, by omega⟩]
        show (R kk kk * R i j - R i kk * R kk j) / De kk = _
        rw [Rk kk (by omega), Rk j hj, hW i j (by omega) him hj hk, hW i kk (by omega) him (by omega) hk]
        exact ws kk i j hk1 him hj
      · have e : (β + 1) * (kk + 1 + 1) = (β + 1) * (kk + 1) + β + 1 := by rw [Nat.mul_add (β + 1) (kk + 1) 1]; omega
        rw [e]
        by_cases y : i = kk
        · rw [if_neg fun w => w.2 y]
          exact Nat.lt_of_lt_of_le (hR i j hi hj) (Nat.pow_le_pow_right (by omega) (by omega))
        · rw [if_pos ⟨hi, y⟩]
          show ((R kk kk * R i j - R i kk * R kk j) / De kk).natAbs < _
          refine step_abs ?_ (hR i j hi hj) (hR i kk hi (by omega)) ?_ (dp kk (by omega))
          · rw [Rk kk (by omega)]; exact wB kk kk kk hk hk (by omega)
          · rw [Rk j hj]; exact wB kk kk j hk hk hj
  · rintro t1 e1 ⟨rfl, R, s4, s5, s6, s7, rfl, hW, hR⟩
    rw [rgD_len]
    walk_at "ev"
    refine k_Lc (itmsC_lf rfl) (by walk_at "set") ?_
    rw [show (rowsM m (m + 1) R).map (up .frz) = (List.range m).map fun i => ((.frz, D.lst (vec (m + 1) (R i))) : GD) from by unfold rowsM; rw [List.map_map]; rfl]
    refine w_lc_frz (List.range m) (fun i => .lst (vec (m + 1) (R i))) (fun i => .int (R i m)) (fun i _ => ?_) ?_
    · apply w_eq (by walk_at "asg")
      walk_at "ev"
      refine k_2b (o_idx_l (atI_vlast (n := m)) rfl) ?_
      exact ⟨rfl, rfl⟩
    rw [show (List.range m).map (fun i => D.int (R i m)) = vec m fun i => R i m from rfl]
    walk_at "ev"
    exact k _ _ (dp m (Nat.le_refl _)) (dL m (Nat.le_refl _))
theorem o_zeros {g g' : Gr} {n : Nat} (h : n < 1000) : sTimes (g, .lst [.int 0]) (g', .int (n : Int)) = some (.own, .lst (vec n fun _ => 0)) := by
  have e : (List.replicate ((n : Int)).toNat [D.int 0]).flatten = vec n fun _ => 0 := by
    rw [Int.toNat_natCast]
    unfold vec
    rw [List.map_const', List.length_range]
    clear h
    induction n with
    | zero => rfl
    | succ n ih => rw [List.replicate_succ, List.flatten_cons, ih, List.replicate_succ]; rfl
  have c : (decide (-(2 ^ 63) ≤ (n : Int)) && decide ((n : Int) < 2 ^ 63) && szB ([D.int 0].length * ((n : Int)).toNat)) = true := by
    rw [decide_eq_true (by omega), decide_eq_true (by omega), szB_of (by rw [Int.toNat_natCast, List.length_singleton]; omega)]; rfl
  have st : sTimes (g, .lst [.int 0]) (g', .int (n : Int)) = if (decide (-(2 ^ 63) ≤ (n : Int)) && decide ((n : Int) < 2 ^ 63) && szB ([D.int 0].length * ((n : Int)).toNat)) = true then some (upL (gj g g') (List.replicate ((n : Int)).toNat [D.int 0]).flatten) else none := rfl
  rw [st, if_pos c, e]
  have im : immA (vec n fun _ => 0) = true := by rw [vec_ints]; exact immA_ints
  unfold upL
  rw [im]; rfl
abbrev oth (n bank : Nat) : List Nat := (List.range n).filter fun h => !decide (h = bank)
theorem oth_mem {n bank x : Nat} : x ∈ oth n bank ↔ x < n ∧ x ≠ bank := by
  rw [List.mem_filter, List.mem_range, Bool.not_eq_true', decide_eq_false_iff_not]
theorem oth_nd {n bank : Nat} : (oth n bank).Nodup := List.nodup_range.filter _
theorem oth_len {n bank : Nat} : (oth n bank).length ≤ n := by
  have := List.length_filter_le (fun h => !decide (h = bank)) (List.range n)
  rw [List.length_range] at this
  exact this
theorem map_getD {α : Type} {O : List Nat} {f : Nat → α} : O.map f = (List.range O.length).map fun i => f (O.getD i 0) := by
  refine List.ext_getElem? fun i => ?_
  rw [List.getElem?_map, List.getElem?_map]
  by_cases h : i < O.length
  · rw [List.getElem?_range h, List.getElem?_eq_getElem h, Option.map_some, Option.map_some, List.getD_eq_getElem?_getD, List.getElem?_eq_getElem h]; rfl
  · rw [List.getElem?_eq_none (by omega), List.getElem?_eq_none (by rw [List.length_range]; omega)]; rfl
theorem getD_mem {O : List Nat} {i : Nat} (h : i < O.length) : O.getD i 0 ∈ O ∧ O[i]? = some (O.getD i 0) := by
  rw [List.getD_eq_getElem?_getD, List.getElem?_eq_getElem h]
  exact ⟨List.getElem_mem h, rfl⟩
theorem w_first_script {n bank : Nat} {rs : List (Nat × Nat)} {p : Nat → Int} {t : Tpa} {Q : Tpa × Bool × D → Prop} (T : Town n rs) (n20 : n ≤ 20) (Cb : ∀ x, x < n → Cn rs bank x) (hb : bank < n) (hp : ∀ h, h < n → (p h).natAbs ≤ 2 ^ 200) (k : ∀ g : Nat → Int, g bank = 0 → Q (t, true, .tup (vec n g))) :
    wp (ph_first_script t [townD n rs, .tup (vec n p), .int (bank : Int)]) Q := by
  obtain ⟨T1, T2, T3, T4⟩ := id T
  have Ol := oth_len (n := n) (bank := bank)
  unfold ph_first_script bd_first_script
  walk_at "ev"
  refine k_LcRn (by omega) (by walk_at "set") ?_
  refine w_lc_pure (List.range n) (fun k => .int (0 + (k : Int))) (fun (k : Nat) => .int (k : Int)) (fun h => !decide (h = bank)) (fun a ma => ?_) ?_
  · rw [Int.zero_add]
    apply w_eq (by walk_at "asg")
    walk_at "ev"
    refine ⟨rfl, rfl, fun _ => ?_⟩
    walk_at "ev"
    exact ⟨rfl, rfl⟩
  rw [show ((List.range n).filter fun h => !decide (h = bank)).map (fun (k : Nat) => D.int (k : Int)) = natsD (oth n bank) from rfl]
  walk_at "ev"
  refine w_matrix T ?_
  walk_at "ev"
  rw [show (List.range n).map (fun h => D.lst (vec n (lapM rs h))) = rowsM n n (lapM rs) from rfl]
  refine k_Lc (itmsC_lm (l := oth n bank) (F := fun (k : Nat) => .int (k : Int)) fun _ => rfl) (by walk_at "set") ?_
  refine w_lc_all (oth n bank) _ (fun a => .lst ((oth n bank).map fun b => .int (lapM rs a b))) (fun a ma => ?_) ?_
  · have ha := (oth_mem.mp ma).1
    apply w_eq (by walk_at "asg")
    walk_at "ev"
    refine k_Lc (itmsC_lm (l := oth n bank) (F := fun (k : Nat) => .int (k : Int)) fun _ => rfl) (by walk_at "set") ?_
    refine w_lc_all (oth n bank) _ (fun b => .int (lapM rs a b)) (fun b mb => ?_) ?_
    · have hb' := (oth_mem.mp mb).1
      apply w_eq (by walk_at "asg")
      walk_at "ev"
      refine k_2b (o_idx_rowp ha) ?_
      walk_at "ev"
      exact ⟨rfl, rfl⟩
    exact ⟨rfl, rfl⟩
  walk_at "ev"
  refine k_2b (o_zeros T2) ?_
  walk_at "ev"
  rw [List.length_map]
  by_cases z : (oth n bank).length = 0
  · refine k_if_f (by rw [z]; rfl) ?_
    walk_at "ev"
    exact k _ rfl
  refine k_if_t (decide_eq_true (by omega)) ?_
  walk_at "ev"
  refine k_Lc (itmsC_lm (l := oth n bank) (F := fun (k : Nat) => .int (k : Int)) fun _ => rfl) (by walk_at "set") ?_
  refine w_lc_all (oth n bank) _ (fun b => .int (p b)) (fun b mb => ?_) ?_
  · have hb' := (oth_mem.mp mb).1
    apply w_eq (by walk_at "asg")
    walk_at "ev"
    exact ⟨rfl, rfl⟩
  walk_at "ev"
  obtain ⟨σ, s0, hσ⟩ := super_ex T4 Cb
  let A : Nat → Nat → Int := fun i j => if j < (oth n bank).length then lapM rs ((oth n bank).getD i 0) ((oth n bank).getD j 0) else p ((oth n bank).getD i 0)
  have eA : ((oth n bank).map fun a => D.lst ((oth n bank).map fun b => .int (lapM rs a b))) = rowsM (oth n bank).length (oth n bank).length A := by
    rw [map_getD]
    unfold rowsM
    refine List.map_congr_left fun i _ => ?_
    rw [map_getD (f := fun b => D.int (lapM rs ((oth n bank).getD i 0) b))]
    refine congrArg D.lst (List.map_congr_left fun j hj => ?_)
    show _ = D.int (if j < _ then _ else _)
    rw [if_pos (List.mem_range.mp hj)]
  have ec : ((oth n bank).map fun b => D.int (p b)) = vec (oth n bank).length fun i => A i (oth n bank).length := by
    rw [map_getD]
    refine List.map_congr_left fun i _ => ?_
    show _ = D.int (if _ < _ then _ else _)
    rw [if_neg (Nat.lt_irrefl _)]
  rw [eA, ec]
  have big : (2000 : Nat) ≤ 2 ^ 200 := by decide
  refine w_solved (B := 2 ^ 200) (β := 4101) (s := fun j => ((σ ((oth n bank).getD j 0) : Int) : Rat)) (by omega) (by omega) (fun i j hi hj => ?_) (fun i j hi hj ne => ?_) (fun j hj => ?_) (fun i hi => ?_) ?_ (by decide) (by decide) (fun f d hd _ => ?_)
  · show (if j < _ then _ else _ : Int).natAbs ≤ _
    split
    · have l1 := ends_le rs ((oth n bank).getD i 0)
      unfold lapM
      split
      · omega
      · have := List.count_le_length (l := ends rs ((oth n bank).getD i 0)) (a := (oth n bank).getD j 0)
        omega
    · exact hp _ (oth_mem.mp (getD_mem hi).1).1
  · show (if j < _ then _ else _ : Int) ≤ 0
    rw [if_pos hj]
    unfold lapM
    rw [if_neg fun w => ne ?_]
    · omega
    · have e1 := (getD_mem hi).2
      have e2 := (getD_mem hj).2
      rw [w] at e2
      obtain ⟨h1, h2⟩ := List.getElem?_eq_some_iff.mp e1
      obtain ⟨h3, h4⟩ := List.getElem?_eq_some_iff.mp e2
      exact (List.getElem_inj oth_nd).mp (h2.trans h4.symm)
  · obtain ⟨h1, h2⟩ := oth_mem.mp (getD_mem hj).1
    have := (hσ _ h1 h2).1
    exact_mod_cast this
  · obtain ⟨h1, h2⟩ := oth_mem.mp (getD_mem hi).1
    have l1 := (hσ _ h1 h2).2
    have e1 : (sumQ (oth n bank).length fun j => (A i j : Rat) * ((σ ((oth n bank).getD j 0) : Int) : Rat)) = sumQ (oth n bank).length fun j => (((fun o => lapM rs ((oth n bank).getD i 0) o * σ o) ((oth n bank).getD j 0) : Int) : Rat) := sumQ_congr fun j hj => by
      show ((if j < _ then _ else _ : Int) : Rat) * _ = _
      rw [if_pos hj, ← Rat.intCast_mul]
    rw [e1, sumQ_list (O := oth n bank) (f := fun o => lapM rs ((oth n bank).getD i 0) o * σ o) _ (Nat.le_refl _), List.take_length, lapM_sum T4 oth_nd (fun x hx => by
      by_cases y : x = bank
      · exact .inr y
      · exact .inl (oth_mem.mpr ⟨hx, y⟩)) (getD_mem hi).1 s0]
    have : 0 < -lap rs σ ((oth n bank).getD i 0) := by omega
    exact_mod_cast this
  · have a1 : (oth n bank).length * 2 ^ 200 ≤ 2 ^ 205 := by
      rw [show (205 : Nat) = 5 + 200 from rfl, Nat.pow_add]
      exact Nat.mul_le_mul (by omega) (Nat.le_refl _)
    refine Nat.lt_of_le_of_lt (Nat.pow_le_pow_left a1 _) ?_
    rw [← Nat.pow_mul]
    have : 205 * (oth n bank).length < 4101 := by omega
    exact Nat.pow_lt_pow_right (by decide) this
  · walk_at "ev"
    rw [List.length_map]
    refine k_forRn (by omega) ?_
    refine w_for (fun i t' e' => t' = t ∧ ∃ g s9, g bank = 0 ∧ e' = [some (false, townD n rs), some (false, .tup (vec n p)), some (false, .int (bank : Int)), some (true, .lst (natsD (oth n bank))), some (true, .lst (rowsM n n (lapM rs))), some (true, .lst (rowsM (oth n bank).length (oth n bank).length A)), some (true, .lst (vec n g)), some (true, .lst (vec (oth n bank).length f)), some (true, .int d), s9, none, none, none]) _ ⟨rfl, _, _, rfl, rfl⟩ ?_ ?_
    · rintro i x t' e' hx ⟨rfl, g, s9, g0, rfl⟩
      obtain ⟨hi, rfl⟩ := rgD_some hx
      rw [Int.zero_add]
      obtain ⟨m1, m2⟩ := getD_mem hi
      obtain ⟨o1, o2⟩ := oth_mem.mp m1
      apply w_eq (by walk_at "asg")
      walk_at "ev"
      refine k_2b (o_fdivW hd (by assumption)) ?_
      refine k_setI (w_of (by walk_at "ev"; rfl)) ⟨_, rfl⟩ rfl (ixN_nat (k := (oth n bank).getD i 0) (by rw [vec_len]; exact o1)) ?_
      rw [vec_set]
      dsimp only [List.set]
      exact ⟨rfl, _, _, by rw [if_neg fun w => o2 w.symm]; exact g0, rfl⟩
    · rintro t' e' ⟨rfl, g, s9, g0, rfl⟩
      walk_at "ev"
      exact k g g0
def DS (n bank : Nat) (q : Nat → Int) (d : D) : Prop := (d = .non ∧ ∀ h, h < n → h = bank ∨ 0 ≤ q h) ∨ ∃ h, h < n ∧ h ≠ bank ∧ q h < 0 ∧ d = .int (h : Int)
theorem w_debtor {n bank : Nat} {p : Nat → Int} {t : Tpa} {Q : Tpa × Bool × D → Prop} (hn : n < 1000) (k : ∀ d, DS n bank p d → imm d = true → Q (t, true, d)) : wp (ph_debtor t [.tup (vec n p), .int (bank : Int)]) Q := by
  unfold ph_debtor bd_debtor
  walk_at "ev"
  rw [vec_len]
  refine k_forRn (by omega) ?_
  refine w_for (fun i t' e' => t' = t ∧ (∀ h, h < i → h = bank ∨ 0 ≤ p h) ∧ ∃ s2, e' = [some (false, .tup (vec n p)), some (false, .int (bank : Int)), s2]) _ ⟨rfl, fun h w => by omega, _, rfl⟩ ?_ ?_
  · rintro i x t' e' hx ⟨rfl, hs, s2, rfl⟩
    obtain ⟨hi, rfl⟩ := rgD_some hx
    rw [Int.zero_add]
    apply w_eq (by walk_at "asg")
    walk_at "ev"
    by_cases z : i = bank
    · refine k_andT_f (by rw [decide_eq_true z]; rfl) ?_
      walk_at "ev"
      refine ⟨rfl, fun h hh => ?_, _, rfl⟩
      by_cases y : h = i
      · rw [y]; exact .inl z
      · exact hs h (by omega)
    refine k_andT_t (by rw [decide_eq_false z]; rfl) ?_
    walk_at "ev"
    by_cases z2 : p i < 0
    · refine k_if_t (decide_eq_true z2) ?_
      walk_at "ev"
      exact k _ (.inr ⟨i, hi, z, z2, rfl⟩) rfl
    refine k_if_f (decide_eq_false z2) ?_
    walk_at "ev"
    refine ⟨rfl, fun h hh => ?_, _, rfl⟩
    by_cases y : h = i
    · rw [y]; exact .inr (by omega)
    · exact hs h (by omega)
  · rintro t' e' ⟨rfl, hs, s2, rfl⟩
    rw [rgD_len] at hs
    walk_at "ev"
    exact k _ (.inl ⟨rfl, hs⟩) rfl
theorem aft_aft {rs : List (Nat × Nat)} {p s u : Nat → Int} {h : Nat} : aft rs (aft rs p s) u h = aft rs p (fun k => s k + u k) h := by
  unfold aft
  rw [lap_add]
  omega
theorem sum_le {l : List Nat} {f g : Nat → Int} (h : ∀ x ∈ l, f x ≤ g x) : (l.map f).sum ≤ (l.map g).sum := by
  induction l with
  | nil => simp
  | cons a l ih =>
    rw [List.map_cons, List.map_cons, List.sum_cons, List.sum_cons]
    have := h a (.head _)
    have := ih fun x m => h x (.tail _ m)
    omega
theorem sum_nn {l : List Nat} {f : Nat → Int} (h : ∀ x ∈ l, 0 ≤ f x) : 0 ≤ (l.map f).sum := by
  have := sum_le (l := l) (f := fun _ => 0) (g := f) h
  rw [sum_zero l (fun _ => 0) fun _ _ => rfl] at this
  exact this
theorem sum_ge_one {l : List Nat} {f : Nat → Int} (h : ∀ x ∈ l, 0 ≤ f x) {a : Nat} (m : a ∈ l) : f a ≤ (l.map f).sum := by
  induction l with
  | nil => cases m
  | cons b l ih =>
    rw [List.map_cons, List.sum_cons]
    have n0 := sum_nn (l := l) fun x m => h x (.tail _ m)
    rcases List.mem_cons.mp m with z | z
    · rw [z]; omega
    · have := ih (fun x m => h x (.tail _ m)) z
      have := h b (.head _)
      omega
/-- a debtor has not yet borrowed as often as the bound tells -/
theorem bor_lt {n : Nat} {rs : List (Nat × Nat)} {q u c : Nat → Int} {h : Nat} (hr : ∀ p ∈ rs, p.1 < n ∧ p.2 < n ∧ p.1 ≠ p.2) (hu : 0 ≤ aft rs q (fun k => -u k) h) (hc : ∀ x, x < n → c x ≤ u x) (hd : aft rs q (fun k => -c k) h < 0) : c h ≠ u h := fun e => by
  unfold aft at hu hd
  rw [lap_neg] at hu hd
  have e1 := ends_lap rs u h
  have e2 := ends_lap rs c h
  have le := sum_le (l := ends rs h) (f := c) (g := u) fun x m => hc x (ends_lt hr h x m)
  rw [e] at e2
  omega
/-- lending and weighing may be exchanged -/
theorem lap_self {n : Nat} : ∀ {rs : List (Nat × Nat)} (_ : ∀ p ∈ rs, p.1 < n ∧ p.2 < n ∧ p.1 ≠ p.2) (f g : Nat → Int), ((List.range n).map fun h => f h * lap rs g h).sum = ((List.range n).map fun h => g h * lap rs f h).sum
  | [], _, f, g => by
    rw [sum_zero, sum_zero]
    · intro a _; exact Int.mul_zero _
    · intro a _; exact Int.mul_zero _
  | p :: rs, hr, f, g => by
    have ih := lap_self (n := n) (rs := rs) (fun q m => hr q (.tail _ m)) f g
    obtain ⟨p1, p2, _⟩ := hr p (.head _)
    have one : ∀ f g : Nat → Int, ((List.range n).map fun h => f h * lap1 p g h).sum = f p.1 * (g p.2 - g p.1) + f p.2 * (g p.1 - g p.2) := fun f g => by
      have e : ((List.range n).map fun h => f h * lap1 p g h) = (List.range n).map fun h => (if p.1 = h then f p.1 * (g p.2 - g p.1) else 0) + if p.2 = h then f p.2 * (g p.1 - g p.2) else 0 := by
        refine List.map_congr_left fun h _ => ?_
        unfold lap1
        by_cases z1 : p.1 = h <;> by_cases z2 : p.2 = h
        · rw [if_pos z1, if_pos z2, if_pos z1, if_pos z2, z1, z2]; grind
        · rw [if_pos z1, if_neg z2, if_pos z1, if_neg z2, z1]; grind
        · rw [if_neg z1, if_pos z2, if_neg z1, if_pos z2, z2]; grind
        · rw [if_neg z1, if_neg z2, if_neg z1, if_neg z2]; grind
      rw [e, sum_map_add, sum_at n p.1 _ p1, sum_at n p.2 _ p2]
    have e1 : ((List.range n).map fun h => f h * lap (p :: rs) g h) = (List.range n).map fun h => f h * lap1 p g h + f h * lap rs g h := List.map_congr_left fun h _ => by rw [lap_cons, Int.mul_add]
    have e2 : ((List.range n).map fun h => g h * lap (p :: rs) f h) = (List.range n).map fun h => g h * lap1 p f h + g h * lap rs f h := List.map_congr_left fun h _ => by rw [lap_cons, Int.mul_add]
    rw [e1, e2, sum_map_add, sum_map_add, ih, one f g, one g f]
    grind
theorem fire_fix {n bank : Nat} {rs : List (Nat × Nat)} {p : Nat → Int} (hb : bank < n) : FI n rs p bank (fireN n rs p n [bank]) ∧ ready n rs p (fireN n rs p n [bank]) = [] := by
  have g : ∀ m b, n - b.length = m → FI n rs p bank b → FI n rs p bank (fireN n rs p n [bank]) ∧ ready n rs p (fireN n rs p n [bank]) = [] := by
    intro m
    induction m using Nat.strongRecOn with
    | _ m ih =>
      intro b hm F
      cases e : ready n rs p b with
      | nil => rw [F.stop e]; exact ⟨F, e⟩
      | cons a l =>
        obtain ⟨F2, lb⟩ := F.step e
        exact ih _ (by rw [← hm, List.length_append, List.length_singleton]; omega) _ rfl F2
  exact g _ _ rfl (FI.start hb)
/-- who stands has coins for all roads to the burnt ones -/
theorem stand_ge {n bank h : Nat} {rs : List (Nat × Nat)} {p : Nat → Int} (hb : bank < n) (hh : h < n) (ns : h ∉ fireN n rs p n [bank]) : (into rs h (fireN n rs p n [bank]) : Int) ≤ p h := by
  obtain ⟨F, e⟩ := fire_fix (rs := rs) (p := p) hb
  by_cases z : p h < (into rs h (fireN n rs p n [bank]) : Int)
  · have : h ∈ ready n rs p (fireN n rs p n [bank]) := List.mem_filter.mpr ⟨List.mem_range.mpr hh, by unfold may; rw [decide_eq_true ns, decide_eq_true z]; rfl⟩
    rw [e] at this
    cases this
  · omega
theorem marks_in {n h : Nat} {rs : List (Nat × Nat)} {S b : List Nat} (hr : ∀ p ∈ rs, p.1 < n ∧ p.2 < n ∧ p.1 ≠ p.2) (hS : ∀ x, x < n → (x ∈ S ↔ x ∉ b)) (hh : h ∈ S) : lap rs (marks S) h = -(into rs h b : Int) := by
  have e := ends_lap rs (marks S) h
  have lt := ends_lt hr h
  unfold into
  have g : ∀ E : List Nat, (∀ x ∈ E, x < n) → (E.map (marks S)).sum = (E.length : Int) - ((E.filter fun o => decide (o ∈ b)).length : Int) := by
    intro E
    induction E with
    | nil => intro _; rfl
    | cons a E ih =>
      intro he
      have ih := ih fun x m => he x (.tail _ m)
      have ha := hS a (he a (.head _))
      rw [List.map_cons, List.sum_cons, ih, List.length_cons]
      by_cases z : a ∈ b
      · rw [List.filter_cons_of_pos (p := fun o => decide (o ∈ b)) (decide_eq_true z), List.length_cons, marks, if_neg fun w => (ha.mp w) z]
        omega
      · rw [List.filter_cons_of_neg (p := fun o => decide (o ∈ b)) (by rw [decide_eq_false z]; exact Bool.false_ne_true), marks, if_pos (ha.mpr z)]
        omega
  rw [g _ lt, show marks S h = 1 from if_pos hh] at e
  omega
theorem marks_out {h : Nat} {rs : List (Nat × Nat)} {S : List Nat} (hh : h ∉ S) : 0 ≤ lap rs (marks S) h := by
  have e := ends_lap rs (marks S) h
  have := sum_nn (l := ends rs h) (f := marks S) fun x _ => by unfold marks; split <;> omega
  rw [show marks S h = 0 from if_neg hh] at e
  omega
theorem w_reduced {n bank : Nat} {rs : List (Nat × Nat)} {p : Nat → Int} {t : Tpa} {Q : Tpa × Bool × D → Prop} (T : Town n rs) (n20 : n ≤ 20) (Cb : ∀ x, x < n → Cn rs bank x) (hb : bank < n) (hp : ∀ h, h < n → (p h).natAbs ≤ 2 ^ 200)
    (k : ∀ s : Nat → Int, s bank = 0 → (∀ h, h < n → h = bank ∨ 0 ≤ aft rs p s h) → (∀ x, x < n → x ∈ fireN n rs (aft rs p s) n [bank]) → Q (t, true, .tup [.tup (vec n (aft rs p s)), .tup (vec n s)])) :
    wp (ph_reduced t [townD n rs, .tup (vec n p), .int (bank : Int)]) Q := by
  obtain ⟨T1, T2, T3, T4⟩ := id T
  obtain ⟨σ, σ0, hσ⟩ := super_ex T4 Cb
  unfold ph_reduced bd_reduced
  walk_at "ev"
  refine w_first_script T n20 Cb hb hp fun s0 hs0 => ?_
  walk_at "ev"
  refine w_after T ?_
  walk_at "ev"
  -- a bound of the borrowings
  obtain ⟨K, K0, hK⟩ : ∃ K : Int, 0 ≤ K ∧ ∀ h, h < n → -(aft rs p s0 h) ≤ K := by
    refine ⟨((List.range n).map fun h => ((aft rs p s0 h).natAbs : Int)).sum, sum_nn fun x _ => by omega, fun h hh => ?_⟩
    have := sum_ge_one (l := List.range n) (f := fun h => ((aft rs p s0 h).natAbs : Int)) (fun x _ => by omega) (List.mem_range.mpr hh)
    omega
  have hu : ∀ h, h < n → h ≠ bank → 0 ≤ aft rs (aft rs p s0) (fun k => -(K * σ k)) h := fun h hh nb => by
    have e : lap rs (fun k => -(K * σ k)) h = -(K * lap rs σ h) := by
      rw [lap_neg]
      have a1 := ends_lap rs (fun k => K * σ k) h
      have a2 := ends_lap rs σ h
      have a3 := sum_mulc (E := ends rs h) (f := σ) (c := K)
      have a4 : K * lap rs σ h = K * (((ends rs h).map σ).sum) - K * (σ h * ((ends rs h).length : Int)) := by rw [← a2, Int.mul_sub]
      have a5 : K * σ h * ((ends rs h).length : Int) = K * (σ h * ((ends rs h).length : Int)) := Int.mul_assoc _ _ _
      omega
    have l1 := (hσ h hh nb).2
    have := hK h hh
    have m1 := Int.mul_le_mul_of_nonneg_left l1 K0
    show 0 ≤ aft rs p s0 h + lap rs (fun k => -(K * σ k)) h
    rw [e]
    omega
  have K1 : ∀ h, h < n → 0 ≤ K * σ h := fun h hh => by
    by_cases z : h = bank
    · rw [z, σ0, Int.mul_zero]; exact Int.le_refl _
    · exact Int.mul_nonneg K0 (by have := (hσ h hh z).1; omega)
  have aeq : ∀ (c : Nat → Int) (h : Nat), aft rs p (fun k => s0 k + -(c k)) h = aft rs (aft rs p s0) (fun k => -(c k)) h := fun c h => aft_aft.symm
  refine w_debtor T2 fun d hd im => ?_
  walk_at "ev"
  refine w_while (fun m t' e' => t' = t ∧ ∃ (s c : Nat → Int) (d : D) (s6 s7 s8 : Option (Bool × D)), e' = [some (false, townD n rs), some (false, .tup (vec n p)), some (false, .int (bank : Int)), some (true, .tup (vec n s)), some (true, .tup (vec n (aft rs p s))), some (true, d), s6, s7, s8] ∧ s = (fun k => s0 k + -(c k)) ∧ c bank = 0 ∧ (∀ x, x < n → 0 ≤ c x ∧ c x ≤ K * σ x) ∧ m = (((List.range n).map fun x => K * σ x - c x).sum).toNat ∧ imm d = true ∧ DS n bank (aft rs p s) d) _ ⟨rfl, s0, fun _ => 0, d, _, _, _, rfl, funext fun k => (by show s0 k = s0 k + -(0 : Int); omega), rfl, fun x hx => ⟨Int.le_refl _, K1 x hx⟩, rfl, im, hd⟩ ?_
  clear hd im d
  rintro m t' e' ⟨rfl, s, c, d, s6, s7, s8, rfl, es, c0, hc, rfl, im, hd⟩
  walk_at "ev"
  refine k_wh (fun z => ?_) (fun z => ?_)
  · obtain ⟨rfl, _⟩ | ⟨h, hh, nb, neg, rfl⟩ := hd
    · cases z
    walk_at "ev"
    refine k_LcRn (by omega) (by walk_at "set") ?_
    refine w_lcr n (mark h (-1)) (fun a ha => ?_) ?_
    · apply w_eq (by walk_at "asg")
      walk_at "ev"
      by_cases y : a = h
      · refine k_ifX_t (decide_eq_true y) ?_
        walk_at "ev"
        exact ⟨rfl, by rw [mark, if_pos y]⟩
      · refine k_ifX_f (decide_eq_false y) ?_
        walk_at "ev"
        exact ⟨rfl, by rw [mark, if_neg y]⟩
    walk_at "ev"
    refine w_joined T2 ?_
    walk_at "ev"
    refine w_after T ?_
    walk_at "ev"
    have e1 : (fun k => s k + mark h (-1) k) = fun k => s0 k + -(if k = h then c k + 1 else c k) := funext fun k => by
      rw [es]
      show s0 k + -(c k) + mark h (-1) k = s0 k + -(if k = h then c k + 1 else c k)
      unfold mark
      split <;> omega
    have e2 : aft rs (aft rs p s) (mark h (-1)) = aft rs p fun k => s k + mark h (-1) k := funext fun x => aft_aft
    rw [e2]
    have lt : c h < K * σ h := by
      have := bor_lt (q := aft rs p s0) (u := fun k => K * σ k) (c := c) T4 (hu h hh nb) (fun x hx => (hc x hx).2) (by rw [← aeq, ← es]; exact neg)
      have := (hc h hh).2
      omega
    refine w_debtor T2 fun d' hd' im' => ?_
    walk_at "ev"
    have sm : ((List.range n).map fun x => K * σ x - (if x = h then c x + 1 else c x)).sum + 1 = ((List.range n).map fun x => K * σ x - c x).sum := by
      have := sum_at n h 1 hh
      rw [← this, ← sum_map_add]
      refine congrArg List.sum (List.map_congr_left fun x _ => ?_)
      by_cases y : x = h
      · rw [if_pos y, if_pos y.symm]; omega
      · rw [if_neg y, if_neg fun w => y w.symm]; omega
    have hc' : ∀ x, x < n → 0 ≤ (if x = h then c x + 1 else c x) ∧ (if x = h then c x + 1 else c x) ≤ K * σ x := fun x hx => by
      have := hc x hx
      by_cases y : x = h
      · rw [if_pos y]; subst y; omega
      · rw [if_neg y]; exact this
    have nn : 0 ≤ ((List.range n).map fun x => K * σ x - (if x = h then c x + 1 else c x)).sum := sum_nn fun x mx => by
      have := (hc' x (List.mem_range.mp mx)).2
      omega
    have lm : (((List.range n).map fun x => K * σ x - (if x = h then c x + 1 else c x)).sum).toNat < (((List.range n).map fun x => K * σ x - c x).sum).toNat := by omega
    exact ⟨_, lm, rfl, _, fun k => if k = h then c k + 1 else c k, d', _, _, _, rfl, e1, (show (if bank = h then c bank + 1 else c bank) = 0 from by rw [if_neg fun w => nb w.symm]; exact c0), hc', rfl, im', hd'⟩
  · obtain ⟨rfl, sound⟩ | ⟨h, hh, nb, neg, rfl⟩ := hd
    rotate_left
    · cases z
    have sb : s bank = 0 := by
      rw [es]
      show s0 bank + -(c bank) = 0
      rw [hs0, c0]; rfl
    clear es hc c0 aeq hu K1 hK
    walk_at "ev"
    refine w_standing T hb ?_
    walk_at "ev"
    refine w_while (fun m t1 e1 => t1 = t' ∧ ∃ (s : Nat → Int) (s5 s6 s8 : Option (Bool × D)), e1 = [some (false, townD n rs), some (false, .tup (vec n p)), some (false, .int (bank : Int)), some (true, .tup (vec n s)), some (true, .tup (vec n (aft rs p s))), s5, s6, some (true, .lst (natsD ((List.range n).filter fun h => decide (h ∉ fireN n rs (aft rs p s) n [bank])))), s8] ∧ s bank = 0 ∧ (∀ h, h < n → h = bank ∨ 0 ≤ aft rs p s h) ∧ m = (((List.range n).map fun x => σ x * aft rs p s x).sum).toNat) _ ⟨rfl, s, _, _, _, rfl, sb, sound, rfl⟩ ?_
    clear sb sound
    rintro m t1 e1 ⟨rfl, s, s5, s6, s8, rfl, sb, sound, rfl⟩
    have lS : ((List.range n).filter fun h => decide (h ∉ fireN n rs (aft rs p s) n [bank])).length ≤ n := by
      have := List.length_filter_le (fun h => decide (h ∉ fireN n rs (aft rs p s) n [bank])) (List.range n)
      rw [List.length_range] at this
      exact this
    have mS : ∀ x, x ∈ ((List.range n).filter fun h => decide (h ∉ fireN n rs (aft rs p s) n [bank])) ↔ x < n ∧ x ∉ fireN n rs (aft rs p s) n [bank] := fun x => by
      rw [List.mem_filter, List.mem_range, decide_eq_true_iff]
    generalize hS : ((List.range n).filter fun h => decide (h ∉ fireN n rs (aft rs p s) n [bank])) = S at lS mS
    walk_at "ev"
    rw [List.length_map]
    refine k_wh (fun z => ?_) (fun z => ?_)
    · have Sp : 0 < S.length := by have := of_decide_eq_true z; omega
      have bS : bank ∉ S := fun w => ((mS bank).mp w).2 (by
        obtain ⟨F, _⟩ := fire_fix (rs := rs) (p := aft rs p s) hb
        exact List.mem_of_getElem? F.hd)
      walk_at "ev"
      refine k_LcRn (by omega) (by walk_at "set") ?_
      refine w_lcr n (marks S) (fun a ha => ?_) ?_
      · apply w_eq (by walk_at "asg")
        walk_at "ev"
        by_cases y : a ∈ S
        · refine k_ifX_t (decide_eq_true y) ?_
          walk_at "ev"
          exact ⟨rfl, by rw [marks, if_pos y]⟩
        · refine k_ifX_f (decide_eq_false y) ?_
          walk_at "ev"
          exact ⟨rfl, by rw [marks, if_neg y]⟩
      walk_at "ev"
      refine w_joined T2 ?_
      walk_at "ev"
      refine w_lend_together T (.inl rfl) ?_
      have e2 : aft rs (aft rs p s) (marks S) = aft rs p fun k => s k + marks S k := funext fun x => aft_aft
      rw [e2]
      walk_at "ev"
      refine w_standing T hb ?_
      walk_at "ev"
      have hin : ∀ h, h < n → h ∈ S → 0 ≤ aft rs p (fun k => s k + marks S k) h := fun h hh m => by
        rw [← e2]
        have := stand_ge (rs := rs) (p := aft rs p s) hb hh ((mS h).mp m).2
        have := marks_in (b := fireN n rs (aft rs p s) n [bank]) T4 (fun x hx => ⟨fun w => ((mS x).mp w).2, fun w => (mS x).mpr ⟨hx, w⟩⟩) m
        show 0 ≤ aft rs p s h + lap rs (marks S) h
        omega
      have sound' : ∀ h, h < n → h = bank ∨ 0 ≤ aft rs p (fun k => s k + marks S k) h := fun h hh => by
        by_cases m : h ∈ S
        · exact .inr (hin h hh m)
        · rcases sound h hh with w | w
          · exact .inl w
          · right
            rw [← e2]
            have := marks_out (rs := rs) m
            show 0 ≤ aft rs p s h + lap rs (marks S) h
            omega
      have σn : ∀ x, x < n → 0 ≤ σ x := fun x hx => by
        by_cases y : x = bank
        · rw [y, σ0]; exact Int.le_refl _
        · have := (hσ x hx y).1; omega
      have nn : 0 ≤ ((List.range n).map fun x => σ x * aft rs p (fun k => s k + marks S k) x).sum := sum_nn fun x mx => by
        have hx := List.mem_range.mp mx
        rcases sound' x hx with y | y
        · rw [y, σ0, Int.zero_mul]; exact Int.le_refl _
        · exact Int.mul_nonneg (σn x hx) y
      have dec : ((List.range n).map fun x => σ x * aft rs p (fun k => s k + marks S k) x).sum < ((List.range n).map fun x => σ x * aft rs p s x).sum := by
        have e3 : ((List.range n).map fun x => σ x * aft rs p (fun k => s k + marks S k) x) = (List.range n).map fun x => σ x * aft rs p s x + σ x * lap rs (marks S) x := List.map_congr_left fun x _ => by
          rw [← e2]
          show σ x * (aft rs p s x + lap rs (marks S) x) = _
          rw [Int.mul_add]
        rw [e3, sum_map_add, lap_self T4]
        have ne : ∀ x ∈ List.range n, 0 ≤ -(marks S x * lap rs σ x) := fun x mx => by
          unfold marks
          by_cases y : x ∈ S
          · rw [if_pos y, Int.one_mul]
            have := (hσ x (List.mem_range.mp mx) fun w => bS (w ▸ y)).2
            omega
          · rw [if_neg y, Int.zero_mul]; exact Int.le_refl _
        obtain ⟨a, ma⟩ := List.exists_mem_of_length_pos Sp
        have an := ((mS a).mp ma).1
        have g1 := sum_ge_one (l := List.range n) ne (List.mem_range.mpr an)
        have g2 : ((List.range n).map fun x => -(marks S x * lap rs σ x)).sum = -((List.range n).map fun x => marks S x * lap rs σ x).sum := by
          have := sum_mulc (E := List.range n) (f := fun x => marks S x * lap rs σ x) (c := -1)
          rw [Int.neg_one_mul] at this
          rw [← this]
          exact congrArg List.sum (List.map_congr_left fun x _ => by rw [Int.neg_one_mul])
        have g3 : marks S a * lap rs σ a ≤ -1 := by
          rw [show marks S a = 1 from if_pos ma, Int.one_mul]
          exact (hσ a an fun w => bS (w ▸ ma)).2
        omega
      exact ⟨_, by omega, rfl, _, _, _, _, rfl, by show s bank + marks S bank = 0; rw [sb, show marks S bank = 0 from if_neg bS]; rfl, sound', rfl⟩
    · have S0 : S = [] := List.length_eq_zero_iff.mp (by have := of_decide_eq_false z; omega)
      walk_at "ev"
      refine k s sb sound fun x hx => Classical.byContradiction fun w => ?_
      have := (mS x).mpr ⟨hx, w⟩
      rw [S0] at this
      cases this
theorem srt_nat {b l : List Nat} (hb : b.Nodup) (hl : l.Pairwise (· < ·)) (h : ∀ x, x ∈ b ↔ x ∈ l) : srtI (b.map fun k : Nat => (k : Int)) = l.map fun k : Nat => (k : Int) := by
  have p : b.Perm l := (List.perm_ext_iff_of_nodup hb (hl.imp fun h => by omega)).mpr h
  refine sorted_one ((srtI_perm _).trans (p.map _)) (srtI_sorted _) ?_
  rw [List.pairwise_map]
  exact hl.imp fun h => by omega
/-- what is reached so far -/
structure RC (n : Nat) (ps : List (Nat × Nat)) (a : Nat) (b : List Nat) : Prop where
  nd : b.Nodup
  lt : ∀ x ∈ b, x < n
  bk : a ∈ b
  cn : ∀ x ∈ b, Cn ps a x
def CB (ps : List (Nat × Nat)) (b : List Nat) : Prop := ∀ p ∈ ps, (p.1 ∈ b ↔ p.2 ∈ b)
section
variable {n a x : Nat} {ps : List (Nat × Nat)} {b b' : List Nat}
theorem RC.start (ha : a < n) : RC n ps a [a] := ⟨List.nodup_cons.mpr ⟨fun m => (nomatch m), List.nodup_nil⟩, fun x m => by rw [List.mem_singleton.mp m]; exact ha, .head _, fun x m => by rw [List.mem_singleton.mp m]; exact Cn.rf⟩
theorem RC.len (R : RC n ps a b) : b.length ≤ n := nd_len R.nd R.lt
theorem RC.snoc (R : RC n ps a b) (hx : x < n) (hb : x ∉ b) (c : Cn ps a x) : RC n ps a (b ++ [x]) := ⟨List.nodup_append.mpr ⟨R.nd, List.nodup_cons.mpr ⟨fun m => (nomatch m), List.nodup_nil⟩, fun y hy z hz e => hb (by rw [List.mem_singleton.mp hz] at e; rw [← e]; exact hy)⟩, fun y m => (List.mem_append.mp m).elim (R.lt y) fun w => by rw [List.mem_singleton.mp w]; exact hx, List.mem_append_left _ R.bk, fun y m => (List.mem_append.mp m).elim (R.cn y) fun w => by rw [List.mem_singleton.mp w]; exact c⟩
theorem nd_perm2 (h : b.Nodup) (h' : b'.Nodup) (s : ∀ y ∈ b', y ∈ b) (l : b.length ≤ b'.length) : ∀ x ∈ b, x ∈ b' := fun x m => Classical.byContradiction fun w => by
  have := sub_len (m := b) (List.nodup_cons.mpr ⟨w, h'⟩) fun y my => (List.mem_cons.mp my).elim (fun e => by rw [e]; exact m) (s y)
  rw [List.length_cons] at this
  omega
end
theorem w_reached {n a : Nat} {ps : List (Nat × Nat)} {d : D} {t : Tpa} {Q : Tpa × Bool × D → Prop} (hn : n < 1000) (hl : ps.length < 10000) (hps : ∀ p ∈ ps, p.1 < n ∧ p.2 < n) (ha : a < n) (hd : d = .tup (rdsD ps) ∨ d = .lst (rdsD ps)) (k : Q (t, true, .lst (natsD (comp n ps a)))) : wp (ph_reached t [.int (n : Int), d, .int (a : Int)]) Q := by
  unfold ph_reached bd_reached
  have fin : ∀ {b : List Nat}, RC n ps a b → CB ps b → srtI (b.map fun k : Nat => (k : Int)) = (comp n ps a).map fun k : Nat => (k : Int) := fun {b} R C => srt_nat R.nd comp_asc fun x => by
    rw [comp_mem]
    exact ⟨fun m => ⟨R.lt x m, R.cn x m⟩, fun m => m.2 (fun y => y ∈ b) C R.bk⟩
  rcases hd with rfl | rfl
  all_goals
    walk_at "ev"
    refine k_forRn (by omega) ?_
    refine w_for (fun k t' e' => t' = t ∧ ∃ b s4 s5 s6, e' = [some (false, .int (n : Int)), some (false, _), some (false, .int (a : Int)), some (true, .lst (natsD b)), s4, s5, s6] ∧ RC n ps a b ∧ (CB ps b ∨ k + 1 ≤ b.length)) _ ⟨rfl, [a], none, none, none, rfl, RC.start ha, .inr (Nat.le_refl _)⟩ ?_ ?_
    · rintro i x t' e' hx ⟨rfl, b, s4, s5, s6, rfl, R, hS⟩
      obtain ⟨hi, rfl⟩ := rgD_some hx
      apply w_eq (by walk_at "asg")
      walk_at "ev"
      refine k_forS (by first | exact itms_tm (F := road) fun _ => rfl | exact itms_lm (F := road) (fun _ => rfl) (fun z => nomatch z)) ?_
      refine w_for (fun k t1 e1 => t1 = t' ∧ ∃ b' s5 s6, e1 = [some (false, .int (n : Int)), some (false, _), some (false, .int (a : Int)), some (true, .lst (natsD b')), some (true, .int (0 + (i : Int))), s5, s6] ∧ RC n ps a b' ∧ b.length ≤ b'.length ∧ (b'.length = b.length → b' = b ∧ ∀ (j : Nat) p, j < k → ps[j]? = some p → (p.1 ∈ b ↔ p.2 ∈ b))) _ ⟨rfl, b, s5, s6, rfl, R, Nat.le_refl _, fun _ => ⟨rfl, fun j p w => absurd w (Nat.not_lt_zero _)⟩⟩ ?_ ?_
      · rintro j x t1 e1 hx ⟨rfl, b', s5, s6, rfl, R', h1, h2⟩
        obtain ⟨p, hp, rfl⟩ := map_some hx
        have pm := List.mem_of_getElem? hp
        obtain ⟨p1, p2⟩ := hps p pm
        have bl := R'.len
        have ln : (natsD b').length < 16777216 := by rw [List.length_map]; omega
        apply w_eq (by walk_at "asg")
        walk_at "ev"
        have skip : ((p.1 ∈ b' ↔ p.2 ∈ b') → (b'.length = b.length → b' = b ∧ ∀ (i : Nat) q, i < j + 1 → ps[i]? = some q → (q.1 ∈ b ↔ q.2 ∈ b))) := fun w e => by
          obtain ⟨e1, e2⟩ := h2 e
          refine ⟨e1, fun i q hi hq => ?_⟩
          by_cases z : i = j
          · subst z
            rw [hp] at hq
            cases hq
            rw [← e1]; exact w
          · exact e2 i q (by omega) hq
        by_cases z1 : p.1 ∈ b'
        · by_cases z2 : p.2 ∈ b'
          · refine k_if_f (by rw [decide_eq_true z1, decide_eq_true z2]; rfl) ?_
            walk_at "ev"
            exact ⟨rfl, b', _, _, rfl, R', h1, skip ⟨fun _ => z2, fun _ => z1⟩⟩
          · refine k_if_t (by rw [decide_eq_true z1, decide_eq_false z2]; rfl) ?_
            walk_at "ev"
            refine k_ifX_t (decide_eq_true z1) ?_
            walk_at "ev"
            rw [nat_snoc]
            refine ⟨rfl, b' ++ [p.2], _, _, rfl, R'.snoc p2 z2 ((R'.cn _ z1).tr (Cn.edge pm)), by rw [List.length_append]; omega, fun e => ?_⟩
            rw [List.length_append, List.length_singleton] at e
            omega
        · by_cases z2 : p.2 ∈ b'
          · refine k_if_t (by rw [decide_eq_false z1, decide_eq_true z2]; rfl) ?_
            walk_at "ev"
            refine k_ifX_f (decide_eq_false z1) ?_
            walk_at "ev"
            rw [nat_snoc]
            refine ⟨rfl, b' ++ [p.1], _, _, rfl, R'.snoc p1 z1 ((R'.cn _ z2).tr (Cn.edge pm).sm), by rw [List.length_append]; omega, fun e => ?_⟩
            rw [List.length_append, List.length_singleton] at e
            omega
          · refine k_if_f (by rw [decide_eq_false z1, decide_eq_false z2]; rfl) ?_
            walk_at "ev"
            exact ⟨rfl, b', _, _, rfl, R', h1, skip ⟨fun w => absurd w z1, fun w => absurd w z2⟩⟩
      · rintro t1 e1 ⟨rfl, b', s5, s6, rfl, R', h1, h2⟩
        rw [List.length_map] at h2
        walk_at "ev"
        refine ⟨rfl, b', _, _, _, rfl, R', ?_⟩
        by_cases z : b'.length = b.length
        · obtain ⟨e1, e2⟩ := h2 z
          left
          intro p m
          obtain ⟨j, jl, ej⟩ := List.getElem_of_mem m
          rw [e1]
          exact e2 j p jl (by rw [List.getElem?_eq_getElem jl, ej])
        · rcases hS with C | hS
          · left
            have e : ∀ x, x ∈ b' ↔ x ∈ b := fun x => by
              have f1 := fun (m : x ∈ b') => R'.cn x m (fun y => y ∈ b) C R.bk
              have p := nd_perm2 R.nd R'.nd
              exact ⟨f1, fun m => (p fun y my => R'.cn y my (fun y => y ∈ b) C R.bk) h1 x m⟩
            intro p m
            rw [e, e]
            exact C p m
          · exact .inr (by omega)
    · rintro t1 e1 ⟨rfl, b, s4, s5, s6, rfl, R, hS⟩
      rw [rgD_len] at hS
      have bl := R.len
      have C : CB ps b := hS.elim id fun w => by omega
      walk_at "ev"
      rw [show (b.map Nat.cast : List Int) = b.map fun k : Nat => (k : Int) from rfl, fin R C, ← nats_ints]
      exact k
abbrev castL (l : List Nat) : List Int := l.map fun k : Nat => (k : Int)
theorem Jn.spn {n : Nat} {rs : List (Nat × Nat)} (J : Jn n rs) : ∀ x, x < n → Cn rs 0 x := by
  intro x
  induction x using Nat.strongRecOn with
  | _ x ih =>
    intro hx
    by_cases z : x = 0
    · rw [z]; exact Cn.rf
    · obtain ⟨j, h1, h2⟩ := J x (by omega) hx
      exact (ih j h1 (by omega)).tr (Cn.edge (p := (j, x)) h2)
theorem lot_all {rs : List (Nat × Nat)} : lot rs (List.range rs.length) = rs := by
  apply List.ext_getElem?
  intro i
  by_cases h : i < rs.length
  · rw [List.getElem?_map, List.getElem?_range h, rd_some h]; rfl
  · rw [List.getElem?_eq_none (by rw [List.length_map, List.length_range]; omega), List.getElem?_eq_none (by omega)]
theorem Jn.all {n : Nat} {rs : List (Nat × Nat)} (J : Jn n rs) : Spn n rs (List.range rs.length) := fun x hx => by
  show Cn (lot rs (List.range rs.length)) 0 x
  rw [lot_all]
  exact J.spn x hx
theorem up_t' {g : Gr} {ds : List D} (h : immA ds = true) : up g (.tup ds) = (.own, .tup ds) := by unfold up; rw [if_pos (show imm (.tup ds) = true from h)]
theorem o_cat_n {g g' : Gr} {l : List Nat} {k : Nat} (h : l.length < 10000) : sPlus (g, .tup (natsD l)) (g', .tup [.int (k : Int)]) = some (.own, .tup (natsD (l ++ [k]))) := by
  have st : sPlus (g, .tup (natsD l)) (g', .tup [.int (k : Int)]) = if szB ((natsD l).length + [D.int (k : Int)].length) then some (up (gj g g') (.tup (natsD l ++ [.int (k : Int)]))) else none := rfl
  rw [st, if_pos (szB_of (by rw [List.length_map]; show l.length + 1 ≤ _; omega)), nat_snoc, up_t' immA_nats]
theorem w_is_whole {z lo hi : Int} {t : Tpa} {Q : Tpa × Bool × D → Prop} (k : Q (t, true, .bl (decide (lo ≤ z ∧ z ≤ hi)))) : wp (ph_is_whole t [.int z, .int lo, .int hi]) Q := by
  unfold ph_is_whole bd_is_whole
  walk_at "ev"
  refine w_ch (w_xP rfl rfl (k_ch1 ?_))
  refine w_xP rfl rfl ?_
  by_cases h1 : lo ≤ z
  · refine k_ch2_t (decide_eq_true h1) ?_
    refine w_xP rfl rfl (k_ch3 ?_)
    walk_at "ev"
    by_cases h2 : z ≤ hi
    · rw [decide_eq_true ⟨h1, h2⟩] at k
      rw [decide_eq_true h2]
      exact k
    · rw [decide_eq_false (fun w => h2 w.2)] at k
      rw [decide_eq_false h2]
      exact k
  · refine k_ch2_f (decide_eq_false h1) ?_
    walk_at "ev"
    rw [decide_eq_false (fun w => h1 w.1)] at k
    exact k
theorem cut_lm1 {ds : List D} : cutD ds (some (-1)) none = ds.drop (ds.length - 1) := by
  unfold cutD HT.sIx
  dsimp only
  rw [if_pos (by decide)]
  have e : ((-1 : Int) + (ds.length : Int)).toNat = ds.length - 1 := by omega
  have e' : ((ds.length : Int) + (-1 : Int)).toNat = ds.length - 1 := by omega
  first
  | rw [e, List.take_of_length_le (by rw [List.length_drop]; exact Nat.le_refl _)]
  | rw [e', List.take_of_length_le (by rw [List.length_drop]; exact Nat.le_refl _)]
  | skip
theorem o_cut_lm1n {g : Gr} {l : List Nat} : sCut (g, .tup (natsD l)) (some (-1)) none = some (.own, .tup (natsD (l.drop (l.length - 1)))) := o_cut_t (by rw [cut_lm1, natsD_drop, List.length_map]) immA_nats
theorem immA_vtake {n k : Nat} {f : Nat → Int} : immA ((vec n f).take k) = true := by rw [vec_ints, ← List.map_take]; exact immA_ints
theorem immA_vdrop {n k : Nat} {f : Nat → Int} : immA ((vec n f).drop k) = true := by rw [vec_ints, ← List.map_drop]; exact immA_ints
theorem o_cut_vh {g : Gr} {n k : Nat} {f : Nat → Int} : sCut (g, .tup (vec n f)) none (some (k : Int)) = some (.own, .tup ((vec n f).take k)) := o_cut_t cut_hi immA_vtake
theorem o_cut_vl {g : Gr} {n k : Nat} {f : Nat → Int} : sCut (g, .tup (vec n f)) (some ((k : Int) + 1)) none = some (.own, .tup ((vec n f).drop (k + 1))) := o_cut_t (by rw [show (k : Int) + 1 = ((k + 1 : Nat) : Int) by omega]; exact cut_lo) immA_vdrop
theorem o_cut_vm1 {g : Gr} {n : Nat} {f : Nat → Int} : sCut (g, .tup (vec n f)) none (some (-1)) = some (.own, .tup ((vec n f).take (n - 1))) := o_cut_t (by rw [cut_m1, vec_len]) immA_vtake
theorem mid_set {n k : Nat} {f : Nat → Int} {z : Int} (h : k < n) : (vec n f).take k ++ [D.int z] ++ (vec n f).drop (k + 1) = vec n (fun i => if i = k then z else f i) := by
  rw [← vec_set, List.set_eq_take_append_cons_drop, if_pos (by rw [vec_len]; exact h), List.append_assoc]
  rfl
local macro_rules | `(tactic| walk_at "op") => `(tactic| with_reducible exact o_cut_lm1n)
local macro_rules | `(tactic| walk_at "op") => `(tactic| with_reducible exact o_cut_vm1)
local macro_rules | `(tactic| walk_at "op") => `(tactic| with_reducible exact o_cut_vl)
local macro_rules | `(tactic| walk_at "op") => `(tactic| with_reducible exact o_cut_vh)
theorem w_l_ends {n : Nat} {rs : List (Nat × Nat)} {h : Nat} {t : Tpa} {Q : Tpa × Bool × D → Prop} (T : Town n rs) (k : Q (t, true, .lst (natsD (ends rs h)))) : wp (ph_l_ends t [townD n rs, .int (h : Int)]) Q := by
  obtain ⟨_, _, T3, T4⟩ := T
  unfold ph_l_ends bd_l_ends
  walk_at "ev"
  refine k_forS (itms_tm fun _ => rfl) ?_
  refine w_for (fun k t' e' => t' = t ∧ ∃ s3 s4, e' = [some (false, townD n rs), some (false, .int (h : Int)), some (true, .lst (natsD (ends (rs.take k) h))), s3, s4]) _ ⟨rfl, none, none, rfl⟩ ?_ ?_
  · rintro i x t' e' hx ⟨rfl, s3, s4, rfl⟩
    obtain ⟨p, hp, rfl⟩ := map_some hx
    have hl := ends_le (rs.take i) h
    have hm : (rs.take i).length ≤ rs.length := by rw [List.length_take]; omega
    have e : natsD (ends (rs.take (i + 1)) h) = natsD (ends (rs.take i) h) ++ natsD (end1 p h) := by rw [ends_take hp]; exact List.map_append
    rw [e]
    apply w_eq (by walk_at "asg")
    walk_at "ev"
    by_cases z1 : p.1 = h <;> by_cases z2 : p.2 = h
    all_goals
      first | refine k_if_t (decide_eq_true z1) ?_ | refine k_if_f (decide_eq_false z1) ?_
      walk_at "ev"
      first | refine k_if_t (decide_eq_true z2) ?_ | refine k_if_f (decide_eq_false z2) ?_
      walk_at "ev"
      refine ⟨rfl, some (true, .int p.1), some (true, .int p.2), ?_⟩
      simp [end1, z1, z2]
  · rintro t' e' ⟨rfl, s3, s4, rfl⟩
    walk_at "ev"
    rw [List.length_map, List.take_length]
    exact k
def Against (rs : List (Nat × Nat)) (q : Nat → Int) (l : List Nat) : Prop := ∀ (k h : Nat), l[k]? = some h → q h < (into rs h (l.take k) : Int)
theorem w_is_number {k : Int} {t : Tpa} {Q : Tpa × Bool × D → Prop} (z : Q (t, true, .bl true)) : wp (ph_is_number t [.int k]) Q := by
  unfold ph_is_number bd_is_number
  walk_at "ev"
  exact z
theorem w_is_rowN {n m : Nat} {l : List Nat} {t : Tpa} {Q : Tpa × Bool × D → Prop} (k : Q (t, true, .bl (decide (l.length = m)))) : wp (ph_is_row t [.tup (natsD l), .int (m : Int)]) Q := by
  unfold ph_is_row bd_is_row
  walk_at "ev"
  by_cases z : l.length = m
  · rw [decide_eq_true z] at k
    refine k_and_t (by rw [List.length_map]; exact decide_eq_true z) ?_
    walk_at "ev"
    refine k_Lc (itmsC_tm (F := fun (k : Nat) => .int (k : Int)) fun _ => rfl) (by walk_at "set") ?_
    refine w_lc_all _ _ (fun _ => .bl true) (fun a m => ?_) ?_
    · apply w_eq (by walk_at "asg")
      walk_at "ev"
      refine w_is_number ?_
      walk_at "ev"
      exact ⟨rfl, rfl⟩
    · walk_at "ev"
      rw [show l.all (fun _ => true) = true from List.all_eq_true.mpr fun _ _ => rfl]
      exact k
  · rw [decide_eq_false z] at k
    refine k_and_f (by rw [List.length_map]; exact decide_eq_false z) ?_
    walk_at "ev"
    exact k
theorem w_is_order {n : Nat} {rs : List (Nat × Nat)} {l : List Nat} {t : Tpa} {Q : Tpa × Bool × D → Prop} (T : Town n rs) (hl : ∀ x ∈ l, x < n) (k : Q (t, true, .bl (decide (l.length = n ∧ l.Nodup)))) : wp (ph_is_order t [.tup (natsD l), townD n rs]) Q := by
  obtain ⟨_, T2, T3, T4⟩ := id T
  unfold ph_is_order bd_is_order
  walk_at "ev"
  refine w_is_rowN (n := n) ?_
  walk_at "ev"
  by_cases z : l.length = n
  · refine k_and_t (decide_eq_true z) ?_
    walk_at "ev"
    rw [nats_ints (l := List.range n)]
    refine k_2b o_eq_il ?_
    walk_at "ev"
    refine Eq.mp (congrArg (fun z => Q (t, true, .bl z)) ?_) k
    rw [Bool.false_xor]
    refine decide_eq_decide.mpr ⟨fun w => ?_, fun w => ⟨z, ?_⟩⟩
    · have p := (nd_perm w.2 hl w.1).map fun (k : Nat) => (k : Int)
      refine sorted_one ((srtI_perm _).trans p) (srtI_sorted _) ?_
      rw [List.pairwise_map]
      exact List.pairwise_lt_range.imp fun h => by omega
    · have p := (srtI_perm (l.map fun (k : Nat) => (k : Int))).symm
      rw [w] at p
      have nd : ((List.range n).map fun (k : Nat) => (k : Int)).Nodup := List.pairwise_map.mpr (List.pairwise_lt_range.imp fun h => by omega)
      have nd2 := p.nodup_iff.mpr nd
      exact (List.pairwise_map.mp nd2).imp fun h w => h (by rw [w])
  · refine k_and_f (decide_eq_false z) ?_
    walk_at "ev"
    rw [decide_eq_false (fun w => z w.1)] at k
    exact k
theorem cok_never : cok 8 (.str "never") = true := by decide +kernel
theorem cok_ended : cok 8 (.str "ended") = true := by decide +kernel
theorem o_str {g g' : Gr} {a b : Str} {neg : Bool} (h1 : cok 8 (.str a) = true) (h2 : cok 8 (.str b) = true) : sEq neg (g, .str a) (g', .str b) = some (.own, .bl (neg ^^ decide (a = b))) := by
  unfold sEq
  dsimp only
  rw [h1, h2, deq_str]; rfl
theorem cok_town : cok 8 (.str "town") = true := by decide +kernel
structure GoodT (n : Nat) (rs : List (Nat × Nat)) : Prop where
  T : Town n rs
  n20 : n ≤ 20
  r60 : rs.length ≤ 60
  asc : ∀ p ∈ rs, p.1 < p.2
  srt : srtP (rs.map castP) = rs.map castP
  con : ∀ x, x < n → Cn rs 0 x
theorem GoodT.cn {n : Nat} {rs : List (Nat × Nat)} (G : GoodT n rs) {b : Nat} (hb : b < n) : ∀ x, x < n → Cn rs b x := fun x hx => (G.con b hb).sm.tr (G.con x hx)
theorem w_is_road {n : Nat} {p : Nat × Nat} {t : Tpa} {Q : Tpa × Bool × D → Prop} (h : p.1 < p.2) (h2 : p.2 < n) (k : Q (t, true, .bl true)) : wp (ph_is_road t [road p, .int (n : Int)]) Q := by
  unfold ph_is_road bd_is_road
  walk_at "ev"
  refine w_is_whole ?_
  walk_at "ev"
  refine k_if_f (by rw [decide_eq_true (by omega)]; rfl) ?_
  walk_at "ev"
  refine w_is_whole ?_
  walk_at "ev"
  rw [decide_eq_true (by omega)]
  exact k
theorem w_is_town {n : Nat} {rs : List (Nat × Nat)} {t : Tpa} {Q : Tpa × Bool × D → Prop} (G : GoodT n rs) (k : Q (t, true, .bl true)) : wp (ph_is_town t [townD n rs]) Q := by
  obtain ⟨T1, T2, T3, T4⟩ := id G.T
  have n20 := G.n20
  have r60 := G.r60
  have imr : imm (.tup (rdsD rs)) = true := immA_rds
  unfold ph_is_town bd_is_town
  walk_at "ev"
  refine k_2b (o_str cok_town cok_town) ?_
  walk_at "ev"
  refine k_cut (show sCut (Gr.own, .tup [.str "town", .int (n : Int), .tup (rdsD rs)]) (some 1) none = some (.own, .tup [.int (n : Int), .tup (rdsD rs)]) from o_cut_t rfl (by show (true && (immA (rdsD rs) && true)) = true; rw [immA_rds]; rfl)) ?_
  walk_at "ev"
  refine w_is_whole ?_
  walk_at "ev"
  refine k_orT_f (by rw [decide_eq_true (by omega)]; rfl) ?_
  walk_at "ev"
  rw [List.length_map]
  refine k_if_f (decide_eq_false (by omega)) ?_
  walk_at "ev"
  refine k_Lc (itmsC_tm (F := road) fun _ => rfl) (by walk_at "set") ?_
  refine w_lc_all rs road (fun _ => .bl true) (fun p m => ?_) ?_
  · apply w_eq (by walk_at "asg")
    walk_at "ev"
    refine w_is_road (G.asc p m) (T4 p m).2.1 ?_
    walk_at "ev"
    exact ⟨rfl, rfl⟩
  walk_at "ev"
  refine k_if_f (by rw [show rs.all (fun _ => true) = true from List.all_eq_true.mpr fun _ _ => rfl]; rfl) ?_
  walk_at "ev"
  refine k_bt (show sSortZ [(Gr.own, .tup (rdsD rs))] = some (.own, .lst (rdsD rs)) from by rw [road_pair, o_sortZ, G.srt]) ?_
  refine k_2b (o_eq_s (d := .lst (rdsD rs)) (cokA_map fun _ _ => rfl) rfl) ?_
  walk_at "ev"
  refine w_reached T2 (by omega) (fun p m => ⟨(T4 p m).1, (T4 p m).2.1⟩) T1 (.inl rfl) ?_
  walk_at "ev"
  rw [List.length_map, comp_len.mpr G.con]
  rw [decide_eq_true rfl]
  exact k
theorem w_is_rowV {n : Nat} {f : Nat → Int} {t : Tpa} {Q : Tpa × Bool × D → Prop} (k : Q (t, true, .bl true)) : wp (ph_is_row t [.tup (vec n f), .int (n : Int)]) Q := by
  unfold ph_is_row bd_is_row
  walk_at "ev"
  refine k_and_t (decide_eq_true vec_len) ?_
  walk_at "ev"
  refine k_Lc (itmsC_tm (l := List.range n) (F := fun k => .int (f k)) fun _ => rfl) (by walk_at "set") ?_
  refine w_lc_all _ _ (fun _ => .bl true) (fun a m => ?_) ?_
  · apply w_eq (by walk_at "asg")
    walk_at "ev"
    refine w_is_number ?_
    walk_at "ev"
    exact ⟨rfl, rfl⟩
  walk_at "ev"
  rw [show (List.range n).all (fun _ => true) = true from List.all_eq_true.mpr fun _ _ => rfl]
  exact k
theorem w_is_purses {n : Nat} {rs : List (Nat × Nat)} {f : Nat → Int} {t : Tpa} {Q : Tpa × Bool × D → Prop} (hf : ∀ h, h < n → (f h).natAbs ≤ 999) (k : Q (t, true, .bl true)) : wp (ph_is_purses t [.tup (vec n f), townD n rs]) Q := by
  unfold ph_is_purses bd_is_purses
  walk_at "ev"
  refine w_is_rowV ?_
  walk_at "ev"
  refine k_Lc (itmsC_tm (l := List.range n) (F := fun k => .int (f k)) fun _ => rfl) (by walk_at "set") ?_
  refine w_lc_all _ _ (fun _ => .bl true) (fun a m => ?_) ?_
  · have := hf a (List.mem_range.mp m)
    apply w_eq (by walk_at "asg")
    walk_at "ev"
    refine k_bt rfl ?_
    walk_at "ev"
    refine ⟨rfl, congrArg (fun b => ((Gr.own, D.bl b) : GD)) (decide_eq_true ?_)⟩
    split <;> omega
  walk_at "ev"
  rw [show (List.range n).all (fun _ => true) = true from List.all_eq_true.mpr fun _ _ => rfl]
  exact k
theorem w_is_script {n : Nat} {rs : List (Nat × Nat)} {f : Nat → Int} {t : Tpa} {Q : Tpa × Bool × D → Prop} (k : Q (t, true, .bl true)) : wp (ph_is_script t [.tup (vec n f), townD n rs]) Q := by
  unfold ph_is_script bd_is_script
  walk_at "ev"
  refine k_if_f (by rw [decide_eq_true vec_len]; rfl) ?_
  walk_at "ev"
  refine k_Lc (itmsC_tm (l := List.range n) (F := fun k => .int (f k)) fun _ => rfl) (by walk_at "set") ?_
  refine w_lc_all _ _ (fun _ => .bl true) (fun a m => ?_) ?_
  · apply w_eq (by walk_at "asg")
    walk_at "ev"
    exact ⟨rfl, rfl⟩
  walk_at "ev"
  rw [show (List.range n).all (fun _ => true) = true from List.all_eq_true.mpr fun _ _ => rfl]
  exact k
theorem w_stands_against {n : Nat} {rs : List (Nat × Nat)} {q : Nat → Int} {l : List Nat} {t : Tpa} {Q : Tpa × Bool × D → Prop} (T : Town n rs) (hl : ∀ x ∈ l, x < n) (ll : l.length < 10000) (k : ∀ b : Bool, (b = true ↔ Against rs q l) → Q (t, true, .bl b)) : wp (ph_stands_against t [townD n rs, .tup (vec n q), .tup (natsD l)]) Q := by
  unfold ph_stands_against bd_stands_against
  walk_at "ev"
  rw [List.length_map]
  refine k_LcRn (by omega) (by walk_at "set") ?_
  refine w_lc_all (List.range l.length) (fun k => .int (0 + (k : Int))) (fun k => .bl (decide (q (l.getD k 0) < (into rs (l.getD k 0) (l.take k) : Int)))) (fun a m => ?_) ?_
  · have ha := List.mem_range.mp m
    have ga : l[a]? = some (l.getD a 0) := by rw [List.getD_eq_getElem?_getD, List.getElem?_eq_getElem ha]; rfl
    have hn := hl _ (List.mem_of_getElem? ga)
    rw [Int.zero_add]
    apply w_eq (by walk_at "asg")
    walk_at "ev"
    refine w_roads_into T (.inr rfl) ?_
    walk_at "ev"
    exact ⟨rfl, rfl⟩
  walk_at "ev"
  refine k _ ?_
  rw [List.all_eq_true]
  constructor
  · intro w a h hh
    have ha := (List.getElem?_eq_some_iff.mp hh).1
    have := of_decide_eq_true (w a (List.mem_range.mpr ha))
    rw [show l.getD a 0 = h from by rw [List.getD_eq_getElem?_getD, hh]; rfl] at this
    exact this
  · intro w a m
    have ha := List.mem_range.mp m
    have ga : l[a]? = some (l.getD a 0) := by rw [List.getD_eq_getElem?_getD, List.getElem?_eq_getElem ha]; rfl
    exact decide_eq_true (w a _ ga)
def pls (n : Nat) (s : Nat → Int) (k : Nat) : Int := s k - minI ((List.range n).map s)
theorem pls_min {n : Nat} {s : Nat → Int} (hn : 0 < n) : minI ((List.range n).map (pls n s)) = 0 := by
  have ne : ∀ f : Nat → Int, (List.range n).map f ≠ [] := fun f w => by
    have := congrArg List.length w
    rw [List.length_map, List.length_range] at this
    exact absurd this (by simp; omega)
  obtain ⟨a1, a2⟩ := minI_ok (ne s)
  obtain ⟨b1, b2⟩ := minI_ok (ne (pls n s))
  obtain ⟨k, hk, e⟩ := List.mem_map.mp a1
  obtain ⟨j, hj, e2⟩ := List.mem_map.mp b1
  have c1 := b2 (pls n s k) (List.mem_map.mpr ⟨k, hk, rfl⟩)
  have c2 := a2 (s j) (List.mem_map.mpr ⟨j, hj, rfl⟩)
  unfold pls at c1 e2
  unfold pls
  omega
theorem aft_pls {n : Nat} {rs : List (Nat × Nat)} {p s : Nat → Int} {h : Nat} : aft rs p (pls n s) h = aft rs p s h := by
  unfold aft
  rw [show pls n s = fun k => s k - minI ((List.range n).map s) from rfl, lap_shift]
theorem vmin_ne {n : Nat} {f : Nat → Int} (hn : 0 < n) : (List.range n).map f ≠ [] := fun w => by
  have := congrArg List.length w
  rw [List.length_map, List.length_range] at this
  exact absurd this (by simp; omega)
theorem w_ended {n : Nat} {rs : List (Nat × Nat)} {p : Nat → Int} {t : Tpa} {Q : Tpa × Bool × D → Prop} (G : GoodT n rs) (hp : ∀ h, h < n → (p h).natAbs ≤ 2 ^ 200)
    (k1 : ∀ s : Nat → Int, (∀ h, h < n → 0 ≤ aft rs p s h) → Q (t, true, .tup [.str "ended", .tup (vec n (pls n s))]))
    (k2 : ∀ (s : Nat → Int) (l : List Nat), aft rs p s 0 < 0 → l.length = n ∧ l.Nodup → (∀ x ∈ l, x < n) → Against rs (aft rs p s) l → Q (t, true, .tup [.str "never", .tup (vec n (pls n s)), .tup (natsD l)])) : wp (ph_ended t [townD n rs, .tup (vec n p)]) Q := by
  obtain ⟨T1, T2, T3, T4⟩ := id G.T
  unfold ph_ended bd_ended
  walk_at "ev"
  refine w_reduced (bank := 0) G.T G.n20 (G.cn T1) T1 hp fun s s0 sound burnt => ?_
  walk_at "ev"
  refine k_2b (o_idx_vec (k := 0) T1) ?_
  walk_at "ev"
  by_cases z : 0 ≤ aft rs p s 0
  · refine k_if_t (decide_eq_true z) ?_
    walk_at "ev"
    refine w_plain T1 ?_
    walk_at "ev"
    exact k1 s fun h hh => (sound h hh).elim (fun w => by rw [w]; exact z) id
  · refine k_if_f (decide_eq_false z) ?_
    walk_at "ev"
    refine w_plain T1 ?_
    walk_at "ev"
    refine w_fire G.T T1 ?_
    walk_at "ev"
    obtain ⟨F, _⟩ := fire_fix (rs := rs) (p := aft rs p s) (bank := 0) T1
    have len : (fireN n rs (aft rs p s) n [0]).length = n := by
      have a1 := nd_len F.nd F.lt
      have a2 := sub_len (l := List.range n) List.nodup_range fun x m => burnt x (List.mem_range.mp m)
      rw [List.length_range] at a2
      omega
    refine k2 s _ (by omega) ⟨len, F.nd⟩ F.lt fun k h hk => ?_
    cases k with
    | zero =>
      rw [F.hd] at hk
      cases hk
      have : (0 : Int) ≤ (into rs 0 (List.take 0 (fireN n rs (aft rs p s) n [0])) : Int) := by omega
      omega
    | succ k => exact F.ok (k + 1) h (by omega) hk
def before (l : List Nat) (h : Nat) : List Nat := l.takeWhile fun x => !decide (x = h)
theorem before_at : ∀ {l : List Nat} {k h : Nat}, l.Nodup → l[k]? = some h → before l h = l.take k
  | [], _, _, _, e => by cases e
  | a :: l, 0, h, _, e => by
    cases e
    unfold before
    rw [List.takeWhile_cons_of_neg (by simp), List.take_zero]
  | a :: l, k + 1, h, nd, e => by
    obtain ⟨n1, n2⟩ := List.nodup_cons.mp nd
    have e' : l[k]? = some h := by simpa using e
    have ne : a ≠ h := fun w => n1 (by rw [w]; exact List.mem_of_getElem? e')
    have ih := before_at n2 e'
    unfold before at ih ⊢
    rw [List.takeWhile_cons_of_pos (by simp [ne]), List.take_succ_cons, ih]
def dpur (rs : List (Nat × Nat)) (l : List Nat) (h : Nat) : Int := (into rs h (before l h) : Int) - 1
structure Ord (n : Nat) (l : List Nat) : Prop where
  len : l.length = n
  nd : l.Nodup
  lt : ∀ x ∈ l, x < n
theorem Ord.all {n : Nat} {l : List Nat} (O : Ord n l) {h : Nat} (hh : h < n) : ∃ k : Nat, l[k]? = some h := by
  have p := nd_perm O.nd O.lt O.len
  obtain ⟨k, hk, e⟩ := List.getElem_of_mem (p.mem_iff.mpr (List.mem_range.mpr hh))
  exact ⟨k, by rw [List.getElem?_eq_getElem hk, e]⟩
theorem take_mem {l : List Nat} {j k x : Nat} (nd : l.Nodup) (hx : l[j]? = some x) : x ∈ l.take k ↔ j < k := by
  constructor
  · intro m
    obtain ⟨i, hi, e⟩ := List.getElem_of_mem m
    rw [List.length_take] at hi
    rw [List.getElem_take] at e
    obtain ⟨hj, e2⟩ := List.getElem?_eq_some_iff.mp hx
    have := (List.getElem_inj nd).mp (e.trans e2.symm)
    omega
  · intro h
    obtain ⟨hj, e⟩ := List.getElem?_eq_some_iff.mp hx
    rw [← e]
    exact List.mem_of_getElem? (i := j) (by rw [List.getElem?_take, if_pos h, List.getElem?_eq_getElem hj])
/-- the first house of those that lend most is in debt -/
theorem dpur_debt {n : Nat} {rs : List (Nat × Nat)} {l : List Nat} (hr : ∀ p ∈ rs, p.1 < n ∧ p.2 < n ∧ p.1 ≠ p.2) (hn : 0 < n) (O : Ord n l) (w : Nat → Int) : ∃ h, h < n ∧ aft rs (dpur rs l) w h < 0 := by
  have mx : ∀ l : List Nat, l ≠ [] → ∃ h ∈ l, ∀ x ∈ l, w x ≤ w h := by
    intro l
    induction l with
    | nil => intro h; exact absurd rfl h
    | cons a l ih =>
      intro _
      by_cases z : l = []
      · subst z
        exact ⟨a, .head _, fun x m => by rw [List.mem_singleton.mp m]; exact Int.le_refl _⟩
      · obtain ⟨h, m, g⟩ := ih z
        by_cases y : w a ≤ w h
        · exact ⟨h, .tail _ m, fun x mx => (List.mem_cons.mp mx).elim (fun e => by rw [e]; exact y) (g x)⟩
        · exact ⟨a, .head _, fun x mx => (List.mem_cons.mp mx).elim (fun e => by rw [e]; exact Int.le_refl _) fun mx => by have := g x mx; omega⟩
  obtain ⟨h0, m0, g0⟩ := mx l fun z => by have := O.len; rw [z] at this; simp at this; omega
  obtain ⟨k, ⟨h, hk, eh⟩, mk⟩ := min_ex (P := fun k => ∃ h, l[k]? = some h ∧ w h = w h0) (by
    obtain ⟨k, hk, e⟩ := List.getElem_of_mem m0
    exact ⟨k, h0, by rw [List.getElem?_eq_getElem hk, e], rfl⟩)
  have hn' := O.lt h (List.mem_of_getElem? hk)
  refine ⟨h, hn', ?_⟩
  have el := ends_lap rs w h
  have g : ∀ E : List Nat, (∀ x ∈ E, x < n) → (E.map w).sum - w h * (E.length : Int) ≤ -((E.filter fun o => decide (o ∈ l.take k)).length : Int) := by
    intro E
    induction E with
    | nil => intro _; simp
    | cons a E ih =>
      intro he
      have ih := ih fun x m => he x (.tail _ m)
      have ha := he a (.head _)
      obtain ⟨j, hj⟩ := O.all ha
      have le := g0 a (List.mem_of_getElem? hj)
      rw [List.map_cons, List.sum_cons, List.length_cons, show ((E.length + 1 : Nat) : Int) = (E.length : Int) + 1 from rfl, Int.mul_add, Int.mul_one]
      by_cases z : a ∈ l.take k
      · have jk := (take_mem O.nd hj).mp z
        have : w a ≠ w h0 := fun e => mk j jk ⟨a, hj, e⟩
        rw [List.filter_cons_of_pos (p := fun o => decide (o ∈ l.take k)) (decide_eq_true z), List.length_cons]
        omega
      · rw [List.filter_cons_of_neg (p := fun o => decide (o ∈ l.take k)) (by rw [decide_eq_false z]; exact Bool.false_ne_true)]
        omega
  have := g _ (ends_lt hr h)
  unfold aft dpur into
  rw [before_at O.nd hk]
  omega
theorem never_debt {n : Nat} {rs : List (Nat × Nat)} {l : List Nat} {q u : Nat → Int} (hr : ∀ p ∈ rs, p.1 < n ∧ p.2 < n ∧ p.1 ≠ p.2) (hn : 0 < n) (O : Ord n l) (hq : ∀ h, h < n → q h ≤ aft rs (dpur rs l) u h) (s : Nat → Int) : ∃ h, h < n ∧ aft rs q s h < 0 := by
  obtain ⟨h, hh, e⟩ := dpur_debt hr hn O fun k => u k + s k
  refine ⟨h, hh, ?_⟩
  have := hq h hh
  rw [← aft_aft] at e
  unfold aft at e this ⊢
  omega
section
local macro_rules | `(tactic| walk_at "imm") => `(tactic| exact immA_rds)
local macro_rules | `(tactic| walk_at "imm") => `(tactic| exact imm_town)
local macro_rules | `(tactic| walk_at "op") => `(tactic| with_reducible exact o_ne_b)
local macro_rules | `(tactic| walk_at "op") => `(tactic| with_reducible exact o_isN)
local macro_rules | `(tactic| walk_at "op") => `(tactic| with_reducible exact o_cut_lm1n)
local macro_rules | `(tactic| walk_at "op") => `(tactic| with_reducible exact o_cut_vm1)
local macro_rules | `(tactic| walk_at "op") => `(tactic| with_reducible exact o_cut_vl)
local macro_rules | `(tactic| walk_at "op") => `(tactic| with_reducible exact o_cut_vh)
theorem w_l_after {n : Nat} {rs : List (Nat × Nat)} {p s : Nat → Int} {t : Tpa} {Q : Tpa × Bool × D → Prop} (T : Town n rs) (k : Q (t, true, .tup (vec n (aft rs p s)))) : wp (ph_l_after t [townD n rs, .tup (vec n p), .tup (vec n s)]) Q := by
  obtain ⟨_, T2, T3, T4⟩ := id T
  unfold ph_l_after bd_l_after
  walk_at "ev"
  refine k_forS (itms_tm fun _ => rfl) ?_
  refine w_for (fun k t' e' => t' = t ∧ ∃ s4 s5, e' = [some (false, townD n rs), some (false, .tup (vec n p)), some (false, .tup (vec n s)), some (true, .lst (vec n (aft (rs.take k) p s))), s4, s5]) _ ⟨rfl, none, none, ?_⟩ ?_ ?_
  · have : vec n (aft (rs.take 0) p s) = vec n p := vec_ext fun k _ => by show p k + 0 = p k; omega
    rw [this]
  · rintro i x t' e' hx ⟨rfl, s4, s5, rfl⟩
    obtain ⟨q, hq, rfl⟩ := map_some hx
    obtain ⟨q1, q2, q3⟩ := T4 q (mem_of_get hq)
    apply w_eq (by walk_at "asg")
    walk_at "ev"
    refine k_setI rfl ⟨_, rfl⟩ rfl (by rw [vec_len]; exact ixN_nat q1) ?_
    rw [vec_set]
    dsimp only [List.set]
    walk_at "ev"
    refine k_setI rfl ⟨_, rfl⟩ rfl (by rw [vec_len]; exact ixN_nat q2) ?_
    rw [vec_set]
    dsimp only [List.set]
    walk_at "ev"
    have e : vec n (aft (rs.take (i + 1)) p s) = vec n (fun k => if k = q.2 then (if q.2 = q.1 then aft (rs.take i) p s q.1 - s q.1 + s q.2 else aft (rs.take i) p s q.2) - s q.2 + s q.1 else if k = q.1 then aft (rs.take i) p s q.1 - s q.1 + s q.2 else aft (rs.take i) p s k) := vec_ext fun k hk => by
      unfold aft
      rw [lap_take hq]
      unfold lap1
      rw [if_neg (Ne.symm q3)]
      by_cases z1 : k = q.2
      · rw [if_pos z1, ← z1, if_neg (by omega), if_pos rfl]
        omega
      · rw [if_neg z1, if_neg (show ¬ q.2 = k by omega)]
        by_cases z2 : k = q.1
        · rw [if_pos z2, ← z2, if_pos rfl]
          omega
        · rw [if_neg z2, if_neg (by omega)]
          omega
    rw [e]
    exact ⟨rfl, _, _, rfl⟩
  · rintro t' e' ⟨rfl, s4, s5, rfl⟩
    rw [List.length_map, List.take_length]
    walk_at "ev"
    exact k
theorem w_pickg {ds : List D} {t : Tpa} {Q : Tpa × Bool × D → Prop} (ht : OkT t) (h0 : 0 < ds.length) (h1 : ds.length < 1000000) (k : ∀ t' d, OkT t' → d ∈ ds → Q (t', imm d, d)) : wp (ph_l_pick t [.tok, .lst ds]) Q := by
  unfold ph_l_pick bd_l_pick
  have go : ∀ {g : Gr} {e : Slots}, g ≠ .pk → K2a sIdx (xCall ph_l_take [(xP 0), (xBt sLen [(xP 1)])]) (Kret (Kfn Q)) (t, e, g, .lst ds) → True := fun _ _ => trivial
  have hi : imm (.lst ds) = false := rfl
  cases hm : immA ds with
  | true =>
    walk_at "ev"
    refine w_takeN ht (by omega) fun t' r ht' hr => ?_
    walk_at "ev"
    have hr' := hr h0
    have e : L2.atI ds (r : Int) = some ds[r] := by rw [Fw.atI_nat hr', List.getElem?_eq_getElem hr']
    have hd := immA_get hm (List.getElem?_eq_getElem hr')
    refine k_2b (o_idx_l e hd) ?_
    walk_at "ev"
    have kk := k t' _ ht' (List.getElem_mem hr')
    rw [hd] at kk
    exact kk
  | false =>
    walk_at "ev"
    refine w_takeN ht (by omega) fun t' r ht' hr => ?_
    walk_at "ev"
    have hr' := hr h0
    have e : L2.atI ds (r : Int) = some ds[r] := by rw [Fw.atI_nat hr', List.getElem?_eq_getElem hr']
    have kk := k t' _ ht' (List.getElem_mem hr')
    cases hd : imm ds[r] with
    | true =>
      refine k_2b (o_idx_l e hd) ?_
      walk_at "ev"
      rw [hd] at kk
      exact kk
    | false =>
      refine k_2b (z := (.frz, ds[r])) (by
        show (L2.atI ds (r : Int)).map (up .frz) = _
        rw [e]
        show some (up .frz ds[r]) = _
        unfold up
        rw [if_neg (by rw [hd]; exact Bool.false_ne_true)]; rfl) ?_
      walk_at "ev"
      rw [hd] at kk
      exact kk
theorem k_crp {τ : Type} {t : τ} {e : Slots} {d : D} {Q : RX τ} (m : imm d = false) (h : Q (t, e, .pk, d)) : Kcr e Q (t, false, d) := by
  show Q (t, e, up .pk d)
  rw [show up .pk d = (.pk, d) from by unfold up; rw [if_neg (by rw [m]; exact Bool.false_ne_true), if_pos rfl]]
  exact h
def OVD : Int ⊕ Nat → D
  | .inl z => .int z
  | .inr 0 => .non
  | .inr 1 => .bl true
  | .inr (_ + 2) => .str "0"
def isI : Int ⊕ Nat → Bool
  | .inl _ => true
  | .inr _ => false
def vecO (n : Nat) (g : Nat → Int ⊕ Nat) : List D := (List.range n).map fun k => OVD (g k)
theorem immO (x : Int ⊕ Nat) : imm (OVD x) = true := by
  rcases x with z | b
  · rfl
  · rcases b with _ | _ | b <;> rfl
theorem immA_vecO {n : Nat} {g : Nat → Int ⊕ Nat} : immA (vecO n g) = true := immA_map fun _ _ => immO _
theorem vecO_len {n : Nat} {g : Nat → Int ⊕ Nat} : (vecO n g).length = n := by unfold vecO; rw [List.length_map, List.length_range]
theorem w_l_scriptO {n : Nat} {g : Nat → Int ⊕ Nat} {t : Tpa} {Q : Tpa × Bool × D → Prop} (k : Q (t, true, .bl ((List.range n).all fun i => isI (g i)))) : wp (ph_l_script t [.tup (vecO n g), .int (n : Int)]) Q := by
  have imo := immA_vecO (n := n) (g := g)
  have im1 : imm (.tup (vecO n g)) = true := imo
  unfold ph_l_script bd_l_script
  walk_at "ev"
  refine k_and_t (by rw [vecO_len]; exact decide_eq_true rfl) ?_
  walk_at "ev"
  refine k_Lc (itmsC_tm (l := List.range n) (F := fun k => OVD (g k)) fun _ => immO _) (by walk_at "set") ?_
  refine w_lc_pure _ _ (fun i => OVD (g i)) (fun i => !isI (g i)) (fun a m => ?_) ?_
  · apply w_eq (by walk_at "asg")
    rcases hg : g a with z | b
    · walk_at "ev"
      exact ⟨rfl, rfl, fun w => nomatch w⟩
    · rcases b with _ | _ | b
      · walk_at "ev"
        refine ⟨rfl, rfl, fun _ => ?_⟩
        walk_at "ev"
        exact ⟨rfl, rfl⟩
      · walk_at "ev"
        refine ⟨rfl, rfl, fun _ => ?_⟩
        walk_at "ev"
        exact ⟨rfl, rfl⟩
      · walk_at "ev"
        refine ⟨rfl, rfl, fun _ => ?_⟩
        walk_at "ev"
        exact ⟨rfl, rfl⟩
  walk_at "ev"
  rw [List.length_map] 
  have e : decide (((((List.range n).filter fun i => !isI (g i)).length : Nat) : Int) = 0) = (List.range n).all fun i => isI (g i) := by
    cases h : (List.range n).all fun i => isI (g i) with
    | true =>
      refine decide_eq_true ?_
      rw [List.filter_eq_nil_iff.mpr fun i m => by rw [List.all_eq_true.mp h i m]; exact Bool.false_ne_true]
      rfl
    | false =>
      refine decide_eq_false fun z => ?_
      have : ((List.range n).filter fun i => !isI (g i)) = [] := List.length_eq_zero_iff.mp (by omega)
      obtain ⟨i, m, w⟩ := List.all_eq_false.mp h
      exact List.filter_eq_nil_iff.mp this i m (by rw [Bool.eq_false_iff.mpr w]; rfl)
  rw [e]
  exact k
theorem w_is_scriptO {n : Nat} {rs : List (Nat × Nat)} {g : Nat → Int ⊕ Nat} {t : Tpa} {Q : Tpa × Bool × D → Prop} (k : Q (t, true, .bl ((List.range n).all fun i => isI (g i)))) : wp (ph_is_script t [.tup (vecO n g), townD n rs]) Q := by
  have imo := immA_vecO (n := n) (g := g)
  have im1 : imm (.tup (vecO n g)) = true := imo
  unfold ph_is_script bd_is_script
  walk_at "ev"
  refine k_if_f (by rw [decide_eq_true vecO_len]; rfl) ?_
  walk_at "ev"
  refine k_Lc (itmsC_tm (l := List.range n) (F := fun k => OVD (g k)) fun _ => immO _) (by walk_at "set") ?_
  refine w_lc_all _ _ (fun i => .bl (isI (g i))) (fun a m => ?_) ?_
  · apply w_eq (by walk_at "asg")
    rcases hg : g a with z | b
    · walk_at "ev"
      exact ⟨rfl, rfl⟩
    · rcases b with _ | _ | b
      · walk_at "ev"
        exact ⟨rfl, rfl⟩
      · walk_at "ev"
        exact ⟨rfl, rfl⟩
      · walk_at "ev"
        exact ⟨rfl, rfl⟩
  walk_at "ev"
  exact k
theorem vec_O {n : Nat} {f : Nat → Int} : vec n f = vecO n fun k => .inl (f k) := rfl
theorem allI {n : Nat} {f : Nat → Int} : ((List.range n).all fun k => isI ((fun k => (.inl (f k) : Int ⊕ Nat)) k)) = true := List.all_eq_true.mpr fun _ _ => rfl
section
theorem w_l_scriptN {n : Nat} {l : List Nat} {t : Tpa} {Q : Tpa × Bool × D → Prop} (k : Q (t, true, .bl (decide (l.length = n)))) : wp (ph_l_script t [.tup (natsD l), .int (n : Int)]) Q := by
  have iml : imm (.tup (natsD l)) = true := immA_nats
  unfold ph_l_script bd_l_script
  walk_at "ev"
  rw [List.length_map]
  by_cases z : l.length = n
  · refine k_and_t (decide_eq_true (by omega)) ?_
    walk_at "ev"
    refine k_Lc (itmsC_tm (l := l) (F := fun k => .int (k : Int)) fun _ => rfl) (by walk_at "set") ?_
    refine w_lc_pure _ _ (fun k => .int (k : Int)) (fun _ => false) (fun a m => ?_) ?_
    · apply w_eq (by walk_at "asg")
      walk_at "ev"
      exact ⟨rfl, rfl, fun w => nomatch w⟩
    walk_at "ev"
    rw [List.filter_eq_nil_iff.mpr fun i m => Bool.false_ne_true]
    rw [decide_eq_true z] at k
    exact k
  · refine k_and_f (decide_eq_false (by omega)) ?_
    walk_at "ev"
    rw [decide_eq_false z] at k
    exact k
theorem asc_iff {n : Nat} {l : List Nat} (hl : ∀ x ∈ l, x < n) (z : l.length = n) : srtI (l.map fun k : Nat => (k : Int)) = ((List.range n).map fun k : Nat => (k : Int)) ↔ l.Nodup := by
  refine ⟨fun w => ?_, fun w => ?_⟩
  · have p := (srtI_perm (l.map fun (k : Nat) => (k : Int))).symm
    rw [w] at p
    have nd : ((List.range n).map fun (k : Nat) => (k : Int)).Nodup := List.pairwise_map.mpr (List.pairwise_lt_range.imp fun h => by omega)
    have nd2 := p.nodup_iff.mpr nd
    exact (List.pairwise_map.mp nd2).imp fun h w => h (by rw [w])
  · have p := (nd_perm w hl z).map fun (k : Nat) => (k : Int)
    refine sorted_one ((srtI_perm _).trans p) (srtI_sorted _) ?_
    rw [List.pairwise_map]
    exact List.pairwise_lt_range.imp fun h => by omega
theorem w_l_against {n : Nat} {rs : List (Nat × Nat)} {q : Nat → Int} {l : List Nat} {t : Tpa} {Q : Tpa × Bool × D → Prop} (T : Town n rs) (hl : ∀ x ∈ l, x < n) (k : ∀ r : Bool, (r = true ↔ ((l.length = n ∧ l.Nodup) ∧ Against rs q l)) → Q (t, true, .bl r)) : wp (ph_l_against t [townD n rs, .tup (vec n q), .tup (natsD l)]) Q := by
  obtain ⟨T1, T2, T3, T4⟩ := id T
  have iml : imm (.tup (natsD l)) = true := immA_nats
  have no : ¬ ((l.length = n ∧ l.Nodup) ∧ Against rs q l) → Q (t, true, .bl false) := fun h => k false ⟨fun z => (nomatch z), fun z => absurd z h⟩
  unfold ph_l_against bd_l_against
  walk_at "ev"
  refine w_l_scriptN ?_
  walk_at "ev"
  by_cases z : l.length = n
  · refine k_orT_f (by rw [decide_eq_true z]; rfl) ?_
    walk_at "ev"
    rw [nats_ints (l := List.range n)]
    refine k_2b o_eq_il ?_
    walk_at "ev"
    by_cases nd : l.Nodup
    · refine k_if_f (by rw [decide_eq_true ((asc_iff hl z).mpr nd)]; rfl) ?_
      walk_at "ev"
      rw [List.length_map]
      refine k_forRn (by omega) ?_
      refine w_for (fun k t' e' => t' = t ∧ (∃ s3, e' = [some (false, townD n rs), some (false, .tup (vec n q)), some (false, .tup (natsD l)), s3, none]) ∧ ∀ (j h : Nat), j < k → l[j]? = some h → q h < (into rs h (l.take j) : Int)) _ ⟨rfl, ⟨_, rfl⟩, fun j h h1 => by omega⟩ ?_ ?_
      · rintro i u t' e' hx ⟨rfl, ⟨s3, rfl⟩, G⟩
        obtain ⟨hi, rfl⟩ := rgD_some hx
        rw [Int.zero_add]
        have hk : l[i]? = some (l[i]'(by omega)) := List.getElem?_eq_getElem _
        have hm := hl _ (List.mem_of_getElem? hk)
        generalize l[i]'(by omega) = c at hk hm
        apply w_eq (by walk_at "asg")
        walk_at "ev"
        refine w_l_ends T ?_
        walk_at "ev"
        refine k_Lc (itmsC_lm (F := fun (k : Nat) => .int (k : Int)) fun _ => rfl) (by walk_at "set") ?_
        refine w_lc_pure _ _ (fun (k : Nat) => .int (k : Int)) (fun o => decide (o ∈ l.take i)) (fun a m => ?_) ?_
        · apply w_eq (by walk_at "asg")
          walk_at "ev"
          refine ⟨rfl, rfl, fun _ => ?_⟩
          walk_at "ev"
          exact ⟨rfl, rfl⟩
        walk_at "ev"
        rw [List.length_map, show ((ends rs c).filter fun o => decide (o ∈ l.take i)).length = into rs c (l.take i) from rfl]
        by_cases w : (into rs c (l.take i) : Int) ≤ q c
        · refine k_if_t (decide_eq_true w) ?_
          walk_at "ev"
          exact no fun S => by have := S.2 i c hk; omega
        · refine k_if_f (decide_eq_false w) ?_
          walk_at "ev"
          refine ⟨rfl, ⟨_, rfl⟩, fun j h h1 hj => ?_⟩
          by_cases y : j = i
          · subst y
            rw [hk] at hj
            cases hj
            omega
          · exact G j h (by omega) hj
      · rintro t' e' ⟨rfl, ⟨s3, rfl⟩, G⟩
        rw [rgD_len] at G
        walk_at "ev"
        exact k true ⟨fun _ => ⟨⟨z, nd⟩, fun j h hj => G j h (List.getElem?_eq_some_iff.mp hj).1 hj⟩, fun _ => rfl⟩
    · refine k_if_t (by rw [decide_eq_false fun w => nd ((asc_iff hl z).mp w)]; rfl) ?_
      walk_at "ev"
      exact no fun w => nd w.1.2
  · refine k_orT_t (by rw [decide_eq_false z]; rfl) ?_
    walk_at "ev"
    exact no fun w => z w.1.1
end
section
local macro_rules | `(tactic| walk_at "e1") => `(tactic| ((with_reducible apply w_xPf); rfl; assumption))
local macro_rules | `(tactic| walk_at "op") => `(tactic| exact o_idx_t rfl rfl)
local macro_rules | `(tactic| walk_at "op") => `(tactic| exact o_idx_t rfl (by assumption))
theorem im_2 {w : Str} {r : D} (h : imm r = true) : imm (.tup [.str w, r]) = true := by
  show (true && (imm r && true)) = true
  rw [h]; rfl
theorem im_3 {w : Str} {r a : D} (h : imm r = true) (h' : imm a = true) : imm (.tup [.str w, r, a]) = true := by
  show (true && (imm r && (imm a && true))) = true
  rw [h, h']; rfl
theorem im_4 {w : Str} {r a b : D} (h : imm r = true) (h' : imm a = true) (h2 : imm b = true) : imm (.tup [.str w, r, a, b]) = true := by
  show (true && (imm r && (imm a && (imm b && true)))) = true
  rw [h, h', h2]; rfl
theorem im_F {w : Str} {r : D} {ds : List D} : imm (.tup [.str w, r, .lst ds]) = false := by
  show (true && (imm r && (false && true))) = false
  rw [Bool.false_and, Bool.and_false]; rfl
def TL (n : Nat) (tail : List D) : Prop := tail = [] ∨ (∃ l, tail = [.tup (natsD l)] ∧ ∀ x ∈ l, x < n) ∨ (∃ l, tail = [.tup (natsD l), .non]) ∨ ∃ l, tail = [.lst (natsD l)]
theorem cok_open : cok 8 (.str "open") = true := by decide +kernel
theorem o_head {g g' : Gr} {xs : List Int} (h : xs ≠ []) : sIdx (g, .lst ((srtI xs).map D.int)) (g', .int 0) = some (.own, .int (minI xs)) := by
  obtain ⟨sl, es⟩ := srtI_min h
  rw [es]
  exact o_idx_l atI_zero rfl
def ER (n : Nat) (rs : List (Nat × Nat)) (p f : Nat → Int) (w : Str) (tail : List D) : Prop := minI ((List.range n).map f) = 0 ∧ ((w = Str.ofString "ended" ∧ tail = [] ∧ 0 ≤ minI ((List.range n).map (aft rs p f))) ∨ (w = Str.ofString "never" ∧ ∃ l, tail = [.tup (natsD l)] ∧ (l.length = n ∧ l.Nodup) ∧ Against rs (aft rs p f) l))
theorem nats_one {l l' : List Nat} (h : [D.tup (natsD l)] = [D.tup (natsD l')]) : l = l' := by
  have e : natsD l = natsD l' := by
    injection h with h1
    injection h1
  exact (List.map_inj_right fun a b w => by injection w with w; exact Int.ofNat.inj w).mp e
def WW (w : Str) : Prop := w = Str.ofString "ended" ∨ w = Str.ofString "never" ∨ w = Str.ofString "open"
section
variable {n : Nat} {rs : List (Nat × Nat)} {p f : Nat → Int} {g : Nat → Int ⊕ Nat} {w : Str} {tail : List D} {t : Tpa} {Q : Tpa × Bool × D → Prop}
theorem l_end_int (T : Town n rs) (hw : WW w) (ht : TL n tail) (k : ∀ b : Bool, (b = true ↔ ER n rs p f w tail) → Q (t, true, .bl b)) : wp (ph_l_end_right t [townD n rs, .tup (vec n p), .tup (.str w :: .tup (vec n f) :: tail)]) Q := by
  have no : ¬ ER n rs p f w tail → Q (t, true, .bl false) := fun h => k false ⟨fun z => (nomatch z), fun z => absurd z h⟩
  have imo : imm (.tup (vec n f)) = true := imm_vec
  have iml : ∀ {l : List Nat}, imm (.tup (natsD l)) = true := immA_nats
  unfold ph_l_end_right bd_l_end_right
  rcases ht with rfl | ⟨l, rfl, hl⟩ | ⟨l, rfl⟩ | ⟨l, rfl⟩
  · have hi := im_2 (w := w) imo
    walk_at "ev"
    refine w_l_scriptO (g := fun k => .inl (f k)) ?_
    rw [allI]
    walk_at "ev"
    refine k_2b (o_head (vmin_ne T.1)) ?_
    walk_at "ev"
    by_cases z : minI ((List.range n).map f) = 0
    · refine k_if_f (by rw [decide_eq_true z]; rfl) ?_
      walk_at "ev"
      refine w_l_after T ?_
      walk_at "ev"
      rcases hw with rfl | rfl | rfl
      · refine k_2b (o_str cok_ended cok_ended) ?_
        walk_at "ev"
        refine k_2b (o_head (vmin_ne T.1)) ?_
        walk_at "ev"
        exact k _ ⟨fun y => ⟨z, .inl ⟨rfl, rfl, of_decide_eq_true y⟩⟩, fun y => y.2.elim (fun y => decide_eq_true y.2.2) fun y => nomatch y.2.choose_spec.1⟩
      · refine k_2b (o_str cok_never cok_ended) ?_
        walk_at "ev"
        refine k_2b (o_str cok_never cok_never) ?_
        walk_at "ev"
        refine no fun zz => ?_
        rcases zz.2 with ⟨e, e2, _⟩ | ⟨e, l', e2, _⟩ <;> first | exact absurd e (by decide +kernel) | cases e2 | exact absurd (congrArg List.length e2) (by simp)
      · refine k_2b (o_str cok_open cok_ended) ?_
        walk_at "ev"
        refine k_2b (o_str cok_open cok_never) ?_
        walk_at "ev"
        refine no fun zz => ?_
        rcases zz.2 with ⟨e, e2, _⟩ | ⟨e, l', e2, _⟩ <;> first | exact absurd e (by decide +kernel) | cases e2 | exact absurd (congrArg List.length e2) (by simp)
    · refine k_if_t (by rw [decide_eq_false z]; rfl) ?_
      walk_at "ev"
      exact no fun y => z y.1
  · have hi := im_3 (w := w) imo (iml (l := l))
    walk_at "ev"
    refine w_l_scriptO (g := fun k => .inl (f k)) ?_
    rw [allI]
    walk_at "ev"
    refine k_2b (o_head (vmin_ne T.1)) ?_
    walk_at "ev"
    by_cases z : minI ((List.range n).map f) = 0
    · refine k_if_f (by rw [decide_eq_true z]; rfl) ?_
      walk_at "ev"
      refine w_l_after T ?_
      walk_at "ev"
      rcases hw with rfl | rfl | rfl
      · refine k_2b (o_str cok_ended cok_ended) ?_
        walk_at "ev"
        refine no fun zz => ?_
        rcases zz.2 with ⟨e, e2, _⟩ | ⟨e, l', e2, _⟩ <;> first | exact absurd e (by decide +kernel) | cases e2 | exact absurd (congrArg List.length e2) (by simp)
      · refine k_2b (o_str cok_never cok_ended) ?_
        walk_at "ev"
        refine k_2b (o_str cok_never cok_never) ?_
        walk_at "ev"
        refine w_l_against T hl fun r hr => ?_
        walk_at "ev"
        exact k r ⟨fun y => ⟨z, .inr ⟨rfl, l, rfl, hr.mp y⟩⟩, fun y => hr.mpr (y.2.elim (fun y => nomatch y.2.1) fun y => by
          obtain ⟨_, l', e, h⟩ := y
          rw [nats_one e]; exact h)⟩
      · refine k_2b (o_str cok_open cok_ended) ?_
        walk_at "ev"
        refine k_2b (o_str cok_open cok_never) ?_
        walk_at "ev"
        refine no fun zz => ?_
        rcases zz.2 with ⟨e, e2, _⟩ | ⟨e, l', e2, _⟩ <;> first | exact absurd e (by decide +kernel) | cases e2 | exact absurd (congrArg List.length e2) (by simp)
    · refine k_if_t (by rw [decide_eq_false z]; rfl) ?_
      walk_at "ev"
      exact no fun y => z y.1
  · have hi := im_4 (w := w) (b := .non) imo (iml (l := l)) rfl
    walk_at "ev"
    refine w_l_scriptO (g := fun k => .inl (f k)) ?_
    rw [allI]
    walk_at "ev"
    refine k_2b (o_head (vmin_ne T.1)) ?_
    walk_at "ev"
    by_cases z : minI ((List.range n).map f) = 0
    · refine k_if_f (by rw [decide_eq_true z]; rfl) ?_
      walk_at "ev"
      refine w_l_after T ?_
      walk_at "ev"
      rcases hw with rfl | rfl | rfl
      · refine k_2b (o_str cok_ended cok_ended) ?_
        walk_at "ev"
        refine no fun zz => ?_
        rcases zz.2 with ⟨e, e2, _⟩ | ⟨e, l', e2, _⟩ <;> first | exact absurd e (by decide +kernel) | cases e2 | exact absurd (congrArg List.length e2) (by simp)
      · refine k_2b (o_str cok_never cok_ended) ?_
        walk_at "ev"
        refine k_2b (o_str cok_never cok_never) ?_
        walk_at "ev"
        refine no fun zz => ?_
        rcases zz.2 with ⟨e, e2, _⟩ | ⟨e, l', e2, _⟩ <;> first | exact absurd e (by decide +kernel) | cases e2 | exact absurd (congrArg List.length e2) (by simp)
      · refine k_2b (o_str cok_open cok_ended) ?_
        walk_at "ev"
        refine k_2b (o_str cok_open cok_never) ?_
        walk_at "ev"
        refine no fun zz => ?_
        rcases zz.2 with ⟨e, e2, _⟩ | ⟨e, l', e2, _⟩ <;> first | exact absurd e (by decide +kernel) | cases e2 | exact absurd (congrArg List.length e2) (by simp)
    · refine k_if_t (by rw [decide_eq_false z]; rfl) ?_
      walk_at "ev"
      exact no fun y => z y.1
  · have hi := im_F (w := w) (r := .tup (vec n f)) (ds := natsD l)
    walk_at "ev"
    refine w_l_scriptO (g := fun k => .inl (f k)) ?_
    rw [allI]
    walk_at "ev"
    refine k_2b (o_head (vmin_ne T.1)) ?_
    walk_at "ev"
    by_cases z : minI ((List.range n).map f) = 0
    · refine k_if_f (by rw [decide_eq_true z]; rfl) ?_
      walk_at "ev"
      refine w_l_after T ?_
      walk_at "ev"
      rcases hw with rfl | rfl | rfl
      · refine k_2b (o_str cok_ended cok_ended) ?_
        walk_at "ev"
        refine no fun zz => ?_
        rcases zz.2 with ⟨e, e2, _⟩ | ⟨e, l', e2, _⟩ <;> first | exact absurd e (by decide +kernel) | cases e2 | exact absurd (congrArg List.length e2) (by simp)
      · refine k_2b (o_str cok_never cok_ended) ?_
        walk_at "ev"
        refine k_2b (o_str cok_never cok_never) ?_
        walk_at "ev"
        refine k_2b (z := (.frz, .lst (natsD l))) rfl ?_
        walk_at "ev"
        unfold ph_l_against bd_l_against
        walk_at "ev"
        unfold ph_l_script bd_l_script
        walk_at "ev"
        refine no fun zz => ?_
        rcases zz.2 with ⟨e, e2, _⟩ | ⟨e, l', e2, _⟩ <;> first | exact absurd e (by decide +kernel) | cases e2 | exact absurd (congrArg List.length e2) (by simp)
      · refine k_2b (o_str cok_open cok_ended) ?_
        walk_at "ev"
        refine k_2b (o_str cok_open cok_never) ?_
        walk_at "ev"
        refine no fun zz => ?_
        rcases zz.2 with ⟨e, e2, _⟩ | ⟨e, l', e2, _⟩ <;> first | exact absurd e (by decide +kernel) | cases e2 | exact absurd (congrArg List.length e2) (by simp)
    · refine k_if_t (by rw [decide_eq_false z]; rfl) ?_
      walk_at "ev"
      exact no fun y => z y.1
theorem a_end_int (G : GoodT n rs) (hp : ∀ h, h < n → (p h).natAbs ≤ 999) (hw : WW w) (ht : TL n tail) (k : ∀ b : Bool, (b = true ↔ ER n rs p f w tail) → Q (t, true, .bl b)) : wp (ph_accepts_end t [townD n rs, .tup (vec n p), .tup (.str w :: .tup (vec n f) :: tail)]) Q := by
  have T := G.T
  have no : ¬ ER n rs p f w tail → Q (t, true, .bl false) := fun h => k false ⟨fun z => (nomatch z), fun z => absurd z h⟩
  have imo : imm (.tup (vec n f)) = true := imm_vec
  have iml : ∀ {l : List Nat}, imm (.tup (natsD l)) = true := immA_nats
  unfold ph_accepts_end bd_accepts_end
  rcases ht with rfl | ⟨l, rfl, hl⟩ | ⟨l, rfl⟩ | ⟨l, rfl⟩
  · have hi := im_2 (w := w) imo
    walk_at "ev"
    refine w_is_town G ?_
    walk_at "ev"
    refine w_is_purses hp ?_
    walk_at "ev"
    refine w_is_scriptO (g := fun k => .inl (f k)) ?_
    rw [allI]
    walk_at "ev"
    refine k_bt (o_min_t intsD_vec (vmin_ne T.1)) ?_
    walk_at "ev"
    by_cases z : minI ((List.range n).map f) = 0
    · refine k_if_f (by rw [decide_eq_true z]; rfl) ?_
      walk_at "ev"
      refine w_after T ?_
      walk_at "ev"
      rcases hw with rfl | rfl | rfl
      · refine k_2b (o_str cok_ended cok_ended) ?_
        walk_at "ev"
        refine k_bt (o_min_t intsD_vec (vmin_ne T.1)) ?_
        walk_at "ev"
        exact k _ ⟨fun y => ⟨z, .inl ⟨rfl, rfl, of_decide_eq_true y⟩⟩, fun y => y.2.elim (fun y => decide_eq_true y.2.2) fun y => nomatch y.2.choose_spec.1⟩
      · refine k_2b (o_str cok_never cok_ended) ?_
        walk_at "ev"
        refine k_2b (o_str cok_never cok_never) ?_
        walk_at "ev"
        refine no fun zz => ?_
        rcases zz.2 with ⟨e, e2, _⟩ | ⟨e, l', e2, _⟩ <;> first | exact absurd e (by decide +kernel) | cases e2 | exact absurd (congrArg List.length e2) (by simp)
      · refine k_2b (o_str cok_open cok_ended) ?_
        walk_at "ev"
        refine k_2b (o_str cok_open cok_never) ?_
        walk_at "ev"
        refine no fun zz => ?_
        rcases zz.2 with ⟨e, e2, _⟩ | ⟨e, l', e2, _⟩ <;> first | exact absurd e (by decide +kernel) | cases e2 | exact absurd (congrArg List.length e2) (by simp)
    · refine k_if_t (by rw [decide_eq_false z]; rfl) ?_
      walk_at "ev"
      exact no fun y => z y.1
  · have hi := im_3 (w := w) imo (iml (l := l))
    walk_at "ev"
    refine w_is_town G ?_
    walk_at "ev"
    refine w_is_purses hp ?_
    walk_at "ev"
    refine w_is_scriptO (g := fun k => .inl (f k)) ?_
    rw [allI]
    walk_at "ev"
    refine k_bt (o_min_t intsD_vec (vmin_ne T.1)) ?_
    walk_at "ev"
    by_cases z : minI ((List.range n).map f) = 0
    · refine k_if_f (by rw [decide_eq_true z]; rfl) ?_
      walk_at "ev"
      refine w_after T ?_
      walk_at "ev"
      rcases hw with rfl | rfl | rfl
      · refine k_2b (o_str cok_ended cok_ended) ?_
        walk_at "ev"
        refine no fun zz => ?_
        rcases zz.2 with ⟨e, e2, _⟩ | ⟨e, l', e2, _⟩ <;> first | exact absurd e (by decide +kernel) | cases e2 | exact absurd (congrArg List.length e2) (by simp)
      · refine k_2b (o_str cok_never cok_ended) ?_
        walk_at "ev"
        refine k_2b (o_str cok_never cok_never) ?_
        walk_at "ev"
        refine w_is_order T hl ?_
        walk_at "ev"
        by_cases y : l.length = n ∧ l.Nodup
        · refine k_if_f (by rw [decide_eq_true y]; rfl) ?_
          walk_at "ev"
          refine w_stands_against T hl (by have := T.2.1; omega) fun r hr => ?_
          walk_at "ev"
          exact k r ⟨fun x => ⟨z, .inr ⟨rfl, l, rfl, y, hr.mp x⟩⟩, fun x => hr.mpr (x.2.elim (fun x => nomatch x.2.1) fun x => by
            obtain ⟨_, l', e, h⟩ := x
            rw [nats_one e]; exact h.2)⟩
        · refine k_if_t (by rw [decide_eq_false y]; rfl) ?_
          walk_at "ev"
          refine no fun x => x.2.elim (fun x => nomatch x.2.1) fun x => ?_
          obtain ⟨_, l', e, h⟩ := x
          rw [nats_one e] at y
          exact y h.1
      · refine k_2b (o_str cok_open cok_ended) ?_
        walk_at "ev"
        refine k_2b (o_str cok_open cok_never) ?_
        walk_at "ev"
        refine no fun zz => ?_
        rcases zz.2 with ⟨e, e2, _⟩ | ⟨e, l', e2, _⟩ <;> first | exact absurd e (by decide +kernel) | cases e2 | exact absurd (congrArg List.length e2) (by simp)
    · refine k_if_t (by rw [decide_eq_false z]; rfl) ?_
      walk_at "ev"
      exact no fun y => z y.1
  · have hi := im_4 (w := w) (b := .non) imo (iml (l := l)) rfl
    walk_at "ev"
    refine w_is_town G ?_
    walk_at "ev"
    refine w_is_purses hp ?_
    walk_at "ev"
    refine w_is_scriptO (g := fun k => .inl (f k)) ?_
    rw [allI]
    walk_at "ev"
    refine k_bt (o_min_t intsD_vec (vmin_ne T.1)) ?_
    walk_at "ev"
    by_cases z : minI ((List.range n).map f) = 0
    · refine k_if_f (by rw [decide_eq_true z]; rfl) ?_
      walk_at "ev"
      refine w_after T ?_
      walk_at "ev"
      rcases hw with rfl | rfl | rfl
      · refine k_2b (o_str cok_ended cok_ended) ?_
        walk_at "ev"
        refine no fun zz => ?_
        rcases zz.2 with ⟨e, e2, _⟩ | ⟨e, l', e2, _⟩ <;> first | exact absurd e (by decide +kernel) | cases e2 | exact absurd (congrArg List.length e2) (by simp)
      · refine k_2b (o_str cok_never cok_ended) ?_
        walk_at "ev"
        refine k_2b (o_str cok_never cok_never) ?_
        walk_at "ev"
        refine no fun zz => ?_
        rcases zz.2 with ⟨e, e2, _⟩ | ⟨e, l', e2, _⟩ <;> first | exact absurd e (by decide +kernel) | cases e2 | exact absurd (congrArg List.length e2) (by simp)
      · refine k_2b (o_str cok_open cok_ended) ?_
        walk_at "ev"
        refine k_2b (o_str cok_open cok_never) ?_
        walk_at "ev"
        refine no fun zz => ?_
        rcases zz.2 with ⟨e, e2, _⟩ | ⟨e, l', e2, _⟩ <;> first | exact absurd e (by decide +kernel) | cases e2 | exact absurd (congrArg List.length e2) (by simp)
    · refine k_if_t (by rw [decide_eq_false z]; rfl) ?_
      walk_at "ev"
      exact no fun y => z y.1
  · have hi := im_F (w := w) (r := .tup (vec n f)) (ds := natsD l)
    walk_at "ev"
    refine w_is_town G ?_
    walk_at "ev"
    refine w_is_purses hp ?_
    walk_at "ev"
    refine w_is_scriptO (g := fun k => .inl (f k)) ?_
    rw [allI]
    walk_at "ev"
    refine k_bt (o_min_t intsD_vec (vmin_ne T.1)) ?_
    walk_at "ev"
    by_cases z : minI ((List.range n).map f) = 0
    · refine k_if_f (by rw [decide_eq_true z]; rfl) ?_
      walk_at "ev"
      refine w_after T ?_
      walk_at "ev"
      rcases hw with rfl | rfl | rfl
      · refine k_2b (o_str cok_ended cok_ended) ?_
        walk_at "ev"
        refine no fun zz => ?_
        rcases zz.2 with ⟨e, e2, _⟩ | ⟨e, l', e2, _⟩ <;> first | exact absurd e (by decide +kernel) | cases e2 | exact absurd (congrArg List.length e2) (by simp)
      · refine k_2b (o_str cok_never cok_ended) ?_
        walk_at "ev"
        refine k_2b (o_str cok_never cok_never) ?_
        walk_at "ev"
        refine k_2b (z := (.frz, .lst (natsD l))) rfl ?_
        walk_at "ev"
        unfold ph_is_order bd_is_order
        walk_at "ev"
        unfold ph_is_row bd_is_row
        walk_at "ev"
        refine no fun zz => ?_
        rcases zz.2 with ⟨e, e2, _⟩ | ⟨e, l', e2, _⟩ <;> first | exact absurd e (by decide +kernel) | cases e2 | exact absurd (congrArg List.length e2) (by simp)
      · refine k_2b (o_str cok_open cok_ended) ?_
        walk_at "ev"
        refine k_2b (o_str cok_open cok_never) ?_
        walk_at "ev"
        refine no fun zz => ?_
        rcases zz.2 with ⟨e, e2, _⟩ | ⟨e, l', e2, _⟩ <;> first | exact absurd e (by decide +kernel) | cases e2 | exact absurd (congrArg List.length e2) (by simp)
    · refine k_if_t (by rw [decide_eq_false z]; rfl) ?_
      walk_at "ev"
      exact no fun y => z y.1
end
end
end
section
local macro_rules | `(tactic| walk_at "imm") => `(tactic| exact immA_rds)
local macro_rules | `(tactic| walk_at "imm") => `(tactic| exact imm_town)
local macro_rules | `(tactic| walk_at "op") => `(tactic| with_reducible exact o_ne_b)
local macro_rules | `(tactic| walk_at "op") => `(tactic| with_reducible exact o_isN)
local macro_rules | `(tactic| walk_at "op") => `(tactic| with_reducible exact o_cut_lm1n)
local macro_rules | `(tactic| walk_at "op") => `(tactic| with_reducible exact o_cut_vm1)
local macro_rules | `(tactic| walk_at "op") => `(tactic| with_reducible exact o_cut_vl)
local macro_rules | `(tactic| walk_at "op") => `(tactic| with_reducible exact o_cut_vh)
theorem fm_len {α β : Type} {f : α → List β} {c : Nat} : ∀ {l : List α}, (∀ a ∈ l, (f a).length ≤ c) → (l.flatMap f).length ≤ l.length * c
  | [], _ => Nat.zero_le _
  | a :: l, h => by
    rw [List.flatMap_cons, List.length_append, List.length_cons, Nat.add_mul, Nat.one_mul]
    have := h a (.head _)
    have := fm_len (l := l) fun x m => h x (.tail _ m)
    omega
theorem rg_m1 {g : Gr} {m : Nat} (h : m < 1000000) : rgOf [(g, .int ((m : Int) - 1))] = some (0, m - 1) := by
  cases m with
  | zero => rfl
  | succ m => rw [show ((m + 1 : Nat) : Int) - 1 = (m : Int) by omega]; exact rgOf_n (by omega)
abbrev rowsD (ls : List (List Nat)) : List D := ls.map fun l => .tup (natsD l)
theorem immA_rows {ls : List (List Nat)} : immA (rowsD ls) = true := immA_map fun _ _ => immA_nats
def tk (c : Nat) : Nat → List (List Nat)
  | 0 => [[]]
  | k + 1 => (tk c k).flatMap fun r => (List.range (c - r.sum + 1)).map fun x => r ++ [x]
def takL (n c : Nat) : List (List Nat) := (tk c (n - 1)).map fun r => r ++ [c - r.sum]
theorem tk_mem {c : Nat} : ∀ {k : Nat} {r : List Nat}, r ∈ tk c k ↔ r.length = k ∧ r.sum ≤ c
  | 0, r => by
    show r ∈ [[]] ↔ _
    rw [List.mem_singleton]
    constructor
    · rintro rfl; exact ⟨rfl, Nat.zero_le _⟩
    · rintro ⟨h, _⟩; exact List.length_eq_zero_iff.mp h
  | k + 1, r => by
    show r ∈ (tk c k).flatMap _ ↔ _
    rw [List.mem_flatMap]
    constructor
    · rintro ⟨q, hq, m⟩
      obtain ⟨x, hx, rfl⟩ := List.mem_map.mp m
      obtain ⟨h1, h2⟩ := tk_mem.mp hq
      have := List.mem_range.mp hx
      rw [List.length_append, List.sum_append, List.length_singleton, List.sum_cons, List.sum_nil]
      omega
    · rintro ⟨h1, h2⟩
      have ne : r ≠ [] := fun z => by rw [z] at h1; cases h1
      have e := List.dropLast_concat_getLast ne
      have el := congrArg List.length e
      have es := congrArg List.sum e
      rw [List.length_append, List.length_singleton, h1] at el
      rw [List.sum_append, List.sum_cons, List.sum_nil] at es
      refine ⟨r.dropLast, tk_mem.mpr ⟨by omega, by omega⟩, List.mem_map.mpr ⟨r.getLast ne, List.mem_range.mpr (by omega), e⟩⟩
theorem takL_mem {n c : Nat} (hn : 0 < n) {r : List Nat} : r ∈ takL n c ↔ r.length = n ∧ r.sum = c := by
  unfold takL
  rw [List.mem_map]
  constructor
  · rintro ⟨q, hq, rfl⟩
    obtain ⟨h1, h2⟩ := tk_mem.mp hq
    rw [List.length_append, List.sum_append, List.length_singleton, List.sum_cons, List.sum_nil]
    omega
  · rintro ⟨h1, h2⟩
    have ne : r ≠ [] := fun z => by rw [z] at h1; simp at h1; omega
    have e := List.dropLast_concat_getLast ne
    have el := congrArg List.length e
    have es := congrArg List.sum e
    rw [List.length_append, List.length_singleton, h1] at el
    rw [List.sum_append, List.sum_cons, List.sum_nil] at es
    refine ⟨r.dropLast, tk_mem.mpr ⟨by omega, by omega⟩, ?_⟩
    rw [show c - r.dropLast.sum = r.getLast ne by omega]
    exact e
theorem tk_len {c : Nat} : ∀ k, (tk c k).length ≤ (c + 1) ^ k
  | 0 => Nat.le_refl 1
  | k + 1 => by
    refine Nat.le_trans (fm_len (c := c + 1) fun r _ => ?_) ?_
    · rw [List.length_map, List.length_range]; omega
    · rw [Nat.pow_succ]
      exact Nat.mul_le_mul (tk_len k) (Nat.le_refl _)
theorem cast_sum : ∀ l : List Nat, (castL l).sum = ((l.sum : Nat) : Int)
  | [] => rfl
  | a :: l => by
    show ((a : Int) :: castL l).sum = _
    rw [List.sum_cons, cast_sum l, List.sum_cons]; rfl
theorem mem_le_sum : ∀ {l : List Nat} {a : Nat}, a ∈ l → a ≤ l.sum
  | b :: l, a, m => by
    rw [List.sum_cons]
    rcases List.mem_cons.mp m with rfl | m
    · omega
    · have := mem_le_sum m
      omega
theorem w_takings {n c : Nat} {t : Tpa} {Q : Tpa × Bool × D → Prop} (hn : 0 < n) (n13 : n ≤ 13) (c3 : c ≤ 3) (k : Q (t, true, .lst (rowsD (takL n c)))) : wp (ph_takings t [.int (n : Int), .int (c : Int)]) Q := by
  have lb : ∀ k, k ≤ 12 → (tk c k).length ≤ 16777216 := fun k hk => by
    refine Nat.le_trans (tk_len k) (Nat.le_trans (Nat.pow_le_pow_left (by omega : c + 1 ≤ 4) k) (Nat.le_trans (Nat.pow_le_pow_right (by decide) hk) (by decide)))
  unfold ph_takings bd_takings
  walk_at "ev"
  refine k_forR (rg_m1 (by omega)) ?_
  refine w_for (fun i t' e' => t' = t ∧ ∃ s3, e' = [some (false, .int (n : Int)), some (false, .int (c : Int)), some (true, .lst (rowsD (tk c i))), s3, none, none]) _ ⟨rfl, _, rfl⟩ ?_ ?_
  · rintro i x t' e' hx ⟨rfl, s3, rfl⟩
    obtain ⟨hi, rfl⟩ := rgD_some hx
    have hi' : i < n - 1 := hi
    apply w_eq (by walk_at "asg")
    walk_at "ev"
    have ef : ((tk c i).flatMap fun r => (List.range (c - r.sum + 1)).map fun x => D.tup (natsD (r ++ [x]))) = rowsD (tk c (i + 1)) := by
      unfold rowsD
      show _ = ((tk c i).flatMap _).map _
      rw [List.map_flatMap]
      refine congrArg (fun f => (tk c i).flatMap f) (funext fun r => ?_)
      rw [List.map_map]; rfl
    refine k_Lc2 (itmsC_lm (l := tk c i) (F := fun r => .tup (natsD r)) fun _ => immA_nats) (by walk_at "set") (w_lc2 (tk c i) (fun r => .tup (natsD r)) (fun r => (List.range (c - r.sum + 1)).map fun x => D.tup (natsD (r ++ [x]))) (fun r m => ?_)) ?_ ?_
    · obtain ⟨h1, h2⟩ := tk_mem.mp m
      have imr : imm (.tup (natsD r)) = true := immA_nats
      apply w_eq (by walk_at "asg")
      refine w_innR ?_
      walk_at "ev"
      rw [show (List.map Nat.cast r : List Int).sum = ((r.sum : Nat) : Int) from cast_sum r]
      refine ⟨(0, c - r.sum + 1), ?_, by show c - r.sum + 1 ≤ 16777216; omega, rfl, ?_⟩
      · rw [show (c : Int) - ((r.sum : Nat) : Int) + 1 = ((c - r.sum + 1 : Nat) : Int) by omega]
        exact rgOf_n (by omega)
      have g := w_lcI (τ := Tpa) (t := t') (asg := stI 5) (cd := xYes) (elt := x2 sPlus (xP 4) (xTup [(xV 5)])) (ew := [some (false, .int (n : Int)), some (false, .int (c : Int)), some (true, .lst (rowsD (tk c i))), some (true, .int (0 + (i : Int))), some (true, .tup (natsD r)), none]) (List.range (c - r.sum + 1)) (fun (k : Nat) => .int (0 + (k : Int))) (fun x => .tup (natsD (r ++ [x]))) (fun _ => true) (fun b _ => by
        rw [Int.zero_add]
        apply w_eq (by walk_at "asg")
        refine ⟨_, rfl, rfl, rfl, fun _ => ?_⟩
        walk_at "ev"
        refine k_2b (o_cat_n (by omega)) ?_
        exact ⟨rfl, rfl, immA_nats⟩)
      rw [List.filter_eq_self.mpr fun _ _ => rfl] at g
      exact g
    · rw [ef, List.length_map]
      exact lb _ (by omega)
    rw [ef]
    walk_at "ev"
    exact ⟨rfl, _, rfl⟩
  · rintro t' e' ⟨rfl, s3, rfl⟩
    rw [show (rgD (0, n - 1).1 (0, n - 1).2).length = n - 1 from rgD_len]
    walk_at "ev"
    refine k_Lc (itmsC_lm (l := tk c (n - 1)) (F := fun r => .tup (natsD r)) fun _ => immA_nats) (by walk_at "set") ?_
    refine w_lc_all (tk c (n - 1)) _ (fun r => .tup (natsD (r ++ [c - r.sum]))) (fun r m => ?_) ?_
    · obtain ⟨h1, h2⟩ := tk_mem.mp m
      have imr : imm (.tup (natsD r)) = true := immA_nats
      apply w_eq (by walk_at "asg")
      walk_at "ev"
      rw [show (List.map Nat.cast r : List Int).sum = ((r.sum : Nat) : Int) from cast_sum r, show (c : Int) - ((r.sum : Nat) : Int) = ((c - r.sum : Nat) : Int) by omega]
      refine k_2b (o_cat_n (by omega)) ?_
      exact ⟨rfl, rfl⟩
    rw [show (tk c (n - 1)).map (fun r => D.tup (natsD (r ++ [c - r.sum]))) = rowsD (takL n c) from by unfold rowsD takL; rw [List.map_map]; rfl]
    walk_at "ev"
    exact k
def Win (n : Nat) (rs : List (Nat × Nat)) (q : Nat → Int) : Prop := ∃ s : Nat → Int, ∀ h, h < n → 0 ≤ aft rs q s h
noncomputable def winB (n : Nat) (rs : List (Nat × Nat)) (q : Nat → Int) : Bool := @decide (Win n rs q) (Classical.propDecidable _)
theorem winB_iff {n : Nat} {rs : List (Nat × Nat)} {q : Nat → Int} : winB n rs q = true ↔ Win n rs q := ⟨fun w => @of_decide_eq_true _ (Classical.propDecidable _) w, fun w => @decide_eq_true _ (Classical.propDecidable _) w⟩
structure Good0 (n : Nat) (rs : List (Nat × Nat)) : Prop where
  T : Town n rs
  n20 : n ≤ 20
  con : ∀ x, x < n → Cn rs 0 x
/-- behind the search: no debts, or an order that stands against -/
theorem red_cases {n : Nat} {rs : List (Nat × Nat)} {q s : Nat → Int} (G : Good0 n rs) (sound : ∀ h, h < n → h = 0 ∨ 0 ≤ aft rs q s h) (burnt : ∀ x, x < n → x ∈ fireN n rs (aft rs q s) n [0]) : (0 ≤ aft rs q s 0 ∧ Win n rs q) ∨ (aft rs q s 0 < 0 ∧ ∃ l, Ord n l ∧ ∀ h, h < n → aft rs q s h ≤ dpur rs l h) := by
  obtain ⟨T1, T2, T3, T4⟩ := id G.T
  by_cases z : 0 ≤ aft rs q s 0
  · exact .inl ⟨z, s, fun h hh => (sound h hh).elim (fun w => by rw [w]; exact z) id⟩
  · right
    refine ⟨by omega, fireN n rs (aft rs q s) n [0], ?_, ?_⟩
    · obtain ⟨F, _⟩ := fire_fix (rs := rs) (p := aft rs q s) (bank := 0) T1
      have len : (fireN n rs (aft rs q s) n [0]).length = n := by
        have a1 := nd_len F.nd F.lt
        have a2 := sub_len (l := List.range n) List.nodup_range fun x m => burnt x (List.mem_range.mp m)
        rw [List.length_range] at a2
        omega
      exact ⟨len, F.nd, F.lt⟩
    · intro h hh
      obtain ⟨F, _⟩ := fire_fix (rs := rs) (p := aft rs q s) (bank := 0) T1
      obtain ⟨k, hk, e⟩ := List.getElem_of_mem (burnt h hh)
      have gk : (fireN n rs (aft rs q s) n [0])[k]? = some h := by rw [List.getElem?_eq_getElem hk, e]
      unfold dpur
      rw [before_at F.nd gk]
      cases k with
      | zero =>
        rw [F.hd] at gk
        cases gk
        have : (0 : Int) ≤ (into rs 0 (List.take 0 (fireN n rs (aft rs q s) n [0])) : Int) := by omega
        omega
      | succ k =>
        have := F.ok (k + 1) h (by omega) gk
        omega
theorem no_win {n : Nat} {rs : List (Nat × Nat)} {q s : Nat → Int} {l : List Nat} (G : Good0 n rs) (O : Ord n l) (h : ∀ h, h < n → aft rs q s h ≤ dpur rs l h) : ¬ Win n rs q := by
  rintro ⟨s', w⟩
  obtain ⟨x, hx, e⟩ := never_debt G.T.2.2.2 G.T.1 O (q := q) (u := fun k => - s k) (fun x hx => by
    have := h x hx
    unfold aft at this ⊢
    rw [lap_neg]
    omega) s'
  have := w x hx
  omega
theorem w_is_ended {n : Nat} {rs : List (Nat × Nat)} {q : Nat → Int} {t : Tpa} {Q : Tpa × Bool × D → Prop} (G : Good0 n rs) (hq : ∀ h, h < n → (q h).natAbs ≤ 2 ^ 200) (k : Q (t, true, .bl (winB n rs q))) : wp (ph_is_ended t [townD n rs, .tup (vec n q)]) Q := by
  obtain ⟨T1, T2, T3, T4⟩ := id G.T
  unfold ph_is_ended bd_is_ended
  walk_at "ev"
  refine w_reduced (bank := 0) G.T G.n20 G.con T1 hq fun s s0 sound burnt => ?_
  have imv : imm (.tup (vec n (aft rs q s))) = true := imm_vec
  walk_at "ev"
  refine k_2b (o_idx_vec (k := 0) T1) ?_
  walk_at "ev"
  rcases red_cases G sound burnt with ⟨z, w⟩ | ⟨z, l, O, w⟩
  · rw [winB_iff.mpr w] at k
    rw [decide_eq_true z]
    exact k
  · rw [show winB n rs q = false from Bool.eq_false_iff.mpr fun e => no_win G O w (winB_iff.mp e)] at k
    rw [decide_eq_false (by omega)]
    exact k
def Bad (n : Nat) (rs : List (Nat × Nat)) (p : Nat → Int) (c : Nat) : Prop := ∃ r : List Nat, r.length = n ∧ r.sum = c ∧ ¬ Win n rs fun k => p k - ((r.getD k 0 : Nat) : Int)
def RankIs (n : Nat) (rs : List (Nat × Nat)) (p : Nat → Int) (m : Nat) (r : Int) : Prop := (∃ k, k ≤ m ∧ Bad n rs p k ∧ (∀ j, j < k → ¬ Bad n rs p j) ∧ r = (k : Int) - 1) ∨ ((∀ k, k ≤ m → ¬ Bad n rs p k) ∧ r = (m : Int))
theorem row_vecN {n : Nat} {r : List Nat} (h : r.length = n) : natsD r = vec n fun k => ((r.getD k 0 : Nat) : Int) := by
  unfold vec natsD
  refine List.ext_getElem? fun i => ?_
  rw [List.getElem?_map, List.getElem?_map]
  by_cases hi : i < n
  · rw [List.getElem?_range hi, List.getElem?_eq_getElem (by omega), Option.map_some, Option.map_some]; dsimp only; rw [List.getD_eq_getElem?_getD, List.getElem?_eq_getElem (by omega)]; rfl
  · rw [List.getElem?_eq_none (by omega), List.getElem?_eq_none (by rw [List.length_range]; omega)]; rfl
theorem w_rank {n m : Nat} {rs : List (Nat × Nat)} {p : Nat → Int} {t : Tpa} {Q : Tpa × Bool × D → Prop} (G : Good0 n rs) (n13 : n ≤ 13) (m3 : m ≤ 3) (hp : ∀ h, h < n → (p h).natAbs ≤ 1000) (k : ∀ r, RankIs n rs p m r → Q (t, true, .int r)) : wp (ph_rank t [townD n rs, .tup (vec n p), .int (m : Int)]) Q := by
  obtain ⟨T1, T2, T3, T4⟩ := id G.T
  unfold ph_rank bd_rank
  walk_at "ev"
  rw [show (m : Int) + 1 = ((m + 1 : Nat) : Int) from rfl]
  refine k_forRn (by omega) ?_
  refine w_for (fun i t' e' => t' = t ∧ (∀ j, j < i → ¬ Bad n rs p j) ∧ ∃ s3, e' = [some (false, townD n rs), some (false, .tup (vec n p)), some (false, .int (m : Int)), s3, none]) _ ⟨rfl, fun j h => by omega, _, rfl⟩ ?_ ?_
  · rintro i x t' e' hx ⟨rfl, hj, s3, rfl⟩
    obtain ⟨hi, rfl⟩ := rgD_some hx
    rw [Int.zero_add]
    apply w_eq (by walk_at "asg")
    walk_at "ev"
    refine w_takings T1 n13 (by omega) ?_
    walk_at "ev"
    refine k_Lc (itmsC_lm (l := takL n i) (F := fun r => .tup (natsD r)) fun _ => immA_nats) (by walk_at "set") ?_
    refine w_lc_all (takL n i) _ (fun r => .bl (winB n rs fun k => p k - ((r.getD k 0 : Nat) : Int))) (fun r mr => ?_) ?_
    · obtain ⟨r1, r2⟩ := (takL_mem T1).mp mr
      have imr : imm (.tup (natsD r)) = true := immA_nats
      apply w_eq (by walk_at "asg")
      walk_at "ev"
      rw [row_vecN r1]
      refine w_less T2 ?_
      walk_at "ev"
      refine w_is_ended G (fun h hh => ?_) ?_
      · have h1 := hp h hh
        have h2 : r.getD h 0 ≤ r.sum := by
          rw [List.getD_eq_getElem?_getD, List.getElem?_eq_getElem (by omega)]
          exact mem_le_sum (List.getElem_mem _)
        have : (1100 : Nat) ≤ 2 ^ 200 := by decide
        omega
      walk_at "ev"
      exact ⟨rfl, rfl⟩
    walk_at "ev"
    have bad_iff : ((takL n i).all fun r => winB n rs fun k => p k - ((r.getD k 0 : Nat) : Int)) = false ↔ Bad n rs p i := by
      rw [List.all_eq_false]
      constructor
      · rintro ⟨r, mr, w⟩
        obtain ⟨r1, r2⟩ := (takL_mem T1).mp mr
        exact ⟨r, r1, r2, fun z => w (winB_iff.mpr z)⟩
      · rintro ⟨r, r1, r2, w⟩
        exact ⟨r, (takL_mem T1).mpr ⟨r1, r2⟩, fun z => w (winB_iff.mp z)⟩
    cases hb : (takL n i).all fun r => winB n rs fun k => p k - ((r.getD k 0 : Nat) : Int) with
    | false =>
      refine k_if_t rfl ?_
      walk_at "ev"
      exact k _ (.inl ⟨i, by omega, bad_iff.mp hb, hj, rfl⟩)
    | true =>
      refine k_if_f rfl ?_
      walk_at "ev"
      refine ⟨rfl, fun j h => ?_, _, rfl⟩
      by_cases z : j = i
      · rw [z]
        intro w
        rw [bad_iff.mpr w] at hb
        cases hb
      · exact hj j (by omega)
  · rintro t' e' ⟨rfl, hj, s3, rfl⟩
    rw [rgD_len] at hj
    walk_at "ev"
    exact k _ (.inr ⟨fun j h => hj j (by omega), rfl⟩)
def cutp (u : Nat → Int) (k : Int) (p : Nat × Nat) : Int := if k ≤ u p.1 then (if k ≤ u p.2 then 0 else u p.1 - u p.2) else (if k ≤ u p.2 then u p.2 - u p.1 else 0)
theorem cutp_nn {u : Nat → Int} {k : Int} {p : Nat × Nat} : 0 ≤ cutp u k p := by unfold cutp; split <;> split <;> omega
theorem cut_sum {n : Nat} {u : Nat → Int} {k : Int} : ∀ {rs : List (Nat × Nat)}, (∀ p ∈ rs, p.1 < n ∧ p.2 < n ∧ p.1 ≠ p.2) → ((List.range n).map fun h => if k ≤ u h then -lap rs u h else 0).sum = (rs.map (cutp u k)).sum
  | [], _ => sum_zero _ _ fun a _ => by
    split
    · rfl
    · rfl
  | q :: rs, hr => by
    obtain ⟨q1, q2, q3⟩ := hr q (.head _)
    have ih := cut_sum (u := u) (k := k) fun p m => hr p (.tail _ m)
    rw [List.map_cons, List.sum_cons, ← ih]
    have e : ((List.range n).map fun h => if k ≤ u h then -lap (q :: rs) u h else 0) = (List.range n).map fun h => ((if q.1 = h then (if k ≤ u q.1 then u q.1 - u q.2 else 0) else 0) + (if q.2 = h then (if k ≤ u q.2 then u q.2 - u q.1 else 0) else 0)) + (if k ≤ u h then -lap rs u h else 0) := List.map_congr_left fun h _ => by
      rw [lap_cons]
      unfold lap1
      by_cases a : q.1 = h
      · by_cases b : q.2 = h
        · exact absurd (a.trans b.symm) q3
        · subst a
          rw [if_pos rfl, if_neg b, if_pos rfl, if_neg b]
          split <;> omega
      · by_cases b : q.2 = h
        · subst b
          rw [if_neg a, if_pos rfl, if_neg a, if_pos rfl]
          split <;> omega
        · rw [if_neg a, if_neg b, if_neg a, if_neg b]
          split <;> omega
    rw [e, sum_map_add, sum_map_add, sum_at n q.1 _ q1, sum_at n q.2 _ q2]
    have : (if k ≤ u q.1 then u q.1 - u q.2 else 0) + (if k ≤ u q.2 then u q.2 - u q.1 else 0) = cutp u k q := by
      unfold cutp
      split <;> split <;> omega
    rw [this]
theorem sum_geP {α : Type} {f : α → Int} : ∀ {l : List α}, (∀ x ∈ l, 0 ≤ f x) → ∀ {a : α}, a ∈ l → f a ≤ (l.map f).sum ∧ 0 ≤ (l.map f).sum
  | x :: l, h, a, m => by
    rw [List.map_cons, List.sum_cons]
    have hx := h x (.head _)
    have nn : 0 ≤ (l.map f).sum := by
      cases l with
      | nil => exact Int.le_refl _
      | cons y l => exact (sum_geP (fun z m => h z (.tail _ m)) (.head _)).2
    rcases List.mem_cons.mp m with rfl | m
    · omega
    · have := (sum_geP (fun z m => h z (.tail _ m)) m).1
      omega
theorem cut_gap {n bank : Nat} {rs : List (Nat × Nat)} {u : Nat → Int} {k c : Int} {h : Nat} (hr : ∀ p ∈ rs, p.1 < n ∧ p.2 < n ∧ p.1 ≠ p.2) (C : Cn rs bank h) (u0 : u bank = 0) (k1 : 1 ≤ k) (hk : k ≤ u h)
    (hc : ((List.range n).map fun h => if k ≤ u h then -lap rs u h else 0).sum ≤ c) : ∃ g, g < n ∧ u g < k ∧ k - c ≤ u g := by
  rw [cut_sum hr] at hc
  have ex : ∃ p ∈ rs, ¬ (¬ k ≤ u p.1 ↔ ¬ k ≤ u p.2) := Classical.byContradiction fun w => by
    have cl : ClR rs fun x => ¬ k ≤ u x := fun p m => Classical.byContradiction fun z => w ⟨p, m, z⟩
    exact C _ cl (by rw [u0]; omega) hk
  obtain ⟨p, m, np⟩ := ex
  have le : cutp u k p ≤ c := Int.le_trans (sum_geP (l := rs) (f := cutp u k) (fun _ _ => cutp_nn) m).1 hc
  obtain ⟨p1, p2, _⟩ := hr p m
  unfold cutp at le
  by_cases a : k ≤ u p.1
  · by_cases b : k ≤ u p.2
    · exact absurd ⟨fun z => absurd a z, fun z => absurd b z⟩ np
    · rw [if_pos a, if_neg b] at le
      exact ⟨p.2, p2, by omega, by omega⟩
  · by_cases b : k ≤ u p.2
    · rw [if_neg a, if_pos b] at le
      exact ⟨p.1, p1, by omega, by omega⟩
    · exact absurd ⟨fun _ => b, fun _ => a⟩ np
theorem filt_lt {α : Type} {P P' : α → Bool} : ∀ {l : List α}, (∀ x ∈ l, P x = true → P' x = true) → (∃ x ∈ l, P' x = true ∧ P x = false) → (l.filter P).length < (l.filter P').length
  | [], _, h => by obtain ⟨x, m, _⟩ := h; cases m
  | a :: l, s, h => by
    have le : (l.filter P).length ≤ (l.filter P').length := by
      clear h
      induction l with
      | nil => exact Nat.le_refl _
      | cons b l ih =>
        have ih := ih fun x m => s x (by
          rcases List.mem_cons.mp m with m | m
          · rw [m]; exact .head _
          · exact .tail _ (.tail _ m))
        have sb := s b (.tail _ (.head _))
        cases e : P b with
        | true => rw [List.filter_cons_of_pos e, List.filter_cons_of_pos (sb e), List.length_cons, List.length_cons]; omega
        | false =>
          rw [List.filter_cons_of_neg (by rw [e]; exact Bool.false_ne_true)]
          cases e' : P' b with
          | true => rw [List.filter_cons_of_pos e', List.length_cons]; omega
          | false => rw [List.filter_cons_of_neg (by rw [e']; exact Bool.false_ne_true)]; exact ih
    have sa := s a (.head _)
    obtain ⟨x, m, px', px⟩ := h
    rcases List.mem_cons.mp m with rfl | m
    · rw [List.filter_cons_of_pos px', List.filter_cons_of_neg (by rw [px]; exact Bool.false_ne_true), List.length_cons]; omega
    · have ih := filt_lt (l := l) (fun y m => s y (.tail _ m)) ⟨x, m, px', px⟩
      cases e : P a with
      | true => rw [List.filter_cons_of_pos e, List.filter_cons_of_pos (sa e), List.length_cons, List.length_cons]; omega
      | false =>
        rw [List.filter_cons_of_neg (by rw [e]; exact Bool.false_ne_true)]
        cases e' : P' a with
        | true => rw [List.filter_cons_of_pos e', List.length_cons]; omega
        | false => rw [List.filter_cons_of_neg (by rw [e']; exact Bool.false_ne_true)]; exact ih
theorem cut_max {n bank : Nat} {rs : List (Nat × Nat)} {u : Nat → Int} {c : Int} (hr : ∀ p ∈ rs, p.1 < n ∧ p.2 < n ∧ p.1 ≠ p.2) (C : ∀ x, x < n → Cn rs bank x) (u0 : u bank = 0) (un : ∀ h, h < n → 0 ≤ u h) (c0 : 0 ≤ c)
    (hc : ∀ k : Int, 1 ≤ k → ((List.range n).map fun h => if k ≤ u h then -lap rs u h else 0).sum ≤ c) : ∀ h, h < n → u h ≤ c * n := by
  have g : ∀ v h, h < n → u h = ((v : Nat) : Int) → (v : Int) ≤ c * (((List.range n).filter fun x => decide (u x < (v : Int))).length : Int) := by
    intro v
    induction v using Nat.strongRecOn with
    | _ v ih =>
      intro h hh e
      by_cases v0 : v = 0
      · subst v0
        exact Int.mul_nonneg c0 (by omega)
      obtain ⟨g, hg, lt, ge⟩ := cut_gap (k := (v : Int)) hr (C h hh) u0 (by omega) (by omega) (hc v (by omega))
      obtain ⟨w, hw⟩ : ∃ w : Nat, u g = (w : Int) := ⟨(u g).toNat, by have := un g hg; omega⟩
      have i1 := ih w (by omega) g hg hw
      have f : ((List.range n).filter fun x => decide (u x < (w : Int))).length < ((List.range n).filter fun x => decide (u x < (v : Int))).length := filt_lt (fun x _ p => decide_eq_true (by have := of_decide_eq_true p; omega)) ⟨g, List.mem_range.mpr hg, decide_eq_true lt, decide_eq_false (by omega)⟩
      have m := Int.mul_le_mul_of_nonneg_left (show (((List.range n).filter fun x => decide (u x < (w : Int))).length : Int) + 1 ≤ (((List.range n).filter fun x => decide (u x < (v : Int))).length : Int) by omega) c0
      rw [Int.mul_add, Int.mul_one] at m
      omega
  intro h hh
  have a := g (u h).toNat h hh (by have := un h hh; omega)
  have b : (((List.range n).filter fun x => decide (u x < ((u h).toNat : Int))).length : Int) ≤ (n : Int) := by
    have := List.length_filter_le (fun x => decide (u x < ((u h).toNat : Int))) (List.range n)
    rw [List.length_range] at this
    omega
  have m := Int.mul_le_mul_of_nonneg_left b c0
  have := un h hh
  omega
theorem cut_tot {n bank : Nat} {rs : List (Nat × Nat)} {u : Nat → Int} {c : Int} (hr : ∀ p ∈ rs, p.1 < n ∧ p.2 < n ∧ p.1 ≠ p.2) (C : ∀ x, x < n → Cn rs bank x) (u0 : u bank = 0) (un : ∀ h, h < n → 0 ≤ u h) (c0 : 0 ≤ c)
    (hc : ∀ k : Int, 1 ≤ k → ((List.range n).map fun h => if k ≤ u h then -lap rs u h else 0).sum ≤ c) : ((List.range n).map u).sum ≤ (n : Int) * (c * n) := by
  have m := cut_max hr C u0 un c0 hc
  have g : ∀ l : List Nat, (∀ x ∈ l, u x ≤ c * n) → (l.map u).sum ≤ (l.length : Int) * (c * n) := by
    intro l
    induction l with
    | nil => intro _; rw [List.length_nil]; show (0 : Int) ≤ 0 * _; omega
    | cons a l ih =>
      intro h
      rw [List.map_cons, List.sum_cons, List.length_cons, Int.natCast_add, Int.add_mul]
      have := ih fun x m => h x (.tail _ m)
      have := h a (.head _)
      omega
  have := g (List.range n) fun x mx => m x (List.mem_range.mp mx)
  rwa [List.length_range] at this
/-- what bounds the turns of the law's own reduced -/
def cB (n : Nat) (rs : List (Nat × Nat)) (p : Nat → Int) : Int := ((List.range n).map fun h => ((ends rs h).length : Int) + ((p h).natAbs : Int)).sum
theorem sum_leP {α : Type} {f g : α → Int} : ∀ {l : List α}, (∀ x ∈ l, f x ≤ g x) → (l.map f).sum ≤ (l.map g).sum
  | [], _ => Int.le_refl _
  | a :: l, h => by
    rw [List.map_cons, List.map_cons, List.sum_cons, List.sum_cons]
    have := h a (.head _)
    have := sum_leP fun x m => h x (List.mem_cons_of_mem a m)
    omega
theorem cB_nn {n : Nat} {rs : List (Nat × Nat)} {p : Nat → Int} : 0 ≤ cB n rs p := by
  have := sum_leP (l := List.range n) (f := fun _ => (0 : Int)) (g := fun h => ((ends rs h).length : Int) + ((p h).natAbs : Int)) fun x _ => by omega
  rw [sum_zero _ _ fun _ _ => rfl] at this
  exact this
theorem cB_le {n B : Nat} {rs : List (Nat × Nat)} {p : Nat → Int} (hr : ∀ p ∈ rs, p.1 < n ∧ p.2 < n ∧ p.1 ≠ p.2) (hp : ∀ h, h < n → (p h).natAbs ≤ B) : cB n rs p ≤ 2 * (rs.length : Int) + (n : Int) * (B : Int) := by
  have e1 : ((List.range n).map fun h => ((ends rs h).length : Int)).sum = 2 * (rs.length : Int) := by
    clear hp
    induction rs with
    | nil => exact sum_zero _ _ fun _ _ => rfl
    | cons q rs ih =>
      obtain ⟨q1, q2, q3⟩ := hr q (.head _)
      have ih := ih fun p m => hr p (.tail _ m)
      have e : ((List.range n).map fun h => ((ends (q :: rs) h).length : Int)) = (List.range n).map fun h => ((if q.1 = h then 1 else 0) + (if q.2 = h then 1 else 0)) + ((ends rs h).length : Int) := List.map_congr_left fun h _ => by
        unfold ends
        rw [List.flatMap_cons, List.length_append]
        have : ((end1 q h).length : Int) = (if q.1 = h then 1 else 0) + (if q.2 = h then 1 else 0) := by
          unfold end1
          by_cases a : q.1 = h <;> by_cases b : q.2 = h <;> simp [a, b]
        omega
      rw [e, sum_map_add, sum_map_add, sum_at n q.1 _ q1, sum_at n q.2 _ q2, ih, List.length_cons]
      omega
  have e2 : ((List.range n).map fun h => ((p h).natAbs : Int)).sum ≤ (n : Int) * (B : Int) := by
    have := sum_leP (l := List.range n) (f := fun h => ((p h).natAbs : Int)) (g := fun _ => (B : Int)) fun x m => by have := hp x (List.mem_range.mp m); omega
    have c : ∀ l : List Nat, (l.map fun _ => (B : Int)).sum = (l.length : Int) * (B : Int) := by
      intro l
      induction l with
      | nil => show (0 : Int) = 0 * _; omega
      | cons a l ih => rw [List.map_cons, List.sum_cons, ih, List.length_cons, Int.natCast_add, Int.add_mul]; omega
    rw [c, List.length_range] at this
    exact this
  unfold cB
  rw [sum_map_add, e1]
  omega
end
section
local macro_rules | `(tactic| walk_at "imm") => `(tactic| exact immA_rds)
local macro_rules | `(tactic| walk_at "imm") => `(tactic| exact imm_town)
local macro_rules | `(tactic| walk_at "op") => `(tactic| with_reducible exact o_ne_b)
local macro_rules | `(tactic| walk_at "op") => `(tactic| with_reducible exact o_isN)
local macro_rules | `(tactic| walk_at "op") => `(tactic| with_reducible exact o_cut_lm1n)
local macro_rules | `(tactic| walk_at "op") => `(tactic| with_reducible exact o_cut_vm1)
local macro_rules | `(tactic| walk_at "op") => `(tactic| with_reducible exact o_cut_vl)
local macro_rules | `(tactic| walk_at "op") => `(tactic| with_reducible exact o_cut_vh)
theorem w_l_fire {n : Nat} {rs : List (Nat × Nat)} {p : Nat → Int} {bank : Nat} {t : Tpa} {Q : Tpa × Bool × D → Prop} (T : Town n rs) (hb : bank < n) (k : ∀ b, FI n rs p bank b → ready n rs p b = [] → b = fireN n rs p n [bank] → Q (t, true, .lst (natsD b))) : wp (ph_l_fire t [townD n rs, .tup (vec n p), .int (bank : Int)]) Q := by
  obtain ⟨_, T2, T3, T4⟩ := id T
  unfold ph_l_fire bd_l_fire
  walk_at "ev"
  refine k_forRn (by omega) ?_
  refine w_for (fun k t' e' => t' = t ∧ ∃ b s4 s5 s6, e' = [some (false, townD n rs), some (false, .tup (vec n p)), some (false, .int (bank : Int)), some (true, .lst (natsD b)), s4, s5, s6, none] ∧ FI n rs p bank b ∧ b.length = k + 1) _ ⟨rfl, [bank], none, none, none, rfl, FI.start hb, rfl⟩ ?_ ?_
  · rintro i x t' e' hx ⟨rfl, b, s4, s5, s6, rfl, F, bl⟩
    obtain ⟨hi, rfl⟩ := rgD_some hx
    rw [Int.zero_add]
    have bn := F.len
    apply w_eq (by walk_at "asg")
    walk_at "ev"
    refine k_forRn (by omega) ?_
    refine w_for (fun k t1 e1 => t1 = t' ∧ ∃ s6, e1 = [some (false, townD n rs), some (false, .tup (vec n p)), some (false, .int (bank : Int)), some (true, .lst (natsD b)), some (true, .int (i : Int)), some (true, .lst (natsD ((List.range k).filter (may rs p b)))), s6, none]) _ ⟨rfl, _, rfl⟩ ?_ ?_
    · rintro i x t1 e1 hx ⟨rfl, s6, rfl⟩
      obtain ⟨hi, rfl⟩ := rgD_some hx
      rw [Int.zero_add]
      have hl : ((List.range i).filter (may rs p b)).length ≤ (List.range i).length := List.length_filter_le _ _
      rw [List.length_range] at hl
      apply w_eq (by walk_at "asg")
      walk_at "ev"
      by_cases z : i ∈ b
      · refine k_andT_f (by rw [decide_eq_true z]; rfl) ?_
        walk_at "ev"
        rw [fl_f (by unfold may; rw [decide_eq_false (fun w => w z)]; exact Bool.false_ne_true)]
        exact ⟨rfl, _, rfl⟩
      · refine k_andT_t (by rw [decide_eq_false z]; rfl) ?_
        walk_at "ev"
        refine w_l_ends T ?_
        walk_at "ev"
        refine k_Lc (itmsC_lm (F := fun (k : Nat) => .int (k : Int)) fun _ => rfl) (by walk_at "set") ?_
        refine w_lc_pure _ _ (fun (k : Nat) => .int (k : Int)) (fun o => decide (o ∈ b)) (fun a m => ?_) ?_
        · apply w_eq (by walk_at "asg")
          walk_at "ev"
          refine ⟨rfl, rfl, fun _ => ?_⟩
          walk_at "ev"
          exact ⟨rfl, rfl⟩
        walk_at "ev"
        rw [List.length_map, show ((ends rs i).filter fun o => decide (o ∈ b)).length = into rs i b from rfl]
        by_cases y : p i < (into rs i b : Int)
        · refine k_if_t (decide_eq_true y) ?_
          walk_at "ev"
          rw [fl_t (by unfold may; rw [decide_eq_true z, decide_eq_true y]; rfl), ← nats_app]
          exact ⟨rfl, _, rfl⟩
        · refine k_if_f (decide_eq_false y) ?_
          walk_at "ev"
          rw [fl_f (by unfold may; rw [decide_eq_false y, Bool.and_false]; exact Bool.false_ne_true)]
          exact ⟨rfl, _, rfl⟩
    · rintro t1 e1 ⟨rfl, s6, rfl⟩
      rw [rgD_len]
      walk_at "ev"
      cases er : ready n rs p b with
      | nil =>
        have er' : (List.range n).filter (may rs p b) = [] := er
        rw [er']
        refine k_if_t rfl ?_
        refine ⟨_, rfl, ?_⟩
        walk_at "ev"
        exact k b F er (F.stop er).symm
      | cons a l =>
        have er' : (List.range n).filter (may rs p b) = a :: l := er
        rw [er']
        obtain ⟨F', lt'⟩ := F.step er
        refine k_if_f (decide_eq_false (by rw [List.length_map, List.length_cons]; omega)) ?_
        walk_at "ev"
        rw [nats_snoc]
        exact ⟨rfl, b ++ [a], _, _, _, rfl, F', by rw [List.length_append, List.length_singleton, bl]⟩
  · rintro t' e' ⟨rfl, b, s4, s5, s6, rfl, F, bl⟩
    rw [rgD_len] at bl
    have := F.len
    omega
def sound (n : Nat) (p : Nat → Int) (bank : Nat) : Bool := (List.range n).all fun h => decide (h = bank) || decide (0 ≤ p h)
structure Red (n : Nat) (rs : List (Nat × Nat)) (bank : Nat) (q : Nat → Int) : Prop where
  so : ∀ h, h < n → h = bank ∨ 0 ≤ q h
  bu : ∀ x, x < n → x ∈ fireN n rs q n [bank]
/-- borrowings so far -/
structure Bor (n bank : Nat) (rs : List (Nat × Nat)) (p b : Nat → Int) : Prop where
  b0 : b bank = 0
  nn : ∀ h, h < n → 0 ≤ b h
  ub : ∀ h, h < n → 0 < b h → aft rs p (fun k => -(b k)) h ≤ ((ends rs h).length : Int) - 1
theorem aft_negB {rs : List (Nat × Nat)} {p b : Nat → Int} {h : Nat} : aft rs p (fun k => -(b k)) h = p h - lap rs b h := by
  unfold aft; rw [lap_neg]; omega
theorem Bor.tot {n bank : Nat} {rs : List (Nat × Nat)} {p b : Nat → Int} (hr : ∀ p ∈ rs, p.1 < n ∧ p.2 < n ∧ p.1 ≠ p.2) (C : ∀ x, x < n → Cn rs bank x) (B : Bor n bank rs p b) : ((List.range n).map b).sum ≤ (n : Int) * (cB n rs p * n) :=
  cut_tot hr C B.b0 B.nn cB_nn fun k k1 => sum_leP fun h m => by
    have hh := List.mem_range.mp m
    split
    · rename_i z
      have := B.ub h hh (by omega)
      rw [aft_negB] at this
      omega
    · omega
theorem lap_marks {rs : List (Nat × Nat)} {n d : Nat} (hr : ∀ p ∈ rs, p.1 < n ∧ p.2 < n ∧ p.1 ≠ p.2) (h : Nat) : lap rs (fun k => if k = d then -1 else 0) h = if h = d then ((ends rs h).length : Int) else -(((ends rs h).filter fun o => decide (o = d)).length : Int) := by
  rw [← ends_lap]
  have g : ∀ E : List Nat, (E.map fun k => if k = d then (-1 : Int) else 0).sum = -((E.filter fun o => decide (o = d)).length : Int) := by
    intro E
    induction E with
    | nil => rfl
    | cons a E ih =>
      rw [List.map_cons, List.sum_cons, ih]
      by_cases z : a = d
      · rw [if_pos z, List.filter_cons_of_pos (p := fun o => decide (o = d)) (decide_eq_true z), List.length_cons]; omega
      · rw [if_neg z, List.filter_cons_of_neg (p := fun o => decide (o = d)) (by rw [decide_eq_false z]; exact Bool.false_ne_true)]; omega
  rw [g]
  by_cases z : h = d
  · subst z
    have : (ends rs h).filter (fun o => decide (o = h)) = [] := List.filter_eq_nil_iff.mpr fun x m w => ends_no hr h (of_decide_eq_true w ▸ m)
    rw [this, if_pos rfl, if_pos rfl, List.length_nil]
    omega
  · rw [if_neg z, if_neg z]; omega
theorem Bor.step {n bank d : Nat} {rs : List (Nat × Nat)} {p b : Nat → Int} (hr : ∀ p ∈ rs, p.1 < n ∧ p.2 < n ∧ p.1 ≠ p.2) (B : Bor n bank rs p b) (hd : d < n) (nb : d ≠ bank) (neg : aft rs p (fun k => -(b k)) d < 0) : Bor n bank rs p fun k => if k = d then b k + 1 else b k where
  b0 := by rw [if_neg (Ne.symm nb)]; exact B.b0
  nn := fun h hh => by have := B.nn h hh; split <;> omega
  ub := fun h hh z => by
    have e : (fun k => -(if k = d then b k + 1 else b k)) = fun k => -(b k) + (if k = d then (-1 : Int) else 0) := funext fun k => by split <;> omega
    have l := lap_add rs (fun k => -(b k)) (fun k => if k = d then (-1 : Int) else 0) h
    have m := lap_marks (d := d) hr h
    have a1 : aft rs p (fun k => -(if k = d then b k + 1 else b k)) h = aft rs p (fun k => -(b k)) h + lap rs (fun k => if k = d then (-1 : Int) else 0) h := by
      rw [e]; unfold aft; rw [l]; omega
    rw [a1, m]
    by_cases y : h = d
    · subst y
      rw [if_pos rfl]; omega
    · rw [if_neg y]
      rw [if_neg y] at z
      have := B.ub h hh z
      omega
theorem sum_inc {n d : Nat} {b : Nat → Int} (hd : d < n) : ((List.range n).map fun k => if k = d then b k + 1 else b k).sum = ((List.range n).map b).sum + 1 := by
  have e : ((List.range n).map fun k => if k = d then b k + 1 else b k) = (List.range n).map fun k => b k + if d = k then (1 : Int) else 0 := List.map_congr_left fun k _ => by
    by_cases z : k = d
    · rw [if_pos z, if_pos z.symm]
    · rw [if_neg z, if_neg (Ne.symm z)]; omega
  rw [e, sum_map_add, sum_at n d 1 hd]
/-- what stands behind the borrowings -/
def Bhd (n bank : Nat) (rs : List (Nat × Nat)) (p q : Nat → Int) : Prop := ∀ h, h < n → h ≠ bank → 0 ≤ q h ∧ q h ≤ ((ends rs h).length : Int) + ((p h).natAbs : Int)
theorem Bor.bhd {n bank : Nat} {rs : List (Nat × Nat)} {p b : Nat → Int} (B : Bor n bank rs p b) (hr : ∀ p ∈ rs, p.1 < n ∧ p.2 < n ∧ p.1 ≠ p.2) (s : ∀ h, h < n → h ≠ bank → 0 ≤ aft rs p (fun k => -(b k)) h) : Bhd n bank rs p (aft rs p fun k => -(b k)) := fun h hh nb => by
  refine ⟨s h hh nb, ?_⟩
  by_cases z : 0 < b h
  · have := B.ub h hh z; omega
  · have b0 : b h = 0 := by have := B.nn h hh; omega
    have e := ends_lap rs b h
    have := sum_nn (l := ends rs h) (f := b) fun x m => B.nn x (ends_lt hr h x m)
    rw [b0] at e
    rw [aft_negB]
    omega
/-- lendings so far -/
structure Len (n bank : Nat) (rs : List (Nat × Nat)) (q s : Nat → Int) : Prop where
  b0 : s bank = 0
  nn : ∀ h, h < n → 0 ≤ s h
  so : ∀ h, h < n → h ≠ bank → 0 ≤ aft rs q s h
theorem Len.tot {n bank : Nat} {rs : List (Nat × Nat)} {p q s : Nat → Int} (hr : ∀ p ∈ rs, p.1 < n ∧ p.2 < n ∧ p.1 ≠ p.2) (C : ∀ x, x < n → Cn rs bank x) (B : Bhd n bank rs p q) (L : Len n bank rs q s) : ((List.range n).map s).sum ≤ (n : Int) * (cB n rs p * n) :=
  cut_tot hr C L.b0 L.nn cB_nn fun k k1 => sum_leP fun h m => by
    have hh := List.mem_range.mp m
    split
    · rename_i z
      have nb : h ≠ bank := fun w => by rw [w, L.b0] at z; omega
      have := L.so h hh nb
      have := (B h hh nb).2
      unfold aft at *
      omega
    · omega
theorem Len.step {n bank : Nat} {rs : List (Nat × Nat)} {q s : Nat → Int} {b : List Nat} (hr : ∀ p ∈ rs, p.1 < n ∧ p.2 < n ∧ p.1 ≠ p.2) (hb : bank < n) (L : Len n bank rs q s) (e : b = fireN n rs (aft rs q s) n [bank]) (mb : bank ∈ b) : Len n bank rs q fun k => s k + (if k ∈ b then 0 else 1) where
  b0 := by rw [if_pos mb, L.b0]; rfl
  nn := fun h hh => by have := L.nn h hh; split <;> omega
  so := fun h hh nb => by
    have a1 : aft rs q (fun k => s k + if k ∈ b then 0 else 1) h = aft rs q s h + lap rs (fun k => if k ∈ b then (0 : Int) else 1) h := by
      have := lap_add rs s (fun k => if k ∈ b then (0 : Int) else 1) h
      unfold aft; rw [this]; omega
    have ec : lap rs (fun k => if k ∈ b then (0 : Int) else 1) h = lap rs (marks ((List.range n).filter fun x => decide (x ∉ b))) h := lap_congr hr (fun k hk => by
      unfold marks
      by_cases z : k ∈ b
      · rw [if_pos z, if_neg fun m => (of_decide_eq_true (List.mem_filter.mp m).2) z]
      · rw [if_neg z, if_pos (List.mem_filter.mpr ⟨List.mem_range.mpr hk, decide_eq_true z⟩)]) hh
    rw [a1, ec]
    by_cases z : h ∈ b
    · have := marks_out (rs := rs) (S := (List.range n).filter fun x => decide (x ∉ b)) (h := h) fun m => (of_decide_eq_true (List.mem_filter.mp m).2) z
      have := L.so h hh nb
      omega
    · have g := stand_ge (rs := rs) (p := aft rs q s) hb hh (by rw [← e]; exact z)
      rw [marks_in (b := b) hr (fun x hx => ⟨fun m => of_decide_eq_true (List.mem_filter.mp m).2, fun m => List.mem_filter.mpr ⟨List.mem_range.mpr hx, decide_eq_true m⟩⟩) (List.mem_filter.mpr ⟨List.mem_range.mpr hh, decide_eq_true z⟩)]
      rw [← e] at g
      omega
theorem all_in {n : Nat} {l : List Nat} (nd : l.Nodup) (lt : ∀ x ∈ l, x < n) (e : l.length = n) {x : Nat} (hx : x < n) : x ∈ l := Classical.byContradiction fun w => by
  have := nd_len (l := x :: l) (n := n) (List.nodup_cons.mpr ⟨w, nd⟩) fun y m => (List.mem_cons.mp m).elim (fun e => by rw [e]; exact hx) (lt y)
  rw [List.length_cons] at this
  omega
theorem all_len {n : Nat} {l : List Nat} (h : ∀ x, x < n → x ∈ l) : n ≤ l.length := by
  have := sub_len (l := List.range n) (m := l) List.nodup_range fun x m => h x (List.mem_range.mp m)
  rwa [List.length_range] at this
theorem w_l_reduced {n bank : Nat} {rs : List (Nat × Nat)} {p : Nat → Int} {t : Tpa} {Q : Tpa × Bool × D → Prop} (T : Town n rs) (Cb : ∀ x, x < n → Cn rs bank x) (hb : bank < n) (hB : (n : Int) * (cB n rs p * n) < 4000)
    (k : ∀ w : Nat → Int, w bank = 0 → Red n rs bank (aft rs p w) → Q (t, true, .tup (vec n (aft rs p w)))) :
    wp (ph_l_reduced t [townD n rs, .tup (vec n p), .int (bank : Int)]) Q := by
  obtain ⟨T1, T2, T3, T4⟩ := id T
  unfold ph_l_reduced bd_l_reduced
  walk_at "ev"
  refine k_forRn (n := 4000) (by decide) ?_
  have fin : ∀ (t' : Tpa) (e' : Slots), (t' = t ∧ ∃ (b : Nat → Int) (s4 s5 : Option (Bool × D)), Bor n bank rs p b ∧ (∀ h, h < n → h ≠ bank → 0 ≤ aft rs p (fun k => -(b k)) h) ∧ e' = [some (false, townD n rs), some (false, .tup (vec n p)), some (false, .int (bank : Int)), some (true, .tup (vec n (aft rs p fun k => -(b k)))), s4, s5, none, none]) →
      wp ((sSeq (sForR (stI 4) [(xC (.int 4000))] (sSeq (sTo (stI 6) (xCall ph_l_fire [(xP 0), (xP 3), (xP 2)]))
    (sSeq (sIf (xB (x2 (sEq false) (xBt sLen [(xP 6)]) (x2 sIdx (xP 0) (xC (.int 1))))) (fun t e => some (t, e, .bk)) sNx)
    (sTo (stI 3) (xCall ph_l_after [(xP 0), (xP 3), (xBt sTuple [(xLcR (stI 7) [7] [(x2 sIdx (xP 0) (xC (.int 1)))] xYes (xIf (xB (x2 (sIn false) (xP 7) (xP 6))) (xC (.int 0)) (xC (.int 1))))])])))))
    (sRet (xM 3))) t' e') (Kfn Q) := by
    rintro t' e' ⟨rfl, b, s4, s5, B, so, rfl⟩
    have bh := B.bhd T4 so
    generalize eq : aft rs p (fun k => -(b k)) = q at *
    walk_at "ev"
    refine k_forRn (n := 4000) (by decide) ?_
    refine w_for (fun i t1 e' => t1 = t' ∧ ∃ (s : Nat → Int) (s4 s5 s6 : Option (Bool × D)), Len n bank rs q s ∧ (i : Int) ≤ ((List.range n).map s).sum ∧ e' = [some (false, townD n rs), some (false, .tup (vec n p)), some (false, .int (bank : Int)), some (true, .tup (vec n (aft rs q s))), s4, s5, s6, none]) _ ⟨rfl, fun _ => 0, s4, s5, none, ⟨rfl, fun _ _ => Int.le_refl _, fun h hh nb => by
      have : aft rs q (fun _ => 0) h = q h := by
        have := ends_lap rs (fun _ => (0 : Int)) h
        rw [sum_zero _ _ fun _ _ => rfl] at this
        unfold aft
        omega
      rw [this]; exact (bh h hh nb).1⟩, by rw [sum_zero _ _ fun _ _ => rfl]; exact Int.le_refl _, by
      have : aft rs q (fun _ => 0) = q := funext fun h => by
        have := ends_lap rs (fun _ => (0 : Int)) h
        rw [sum_zero _ _ fun _ _ => rfl] at this
        unfold aft
        omega
      rw [this]⟩ ?_ ?_
    · rintro i x t1 e' hx ⟨rfl, s, s4, s5, s6, L, le, rfl⟩
      obtain ⟨hi, rfl⟩ := rgD_some hx
      apply w_eq (by walk_at "asg")
      walk_at "ev"
      refine w_l_fire T hb fun bn F fx eb => ?_
      walk_at "ev"
      have bl : bn.length ≤ n := F.len
      rw [List.length_map]
      by_cases z : bn.length = n
      · refine k_if_t (decide_eq_true (by omega)) ?_
        refine ⟨_, rfl, ?_⟩
        walk_at "ev"
        have e2 : aft rs q s = aft rs p fun k => -(b k) + s k := by
          rw [← eq]
          funext h
          have := lap_add rs (fun k => -(b k)) s h
          unfold aft
          rw [this]
          omega
        rw [e2]
        refine k _ (by show -(b bank) + s bank = 0; rw [B.b0, L.b0]; rfl) ⟨fun h hh => ?_, fun x hx => ?_⟩
        · by_cases y : h = bank
          · exact .inl y
          · rw [← e2]; exact .inr (L.so h hh y)
        · rw [← e2, ← eb]
          exact all_in F.nd F.lt z hx
      · refine k_if_f (decide_eq_false (by omega)) ?_
        walk_at "ev"
        refine k_LcRn (by omega) (by walk_at "set") ?_
        refine w_lcr n (fun k => if k ∈ bn then 0 else 1) (fun a ha => ?_) ?_
        · apply w_eq (by walk_at "asg")
          walk_at "ev"
          by_cases y : a ∈ bn
          · refine k_ifX_t (decide_eq_true y) ?_
            walk_at "ev"
            exact ⟨rfl, by rw [if_pos y]⟩
          · refine k_ifX_f (decide_eq_false y) ?_
            walk_at "ev"
            exact ⟨rfl, by rw [if_neg y]⟩
        walk_at "ev"
        refine w_l_after T ?_
        walk_at "ev"
        have L2 := L.step T4 hb eb (List.mem_of_getElem? F.hd)
        have e3 : aft rs (aft rs q s) (fun k => if k ∈ bn then 0 else 1) = aft rs q fun k => s k + if k ∈ bn then 0 else 1 := funext fun _ => aft_aft
        rw [e3]
        refine ⟨rfl, _, _, _, _, L2, ?_, rfl⟩
        obtain ⟨d, hd, nd⟩ : ∃ d, d < n ∧ d ∉ bn := Classical.byContradiction fun w => z (by
          have := all_len (l := bn) (n := n) fun x hx => Classical.byContradiction fun y => w ⟨x, hx, y⟩
          omega)
        rw [sum_map_add]
        have := (sum_geP (l := List.range n) (f := fun k => if k ∈ bn then (0 : Int) else 1) (fun x _ => by split <;> omega) (List.mem_range.mpr hd)).1
        rw [if_neg nd] at this
        omega
    · rintro t1 e' ⟨rfl, s, s4, s5, s6, L, le, rfl⟩
      rw [rgD_len] at le
      have := L.tot T4 Cb bh
      omega
  refine w_for (fun i t' e' => t' = t ∧ ∃ (b : Nat → Int) (s4 s5 : Option (Bool × D)), Bor n bank rs p b ∧ ((List.range n).map b).sum = (i : Int) ∧ e' = [some (false, townD n rs), some (false, .tup (vec n p)), some (false, .int (bank : Int)), some (true, .tup (vec n (aft rs p fun k => -(b k)))), s4, s5, none, none]) _ ⟨rfl, fun _ => 0, none, none, ⟨rfl, fun _ _ => Int.le_refl _, fun _ _ z => absurd z (by omega)⟩, sum_zero _ _ fun _ _ => rfl, by
    have : aft rs p (fun _ => -0) = p := funext fun h => by
      show aft rs p (fun _ => 0) h = p h
      have := ends_lap rs (fun _ => (0 : Int)) h
      rw [sum_zero _ _ fun _ _ => rfl] at this
      unfold aft
      omega
    rw [this]⟩ ?_ ?_
  · rintro i x t1 e' hx ⟨rfl, b, s4, s5, B, le, rfl⟩
    obtain ⟨hi, rfl⟩ := rgD_some hx
    apply w_eq (by walk_at "asg")
    walk_at "ev"
    refine k_LcRn (by omega) (by walk_at "set") ?_
    refine w_lc_pure (List.range n) (fun k => .int (0 + (k : Int))) (fun k => .int (k : Int)) (fun h => !decide (h = bank) && decide (aft rs p (fun k => -(b k)) h < 0)) (fun a m => ?_) ?_
    · rw [Int.zero_add]
      have ha := List.mem_range.mp m
      apply w_eq (by walk_at "asg")
      walk_at "ev"
      by_cases y : a = bank
      · refine k_andT_f (by rw [decide_eq_true y]; rfl) ?_
        refine ⟨rfl, by rw [decide_eq_true y]; rfl, fun w => ?_⟩
        rw [decide_eq_true y] at w; cases w
      · refine k_andT_t (by rw [decide_eq_false y]; rfl) ?_
        walk_at "ev"
        refine ⟨rfl, by rw [decide_eq_false y]; rfl, fun _ => ?_⟩
        walk_at "ev"
        exact ⟨rfl, rfl⟩
    walk_at "ev"
    rw [List.length_map]
    cases el : (List.range n).filter fun h => !decide (h = bank) && decide (aft rs p (fun k => -(b k)) h < 0) with
    | nil =>
      refine k_if_t rfl ?_
      refine ⟨_, rfl, ?_⟩
      refine fin _ _ ⟨rfl, b, _, _, B, fun h hh nb => ?_, rfl⟩
      have : h ∉ (List.range n).filter fun h => !decide (h = bank) && decide (aft rs p (fun k => -(b k)) h < 0) := by rw [el]; exact fun m => nomatch m
      by_cases y : aft rs p (fun k => -(b k)) h < 0
      · exact absurd (List.mem_filter.mpr ⟨List.mem_range.mpr hh, by rw [decide_eq_false nb, decide_eq_true y]; rfl⟩) this
      · omega
    | cons d l =>
      obtain ⟨md, pd⟩ := List.mem_filter.mp (show d ∈ (List.range n).filter fun h => !decide (h = bank) && decide (aft rs p (fun k => -(b k)) h < 0) by rw [el]; exact .head _)
      rw [Bool.and_eq_true] at pd
      have hd := List.mem_range.mp md
      have nb : d ≠ bank := fun w => by rw [decide_eq_true w] at pd; cases pd.1
      have neg := of_decide_eq_true pd.2
      refine k_if_f (decide_eq_false (by rw [List.length_cons]; omega)) ?_
      walk_at "ev"
      refine k_LcRn (by omega) (by walk_at "set") ?_
      refine w_lcr n (fun k => if k = d then -1 else 0) (fun a ha => ?_) ?_
      · apply w_eq (by walk_at "asg")
        walk_at "ev"
        refine k_2b (o_idx_hd (a := d) (l := l)) ?_
        walk_at "ev"
        by_cases y : a = d
        · refine k_ifX_t (decide_eq_true y) ?_
          walk_at "ev"
          exact ⟨rfl, by rw [if_pos y]⟩
        · refine k_ifX_f (decide_eq_false y) ?_
          walk_at "ev"
          exact ⟨rfl, by rw [if_neg y]⟩
      walk_at "ev"
      refine w_l_after T ?_
      walk_at "ev"
      have e3 : aft rs (aft rs p fun k => -(b k)) (fun k => if k = d then -1 else 0) = aft rs p fun k => -(if k = d then b k + 1 else b k) := by
        funext h
        rw [aft_aft]
        exact congrArg (fun f => aft rs p f h) (funext fun k => by split <;> omega)
      rw [e3]
      exact ⟨rfl, _, _, _, B.step T4 hd nb neg, by rw [sum_inc hd, le]; omega, rfl⟩
  · rintro t1 e' ⟨rfl, b, s4, s5, B, le, rfl⟩
    rw [rgD_len] at le
    have := B.tot T4 Cb
    omega
end
section
local macro_rules | `(tactic| walk_at "imm") => `(tactic| exact immA_rds)
local macro_rules | `(tactic| walk_at "imm") => `(tactic| exact imm_town)
local macro_rules | `(tactic| walk_at "op") => `(tactic| with_reducible exact o_ne_b)
local macro_rules | `(tactic| walk_at "op") => `(tactic| with_reducible exact o_isN)
local macro_rules | `(tactic| walk_at "op") => `(tactic| with_reducible exact o_cut_lm1n)
local macro_rules | `(tactic| walk_at "op") => `(tactic| with_reducible exact o_cut_vm1)
local macro_rules | `(tactic| walk_at "op") => `(tactic| with_reducible exact o_cut_vl)
local macro_rules | `(tactic| walk_at "op") => `(tactic| with_reducible exact o_cut_vh)
theorem range_filt {m s c : Nat} (h : s ≤ c) (hm : m = c + 1) : (List.range m).filter (fun x => decide (s + x ≤ c)) = List.range (c - s + 1) := by
  subst hm
  refine asc_one (List.pairwise_lt_range.filter _) List.pairwise_lt_range fun x => ?_
  rw [List.mem_filter, List.mem_range, List.mem_range, decide_eq_true_eq]
  omega
theorem range_one {s c : Nat} (h : s ≤ c) : (List.range (c - s + 1)).filter (fun x => decide (s + x = c)) = [c - s] := by
  refine asc_one (List.pairwise_lt_range.filter _) (List.pairwise_singleton _ _) fun x => ?_
  rw [List.mem_filter, List.mem_range, decide_eq_true_eq, List.mem_singleton]
  omega
theorem tk_sum {c : Nat} : ∀ k, (tk c (k + 1)).filter (fun r => decide (r.sum = c)) = takL (k + 1) c := fun k => by
  unfold takL
  show ((tk c k).flatMap fun r => (List.range (c - r.sum + 1)).map fun x => r ++ [x]).filter _ = _
  rw [List.filter_flatMap, Nat.add_sub_cancel]
  have g : ∀ l : List (List Nat), (∀ r ∈ l, r.sum ≤ c) → (l.flatMap fun r => ((List.range (c - r.sum + 1)).map fun x => r ++ [x]).filter fun r => decide (r.sum = c)) = l.map fun r => r ++ [c - r.sum] := by
    intro l
    induction l with
    | nil => intro _; rfl
    | cons r l ih =>
      intro h
      rw [List.flatMap_cons, ih fun x m => h x (.tail _ m), List.map_cons, List.filter_map]
      have : ((fun r : List Nat => decide (r.sum = c)) ∘ fun x => r ++ [x]) = fun x => decide (r.sum + x = c) := funext fun x => by
        show decide ((r ++ [x]).sum = c) = _
        rw [List.sum_append, List.sum_singleton]
      rw [this, range_one (h r (.head _))]
      rfl
  exact g _ fun r m => (tk_mem.mp m).2
theorem w_l_takings {n c : Nat} {t : Tpa} {Q : Tpa × Bool × D → Prop} (hn : 0 < n) (n13 : n ≤ 12) (c3 : c ≤ 3) (k : Q (t, true, .lst (rowsD (takL n c)))) : wp (ph_l_takings t [.int (n : Int), .int (c : Int)]) Q := by
  have lb : ∀ k, k ≤ 12 → (tk c k).length ≤ 16777216 := fun k hk => by
    refine Nat.le_trans (tk_len k) (Nat.le_trans (Nat.pow_le_pow_left (by omega : c + 1 ≤ 4) k) (Nat.le_trans (Nat.pow_le_pow_right (by decide) hk) (by decide)))
  unfold ph_l_takings bd_l_takings
  walk_at "ev"
  refine k_forRn (by omega) ?_
  refine w_for (fun i t' e' => t' = t ∧ ∃ fl s3 s4 s5 s6, e' = [some (false, .int (n : Int)), some (false, .int (c : Int)), some (fl, .lst (rowsD (tk c i))), s3, s4, s5, s6]) _ ⟨rfl, true, _, _, _, _, rfl⟩ ?_ ?_
  · rintro i x t' e' hx ⟨rfl, fl, s3, s4, s5, s6, rfl⟩
    obtain ⟨hi, rfl⟩ := rgD_some hx
    have hi' : i < n := hi
    apply w_eq (by walk_at "asg")
    walk_at "ev"
    refine k_forS (itms_lm (l := tk c i) (F := fun r => .tup (natsD r)) (fun _ => immA_nats) (fun w => nomatch w)) ?_
    let F : List Nat → List (List Nat) := fun r => (List.range (c - r.sum + 1)).map fun x => r ++ [x]
    refine w_for (fun j t1 e' => t1 = t' ∧ ∃ s5 s6 s4', (s4' = .lst (rowsD (((tk c i).take j).flatMap F))) ∧ e' = [some (false, .int (n : Int)), some (false, .int (c : Int)), some (false, .lst (rowsD (tk c i))), some (true, .int (0 + (i : Int))), some (true, s4'), s5, s6]) _ ⟨rfl, _, _, _, rfl, rfl⟩ ?_ ?_
    · rintro j y t1 e' hy ⟨rfl, s5, s6, _, rfl, rfl⟩
      obtain ⟨r, hr, rfl⟩ := map_some hy
      obtain ⟨h1, h2⟩ := tk_mem.mp (List.mem_of_getElem? hr)
      have imr : imm (.tup (natsD r)) = true := immA_nats
      apply w_eq (by walk_at "asg")
      walk_at "ev"
      rw [show (c : Int) + 1 = ((c + 1 : Nat) : Int) from rfl]
      refine k_LcRn (by omega) (by walk_at "set") ?_
      refine w_lc_pure (List.range (c + 1)) (fun k => .int (0 + (k : Int))) (fun x => .tup (natsD (r ++ [x]))) (fun x => decide (r.sum + x ≤ c)) (fun a m => ?_) ?_
      · rw [Int.zero_add]
        apply w_eq (by walk_at "asg")
        walk_at "ev"
        refine ⟨rfl, ?_, fun _ => ?_⟩
        · rw [show (List.map Nat.cast r : List Int).sum = ((r.sum : Nat) : Int) from cast_sum r]
          exact decide_eq_decide.mpr (by omega)
        · walk_at "ev"
          refine k_2b (o_cat_n (by omega)) ?_
          exact ⟨rfl, rfl⟩
      rw [range_filt h2 rfl]
      have lt := lb (i + 1) (by omega)
      have e1 : ((tk c i).take (j + 1)).flatMap F = ((tk c i).take j).flatMap F ++ F r := by
        rw [List.take_add_one, hr, List.flatMap_append, show (some r).toList = [r] from rfl, List.flatMap_cons, List.flatMap_nil, List.append_nil]
      have lq : (((tk c i).take (j + 1)).flatMap F).length ≤ 16777216 := Nat.le_trans (by
        show _ ≤ ((tk c i).flatMap F).length
        have z := List.take_append_drop (j + 1) (tk c i)
        conv => rhs; rw [← z, List.flatMap_append, List.length_append]
        omega) lt
      rw [e1, List.length_append] at lq
      have e2 : ((List.range (c - r.sum + 1)).map fun x => D.tup (natsD (r ++ [x]))) = rowsD (F r) := by unfold rowsD; rw [List.map_map]; rfl
      rw [e2]
      have l1 : (rowsD (((tk c i).take j).flatMap F)).length = (((tk c i).take j).flatMap F).length := List.length_map _
      have l2 : (rowsD (F r)).length = (F r).length := List.length_map _
      walk_at "ev"
      refine k_2b (o_catl_i (by rw [l1, l2]; omega) (immA_app immA_rows immA_rows)) ?_
      walk_at "ev"
      refine ⟨rfl, _, _, _, ?_, rfl⟩
      rw [e1]
      unfold rowsD
      rw [List.map_append]
    · rintro t1 e' ⟨rfl, s5, s6, _, rfl, rfl⟩
      rw [List.length_map, List.take_length]
      walk_at "ev"
      exact ⟨rfl, true, _, _, _, _, rfl⟩
  · rintro t' e' ⟨rfl, fl, s3, s4, s5, s6, rfl⟩
    rw [rgD_len]
    have key : wp ((xLc (stI 5) [5] (xP 2) (xB (x2 (sEq false) (xBt sSumX [(xP 5)]) (xP 1))) (xV 5)) t' [some (false, .int (n : Int)), some (false, .int (c : Int)), some (fl, .lst (rowsD (tk c n))), s3, s4, s5, s6]) (Kret (Kfn Q)) := by
      have lc : wp (sLc (stI 5) (xB (x2 (sEq false) (xBt sSumX [(xP 5)]) (xP 1))) (xV 5) [some (false, .int (n : Int)), some (false, .int (c : Int)), some (fl, .lst (rowsD (tk c n))), s3, s4, none, s6] ((tk c n).map fun r => ((.own, .tup (natsD r)) : GD)) t') (Klce [some (false, .int (n : Int)), some (false, .int (c : Int)), some (fl, .lst (rowsD (tk c n))), s3, s4, s5, s6] (Kret (Kfn Q))) := by
        refine w_lc_pure (tk c n) (fun r => .tup (natsD r)) (fun r => .tup (natsD r)) (fun r => decide (r.sum = c)) (fun r m => ?_) ?_
        · have imr : imm (.tup (natsD r)) = true := immA_nats
          apply w_eq (by walk_at "asg")
          walk_at "ev"
          refine ⟨rfl, ?_, fun _ => ?_⟩
          · rw [show (List.map Nat.cast r : List Int).sum = ((r.sum : Nat) : Int) from cast_sum r]
            exact decide_eq_decide.mpr (by omega)
          · walk_at "ev"
            exact ⟨rfl, rfl⟩
        obtain ⟨m, rfl⟩ : ∃ m, n = m + 1 := ⟨n - 1, by omega⟩
        rw [tk_sum]
        walk_at "ev"
        exact k
      cases fl with
      | true =>
        refine w_xLc (w_xPl rfl rfl ?_)
        exact k_Lc (itmsC_lm (l := tk c n) (F := fun r => .tup (natsD r)) fun _ => immA_nats) (by walk_at "set") lc
      | false =>
        refine w_xLc (w_xPf rfl rfl ?_)
        exact k_Lc (itmsC_lm (l := tk c n) (F := fun r => .tup (natsD r)) fun _ => immA_nats) (by walk_at "set") lc
    exact w_ret key
end
section
local macro_rules | `(tactic| walk_at "imm") => `(tactic| exact immA_rds)
local macro_rules | `(tactic| walk_at "imm") => `(tactic| exact imm_town)
local macro_rules | `(tactic| walk_at "op") => `(tactic| with_reducible exact o_ne_b)
local macro_rules | `(tactic| walk_at "op") => `(tactic| with_reducible exact o_isN)
local macro_rules | `(tactic| walk_at "op") => `(tactic| with_reducible exact o_cut_lm1n)
local macro_rules | `(tactic| walk_at "op") => `(tactic| with_reducible exact o_cut_vm1)
local macro_rules | `(tactic| walk_at "op") => `(tactic| with_reducible exact o_cut_vl)
local macro_rules | `(tactic| walk_at "op") => `(tactic| with_reducible exact o_cut_vh)
def TP (n : Nat) (tail : List D) : Prop := tail = [] ∨ ∃ l, tail = [.tup (natsD l)] ∧ (∀ x ∈ l, x < n) ∧ l.length = n
theorem TP.tl {n : Nat} {tail : List D} (h : TP n tail) : TL n tail := by
  rcases h with rfl | ⟨l, rfl, h, _⟩
  · exact .inl rfl
  · exact .inr (.inl ⟨l, rfl, h⟩)
theorem TP.imm {n : Nat} {tail : List D} (h : TP n tail) : immA tail = true := by
  rcases h with rfl | ⟨l, rfl, _⟩
  · rfl
  · show (Fw.imm (.tup (natsD l)) && true) = true
    rw [show Fw.imm (.tup (natsD l)) = true from immA_nats]; rfl
theorem w_endedP {n : Nat} {rs : List (Nat × Nat)} {p : Nat → Int} {t : Tpa} {Q : Tpa × Bool × D → Prop} (G : GoodT n rs) (hp : ∀ h, h < n → (p h).natAbs ≤ 2 ^ 200)
    (k : ∀ w f tail, WW w → TP n tail → ER n rs p f w tail → Q (t, true, .tup (.str w :: .tup (vec n f) :: tail))) : wp (ph_ended t [townD n rs, .tup (vec n p)]) Q := by
  have T1 := G.T.1
  refine w_ended G hp (fun s so => ?_) fun s l neg ho hl ag => ?_
  · refine k (Str.ofString "ended") (pls n s) [] (.inl rfl) (.inl rfl) ⟨pls_min T1, .inl ⟨rfl, rfl, ?_⟩⟩
    have e : (List.range n).map (aft rs p (pls n s)) = (List.range n).map (aft rs p s) := List.map_congr_left fun h _ => aft_pls
    rw [e]
    obtain ⟨sl, es⟩ := srtI_min (xs := (List.range n).map (aft rs p s)) (vmin_ne T1)
    have : minI ((List.range n).map (aft rs p s)) ∈ (List.range n).map (aft rs p s) := (srtI_perm _).mem_iff.mp (by rw [es]; exact .head _)
    obtain ⟨x, mx, ex⟩ := List.mem_map.mp this
    rw [← ex]
    exact so x (List.mem_range.mp mx)
  · refine k (Str.ofString "never") (pls n s) [.tup (natsD l)] (.inr (.inl rfl)) (.inr ⟨l, rfl, hl, ho.1⟩) ⟨pls_min T1, .inr ⟨rfl, l, rfl, ho, fun j h hj => ?_⟩⟩
    have := ag j h hj
    rw [aft_pls]
    exact this
theorem min_le {xs : List Int} {x : Int} (m : x ∈ xs) : minI xs ≤ x := by
  obtain ⟨l, e⟩ := srtI_min (List.ne_nil_of_mem m)
  have s := srtI_sorted xs
  have m' := (srtI_perm xs).mem_iff.mpr m
  rw [e] at s m'
  rcases List.mem_cons.mp m' with z | z
  · omega
  · exact (List.pairwise_cons.mp s).1 x z
theorem min_mem {xs : List Int} (h : xs ≠ []) : minI xs ∈ xs := by
  obtain ⟨l, e⟩ := srtI_min h
  exact (srtI_perm xs).mem_iff.mp (by rw [e]; exact .head _)
section
theorem atI_one {d e : D} {ds : List D} : L2.atI (d :: e :: ds) 1 = some e := atI_nat (ds := d :: e :: ds) (k := 1) (by rw [List.length_cons, List.length_cons]; omega)
local macro_rules | `(tactic| walk_at "op") => `(tactic| with_reducible exact o_idx_t atI_zero rfl)
local macro_rules | `(tactic| walk_at "op") => `(tactic| with_reducible exact o_idx_t atI_one imm_vec)
def pr (p : Nat → Int) (r : List Nat) (k : Nat) : Int := p k - ((r.getD k 0 : Nat) : Int)
theorem GoodT.g0 {n : Nat} {rs : List (Nat × Nat)} (G : GoodT n rs) : Good0 n rs := ⟨G.T, G.n20, G.con⟩
theorem er_win {n : Nat} {rs : List (Nat × Nat)} {p f : Nat → Int} {w : Str} {tail : List D} (G : GoodT n rs) (tp : TP n tail) (e : ER n rs p f w tail) : (w = Str.ofString "ended" ∧ Win n rs p ∧ tail = [] ∧ ∀ h, h < n → 0 ≤ aft rs p f h) ∨ (w = Str.ofString "never" ∧ ¬ Win n rs p ∧ ∃ l, tail = [.tup (natsD l)] ∧ Ord n l) := by
  rcases e.2 with ⟨a, b, c⟩ | ⟨a, l, b, c, ag⟩
  · have nn : ∀ h, h < n → 0 ≤ aft rs p f h := fun h hh => Int.le_trans c (min_le (List.mem_map.mpr ⟨h, List.mem_range.mpr hh, rfl⟩))
    exact .inl ⟨a, ⟨f, nn⟩, b, nn⟩
  · right
    have hl : ∀ x ∈ l, x < n := by
      rcases tp with x | ⟨l', x, y, _⟩
      · rw [x] at b; cases b
      · rw [x] at b
        rw [← nats_one b]; exact y
    have O : Ord n l := ⟨c.1, c.2, hl⟩
    refine ⟨a, no_win (q := p) (s := f) G.g0 O (fun h hh => ?_), l, b, O⟩
    obtain ⟨k, hk⟩ := O.all hh
    have := ag k h hk
    unfold dpur
    rw [before_at O.nd hk]
    omega
theorem pr_bnd {n B : Nat} {p : Nat → Int} {r : List Nat} (hp : ∀ h, h < n → (p h).natAbs ≤ B) (r1 : r.length = n) (r3 : r.sum ≤ 3) : ∀ h, h < n → (pr p r h).natAbs ≤ B + 3 := fun h hh => by
  have h1 := hp h hh
  have h2 : r.getD h 0 ≤ r.sum := by
    rw [List.getD_eq_getElem?_getD, List.getElem?_eq_getElem (by omega)]
    exact mem_le_sum (List.getElem_mem _)
  unfold pr
  omega
theorem red_turns {n B : Nat} {rs : List (Nat × Nat)} {q : Nat → Int} (hr : ∀ p ∈ rs, p.1 < n ∧ p.2 < n ∧ p.1 ≠ p.2) (n4 : n ≤ 4) (r60 : rs.length ≤ 60) (hq : ∀ h, h < n → (q h).natAbs ≤ B) (hB : B ≤ 26) : (n : Int) * (cB n rs q * n) < 4000 := by
  have c := cB_le (B := B) hr hq
  have c0 := cB_nn (n := n) (rs := rs) (p := q)
  have c1 : cB n rs q ≤ 224 := by
    have : (n : Int) * (B : Int) ≤ 4 * 26 := Int.mul_le_mul (by omega) (by omega) (by omega) (by omega)
    omega
  have c2 : cB n rs q * n ≤ 224 * 4 := Int.mul_le_mul c1 (by omega) (by omega) (by omega)
  have c3 : 0 ≤ cB n rs q * n := Int.mul_nonneg c0 (by omega)
  have : (n : Int) * (cB n rs q * n) ≤ 4 * (224 * 4) := Int.mul_le_mul (by omega) c2 c3 (by omega)
  omega
theorem w_l_rank {n m : Nat} {rs : List (Nat × Nat)} {p : Nat → Int} {t : Tpa} {Q : Tpa × Bool × D → Prop} (G : GoodT n rs) (n4 : n ≤ 4) (m3 : m ≤ 3) (hp : ∀ h, h < n → (p h).natAbs ≤ 23) (k : ∀ r, RankIs n rs p m r → Q (t, true, .int r)) : wp (ph_l_rank t [townD n rs, .tup (vec n p), .int (m : Int)]) Q := by
  obtain ⟨T1, T2, T3, T4⟩ := id G.T
  unfold ph_l_rank bd_l_rank
  walk_at "ev"
  rw [show (m : Int) + 1 = ((m + 1 : Nat) : Int) from rfl]
  refine k_forRn (by omega) ?_
  refine w_for (fun i t' e' => t' = t ∧ (∀ j, j < i → ¬ Bad n rs p j) ∧ ∃ s3 s4, e' = [some (false, townD n rs), some (false, .tup (vec n p)), some (false, .int (m : Int)), s3, s4, none]) _ ⟨rfl, fun j h => by omega, _, _, rfl⟩ ?_ ?_
  · rintro i x t' e' hx ⟨rfl, hj, s3, s4, rfl⟩
    obtain ⟨hi, rfl⟩ := rgD_some hx
    rw [Int.zero_add]
    apply w_eq (by walk_at "asg")
    walk_at "ev"
    refine w_l_takings T1 (by omega) (by omega) ?_
    walk_at "ev"
    refine k_forS (itms_lm (l := takL n i) (F := fun r => .tup (natsD r)) (fun _ => immA_nats) (fun w => nomatch w)) ?_
    refine w_for (fun j t1 e' => t1 = t' ∧ (∀ r ∈ (takL n i).take j, Win n rs (pr p r)) ∧ ∃ s4, e' = [some (false, townD n rs), some (false, .tup (vec n p)), some (false, .int (m : Int)), some (true, .int (i : Int)), s4, none]) _ ⟨rfl, fun r m => (by rw [List.take_zero] at m; cases m), _, rfl⟩ ?_ ?_
    · rintro j y t1 e' hy ⟨rfl, hw, s4, rfl⟩
      obtain ⟨r, hr, rfl⟩ := map_some hy
      obtain ⟨r1, r2⟩ := (takL_mem T1).mp (List.mem_of_getElem? hr)
      have imr : imm (.tup (natsD r)) = true := immA_nats
      apply w_eq (by walk_at "asg")
      rw [row_vecN r1]
      have imr : imm (.tup (vec n fun k => ((r.getD k 0 : Nat) : Int))) = true := imm_vec
      walk_at "ev"
      refine k_LcRn (by omega) (by walk_at "set") ?_
      refine w_lcr n (pr p r) (fun a ha => ?_) ?_
      · apply w_eq (by walk_at "asg")
        walk_at "ev"
        exact ⟨rfl, rfl⟩
      walk_at "ev"
      refine w_l_reduced (bank := 0) G.T G.con T1 (red_turns (B := 26) T4 n4 G.r60 (pr_bnd hp r1 (by omega)) (by decide)) fun w w0 R => ?_
      have imv : imm (.tup (vec n (aft rs (pr p r) w))) = true := imm_vec
      walk_at "ev"
      refine k_2b (o_idx_vec (k := 0) T1) ?_
      walk_at "ev"
      rcases red_cases G.g0 R.so R.bu with ⟨z, w⟩ | ⟨z, l, O, w⟩
      · refine k_if_f (decide_eq_false (by omega)) ?_
        walk_at "ev"
        refine ⟨rfl, fun r' m => ?_, _, rfl⟩
        rw [List.take_add_one, hr] at m
        rcases List.mem_append.mp m with m | m
        · exact hw r' m
        · cases List.mem_singleton.mp m
          exact w
      · refine k_if_t (decide_eq_true z) ?_
        walk_at "ev"
        exact k _ (.inl ⟨i, by omega, ⟨r, r1, r2, no_win G.g0 O w⟩, hj, rfl⟩)
    · rintro t1 e' ⟨rfl, hw, s4, rfl⟩
      rw [List.length_map, List.take_length] at hw
      walk_at "ev"
      refine ⟨rfl, fun j h => ?_, _, _, rfl⟩
      by_cases z : j = i
      · subst z
        rintro ⟨r, r1, r2, nw⟩
        exact nw (hw r ((takL_mem T1).mpr ⟨r1, r2⟩))
      · exact hj j (by omega)
  · rintro t' e' ⟨rfl, hj, s3, s4, rfl⟩
    rw [rgD_len] at hj
    walk_at "ev"
    exact k _ (.inr ⟨fun j h => hj j (by omega), rfl⟩)
theorem rank_one {n m : Nat} {rs : List (Nat × Nat)} {p : Nat → Int} {a b : Int} (h : RankIs n rs p m a) (h' : RankIs n rs p m b) : a = b := by
  rcases h with ⟨k, k1, k2, k3, rfl⟩ | ⟨k1, rfl⟩
  · rcases h' with ⟨j, j1, j2, j3, rfl⟩ | ⟨j1, rfl⟩
    · have : ¬ j < k := fun z => k3 j z j2
      have : ¬ k < j := fun z => j3 k z k2
      omega
    · exact absurd k2 (j1 k k1)
  · rcases h' with ⟨j, j1, j2, j3, rfl⟩ | ⟨j1, rfl⟩
    · exact absurd j2 (k1 j j1)
    · rfl
def neverD (n : Nat) (f : Nat → Int) (l : List Nat) : D := .tup [.str (Str.ofString "never"), .tup (vec n f), .tup (natsD l)]
theorem w_taking {n m : Nat} {rs : List (Nat × Nat)} {p : Nat → Int} {t : Tpa} {Q : Tpa × Bool × D → Prop} (G : GoodT n rs) (n4 : n ≤ 4) (m3 : m ≤ 3) (hp : ∀ h, h < n → (p h).natAbs ≤ 30)
    (k0 : (∀ k, k ≤ m → ¬ Bad n rs p k) → Q (t, true, .non)) (k : ∀ c r f l, c ≤ m → r ∈ takL n c → Bad n rs p c → (∀ j, j < c → ¬ Bad n rs p j) → ER n rs (pr p r) f (Str.ofString "never") [.tup (natsD l)] → Ord n l → Q (t, true, .tup [.tup (natsD r), neverD n f l])) : wp (ph_taking t [townD n rs, .tup (vec n p), .int (m : Int)]) Q := by
  obtain ⟨T1, T2, T3, T4⟩ := id G.T
  have big : (33 : Nat) ≤ 2 ^ 200 := by decide
  unfold ph_taking bd_taking
  walk_at "ev"
  rw [show (m : Int) + 1 = ((m + 1 : Nat) : Int) from rfl]
  refine k_forRn (by omega) ?_
  refine w_for (fun i t' e' => t' = t ∧ (∀ j, j < i → ¬ Bad n rs p j) ∧ ∃ s3 s4 s5, e' = [some (false, townD n rs), some (false, .tup (vec n p)), some (false, .int (m : Int)), s3, s4, s5]) _ ⟨rfl, fun j h => by omega, _, _, _, rfl⟩ ?_ ?_
  · rintro i x t' e' hx ⟨rfl, hj, s3, s4, s5, rfl⟩
    obtain ⟨hi, rfl⟩ := rgD_some hx
    rw [Int.zero_add]
    apply w_eq (by walk_at "asg")
    walk_at "ev"
    refine w_takings T1 (by omega) (by omega) ?_
    walk_at "ev"
    refine k_forS (itms_lm (l := takL n i) (F := fun r => .tup (natsD r)) (fun _ => immA_nats) (fun w => nomatch w)) ?_
    refine w_for (fun j t1 e' => t1 = t' ∧ (∀ r ∈ (takL n i).take j, Win n rs (pr p r)) ∧ ∃ s4 s5, e' = [some (false, townD n rs), some (false, .tup (vec n p)), some (false, .int (m : Int)), some (true, .int (i : Int)), s4, s5]) _ ⟨rfl, fun r m => (by rw [List.take_zero] at m; cases m), _, _, rfl⟩ ?_ ?_
    · rintro j y t1 e' hy ⟨rfl, hw, s4, s5, rfl⟩
      obtain ⟨r, hr, rfl⟩ := map_some hy
      have mr := List.mem_of_getElem? hr
      obtain ⟨r1, r2⟩ := (takL_mem T1).mp mr
      have imr : imm (.tup (natsD r)) = true := immA_nats
      apply w_eq (by walk_at "asg")
      have er := row_vecN r1
      have imr2 : imm (.tup (vec n fun k => ((r.getD k 0 : Nat) : Int))) = true := imm_vec
      walk_at "ev"
      rw [er]
      refine w_less T2 ?_
      walk_at "ev"
      refine w_endedP (p := pr p r) G (fun h hh => by have := pr_bnd hp r1 (by omega) h hh; omega) fun w f tail hww tp e => ?_
      have imt : imm (.tup (.str w :: .tup (vec n f) :: tail)) = true := by
        show (true && (imm (.tup (vec n f)) && immA tail)) = true
        rw [imm_vec, tp.imm]; rfl
      walk_at "ev"
      have cw : cok 8 (.str w) = true := by
        rcases hww with rfl | rfl | rfl
        · exact cok_ended
        · exact cok_never
        · exact cok_open
      refine k_2b (o_str cw cok_never) ?_
      walk_at "ev"
      rcases er_win G tp e with ⟨rfl, win, _, _⟩ | ⟨rfl, nw, l, rfl, O⟩
      · refine k_if_f (by decide +kernel) ?_
        walk_at "ev"
        refine ⟨rfl, fun r' m => ?_, _, _, rfl⟩
        rw [List.take_add_one, hr] at m
        rcases List.mem_append.mp m with m | m
        · exact hw r' m
        · cases List.mem_singleton.mp m
          exact win
      · refine k_if_t (by decide +kernel) ?_
        walk_at "ev"
        rw [← er]
        exact k i r f l (by omega) mr ⟨r, r1, r2, nw⟩ hj e O
    · rintro t1 e' ⟨rfl, hw, s4, s5, rfl⟩
      rw [List.length_map, List.take_length] at hw
      walk_at "ev"
      refine ⟨rfl, fun j h => ?_, _, _, _, rfl⟩
      by_cases z : j = i
      · subst z
        rintro ⟨r, r1, r2, nw⟩
        exact nw (hw r ((takL_mem T1).mpr ⟨r1, r2⟩))
      · exact hj j (by omega)
  · rintro t' e' ⟨rfl, hj, s3, s4, s5, rfl⟩
    rw [rgD_len] at hj
    walk_at "ev"
    exact k0 fun j h => hj j (by omega)
/-- scripts that bear each taking -/
def Bears (n : Nat) (rs : List (Nat × Nat)) (p : Nat → Int) (c : Nat) (fs : List (Nat → Int)) : Prop := ∀ (i : Nat) (f : Nat → Int) (r : List Nat), fs[i]? = some f → (takL n c)[i]? = some r → minI ((List.range n).map f) = 0 ∧ ∀ h, h < n → 0 ≤ aft rs (pr p r) f h
def vecsD (n : Nat) (fs : List (Nat → Int)) : List D := fs.map fun f => .tup (vec n f)
theorem immA_vecs {n : Nat} {fs : List (Nat → Int)} : immA (vecsD n fs) = true := immA_map fun _ _ => imm_vec
theorem w_bearing {n c : Nat} {rs : List (Nat × Nat)} {p : Nat → Int} {t : Tpa} {Q : Tpa × Bool × D → Prop} (G : GoodT n rs) (n4 : n ≤ 4) (c3 : c ≤ 3) (hp : ∀ h, h < n → (p h).natAbs ≤ 30)
    (k0 : Bad n rs p c → Q (t, true, .non)) (k : ∀ fs, ¬ Bad n rs p c → fs.length = (takL n c).length → Bears n rs p c fs → Q (t, true, .tup (vecsD n fs))) : wp (ph_bearing t [townD n rs, .tup (vec n p), .int (c : Int)]) Q := by
  obtain ⟨T1, T2, T3, T4⟩ := id G.T
  have big : (33 : Nat) ≤ 2 ^ 200 := by decide
  have tl : (takL n c).length ≤ 16777216 := by
    unfold takL
    rw [List.length_map]
    exact Nat.le_trans (tk_len _) (Nat.le_trans (Nat.pow_le_pow_left (by omega : c + 1 ≤ 4) _) (Nat.le_trans (Nat.pow_le_pow_right (by decide) (by omega : n - 1 ≤ 12)) (by decide)))
  unfold ph_bearing bd_bearing
  walk_at "ev"
  refine w_takings T1 (by omega) (by omega) ?_
  walk_at "ev"
  refine k_forS (itms_lm (l := takL n c) (F := fun r => .tup (natsD r)) (fun _ => immA_nats) (fun w => nomatch w)) ?_
  refine w_for (fun j t1 e' => t1 = t ∧ ∃ (fs : List (Nat → Int)) (s4 s5 : Option (Bool × D)), fs.length = j ∧ (∀ r ∈ (takL n c).take j, Win n rs (pr p r)) ∧ Bears n rs p c fs ∧ e' = [some (false, townD n rs), some (false, .tup (vec n p)), some (false, .int (c : Int)), some (true, .lst (vecsD n fs)), s4, s5]) _ ⟨rfl, [], none, none, rfl, fun r m => (by rw [List.take_zero] at m; cases m), fun i f r h => (nomatch h), rfl⟩ ?_ ?_
  · rintro j y t1 e' hy ⟨rfl, fs, s4, s5, fl, hw, B, rfl⟩
    obtain ⟨r, hr, rfl⟩ := map_some hy
    have mr := List.mem_of_getElem? hr
    have jl := (List.getElem?_eq_some_iff.mp hr).1
    obtain ⟨r1, r2⟩ := (takL_mem T1).mp mr
    have imr : imm (.tup (natsD r)) = true := immA_nats
    apply w_eq (by walk_at "asg")
    rw [row_vecN r1]
    have imr2 : imm (.tup (vec n fun k => ((r.getD k 0 : Nat) : Int))) = true := imm_vec
    walk_at "ev"
    refine w_less T2 ?_
    walk_at "ev"
    refine w_endedP (p := pr p r) G (fun h hh => by have := pr_bnd hp r1 (by omega) h hh; omega) fun w f tail hww tp e => ?_
    have imt : imm (.tup (.str w :: .tup (vec n f) :: tail)) = true := by
      show (true && (imm (.tup (vec n f)) && immA tail)) = true
      rw [imm_vec, tp.imm]; rfl
    walk_at "ev"
    have cw : cok 8 (.str w) = true := by
      rcases hww with rfl | rfl | rfl
      · exact cok_ended
      · exact cok_never
      · exact cok_open
    refine k_2b (o_str cw cok_never) ?_
    walk_at "ev"
    rcases er_win G tp e with ⟨rfl, win, rfl, nn⟩ | ⟨rfl, nw, l, rfl, O⟩
    · refine k_if_f (by decide +kernel) ?_
      walk_at "ev"
      have l1 : (vecsD n fs).length = fs.length := List.length_map _
      refine k_app rfl (by rw [l1]; omega) ?_
      dsimp only [List.set]
      walk_at "ev"
      rw [show vecsD n fs ++ [.tup (vec n f)] = vecsD n (fs ++ [f]) from (List.map_append (f := fun f => D.tup (vec n f)) (l₁ := fs) (l₂ := [f])).symm]
      refine ⟨rfl, fs ++ [f], _, _, by rw [List.length_append, List.length_singleton, fl], fun r' m => ?_, fun i f' r' h1 h2 => ?_, rfl⟩
      · rw [List.take_add_one, hr] at m
        rcases List.mem_append.mp m with m | m
        · exact hw r' m
        · cases List.mem_singleton.mp m
          exact win
      · by_cases z : i < fs.length
        · rw [List.getElem?_append_left z] at h1
          exact B i f' r' h1 h2
        · rw [List.getElem?_append_right (by omega)] at h1
          have i0 : i - fs.length = 0 := by
            have := (List.getElem?_eq_some_iff.mp h1).1
            rw [List.length_singleton] at this
            omega
          rw [i0] at h1
          cases h1
          rw [show i = j by omega, hr] at h2
          cases h2
          exact ⟨e.1, nn⟩
    · refine k_if_t (by decide +kernel) ?_
      walk_at "ev"
      exact k0 ⟨r, r1, r2, nw⟩
  · rintro t1 e' ⟨rfl, fs, s4, s5, fl, hw, B, rfl⟩
    rw [List.length_map] at fl hw
    rw [List.take_length] at hw
    walk_at "ev"
    have imv := immA_vecs (n := n) (fs := fs)
    refine k_bt (o_tuple_i imv) ?_
    walk_at "ev"
    exact k fs (fun ⟨r, r1, r2, nw⟩ => nw (hw r ((takL_mem T1).mpr ⟨r1, r2⟩))) fl B
end
end
section
local macro_rules | `(tactic| walk_at "imm") => `(tactic| exact immA_rds)
local macro_rules | `(tactic| walk_at "imm") => `(tactic| exact imm_town)
local macro_rules | `(tactic| walk_at "op") => `(tactic| with_reducible exact o_ne_b)
local macro_rules | `(tactic| walk_at "op") => `(tactic| with_reducible exact o_isN)
local macro_rules | `(tactic| walk_at "op") => `(tactic| with_reducible exact o_cut_lm1n)
local macro_rules | `(tactic| walk_at "op") => `(tactic| with_reducible exact o_cut_vm1)
local macro_rules | `(tactic| walk_at "op") => `(tactic| with_reducible exact o_cut_vl)
local macro_rules | `(tactic| walk_at "op") => `(tactic| with_reducible exact o_cut_vh)
local macro_rules | `(tactic| walk_at "op") => `(tactic| with_reducible exact o_idx_t atI_zero rfl)
local macro_rules | `(tactic| walk_at "op") => `(tactic| with_reducible exact o_idx_t atI_one imm_vec)
theorem o_minv {g : Gr} {n : Nat} {f : Nat → Int} (hn : 0 < n) : sMinX [(g, .tup (vec n f))] = some (.own, .int (minI ((List.range n).map f))) := o_min_t (by rw [vec_ints]; exact intsD_map _) (by rw [Ne, List.map_eq_nil_iff, List.range_eq_nil]; omega)
theorem w_xPany {τ : Type} {t : τ} {e : Slots} {i : Nat} {d : D} {Q : RX τ} (h : e[i]? = some (some (false, d))) (k : ∀ g, g ≠ .pk → Q (t, e, g, d)) : wp (xP i t e) Q := by
  cases m : imm d with
  | true => exact w_xP h m (k .own fun w => nomatch w)
  | false => exact w_xPf h m (k .frz fun w => nomatch w)
theorem o_idx_up {g g' : Gr} {ds : List D} {d : D} {j : Nat} (h : ds[j]? = some d) : sIdx (g, .tup ds) (g', .int (j : Int)) = some (up g d) := by
  show (L2.atI ds (j : Int)).map (up g) = _
  rw [atI_nat (List.getElem?_eq_some_iff.mp h).1, h]; rfl
theorem up_imm {g : Gr} {d : D} (h : imm d = true) : up g d = (.own, d) := by unfold up; rw [if_pos h]
theorem up_frz {g : Gr} {d : D} (h : imm d = false) (hg : g ≠ .pk) : up g d = (.frz, d) := by unfold up; rw [if_neg (by rw [h]; exact Bool.false_ne_true), if_neg hg]
def ItB (n : Nat) (d : D) : Prop := (∃ f : Nat → Int, d = .tup (vec n f)) ∨ d = .non ∨ (∃ f : Nat → Int, d = .lst (vec n f)) ∨ ∃ ds, d = .tup ds ∧ immA ds = true ∧ ds.length ≠ n
def GdB (n : Nat) (rs : List (Nat × Nat)) (p : Nat → Int) (r : List Nat) (d : D) : Prop := ∃ f : Nat → Int, d = .tup (vec n f) ∧ minI ((List.range n).map f) = 0 ∧ ∀ h, h < n → 0 ≤ aft rs (pr p r) f h
theorem vec_inj {n : Nat} {f g : Nat → Int} (h : vec n f = vec n g) : ∀ k, k < n → f k = g k := fun k hk => by
  have := congrArg (fun l => l[k]?) h
  unfold vec at this
  rw [List.getElem?_map, List.getElem?_map, List.getElem?_range hk] at this
  injection (Option.some.inj this)
theorem gdb_vec {n : Nat} {rs : List (Nat × Nat)} {p f : Nat → Int} {r : List Nat} (hr : ∀ p ∈ rs, p.1 < n ∧ p.2 < n ∧ p.1 ≠ p.2) : GdB n rs p r (.tup (vec n f)) ↔ minI ((List.range n).map f) = 0 ∧ ∀ h, h < n → 0 ≤ aft rs (pr p r) f h := by
  refine ⟨fun ⟨g, e, h1, h2⟩ => ?_, fun h => ⟨f, rfl, h⟩⟩
  injection e with e
  have e := vec_inj e
  have e1 : (List.range n).map f = (List.range n).map g := List.map_congr_left fun k m => e k (List.mem_range.mp m)
  refine ⟨by rw [e1]; exact h1, fun h hh => ?_⟩
  have := h2 h hh
  have := lap_congr hr e hh
  unfold aft at *
  omega
theorem min_ge {n : Nat} {f : Nat → Int} (hn : 0 < n) : 0 ≤ minI ((List.range n).map f) ↔ ∀ h, h < n → 0 ≤ f h := by
  refine ⟨fun w h hh => Int.le_trans w (min_le (List.mem_map.mpr ⟨h, List.mem_range.mpr hh, rfl⟩)), fun w => ?_⟩
  obtain ⟨x, mx, ex⟩ := List.mem_map.mp (min_mem (vmin_ne (f := f) hn))
  rw [← ex]
  exact w x (List.mem_range.mp mx)
def AllB (n : Nat) (rs : List (Nat × Nat)) (p : Nat → Int) (c : Nat) (ds : List D) (j : Nat) : Prop := ∀ i r d, i < j → (takL n c)[i]? = some r → ds[i]? = some d → GdB n rs p r d
def OkB' (n : Nat) (rs : List (Nat × Nat)) (p : Nat → Int) (c : Nat) (ds : List D) : Prop := ds.length = (takL n c).length ∧ AllB n rs p c ds (takL n c).length
section
variable {n c : Nat} {rs : List (Nat × Nat)} {p : Nat → Int} {ds : List D} {t : Tpa} {Q : Tpa × Bool × D → Prop}
theorem take_lt (n4 : n ≤ 4) (c3 : c ≤ 3) : (takL n c).length ≤ 16777216 := by
  unfold takL
  rw [List.length_map]
  exact Nat.le_trans (tk_len _) (Nat.le_trans (Nat.pow_le_pow_left (by omega : c + 1 ≤ 4) _) (Nat.le_trans (Nat.pow_le_pow_right (by decide) (by omega : n - 1 ≤ 12)) (by decide)))
theorem a_bear (G : GoodT n rs) (n4 : n ≤ 4) (c3 : c ≤ 3) (hp : ∀ h, h < n → (p h).natAbs ≤ 30) (hd : ∀ d ∈ ds, ItB n d) (k : ∀ b : Bool, (b = true ↔ OkB' n rs p c ds) → Q (t, true, .bl b)) : wp (ph_accepts_bearing t [townD n rs, .tup (vec n p), .int (c : Int), .tup ds]) Q := by
  obtain ⟨T1, T2, T3, T4⟩ := id G.T
  have tl := take_lt (n := n) n4 c3
  have no : ¬ OkB' n rs p c ds → Q (t, true, .bl false) := fun h => k false ⟨fun z => (nomatch z), fun z => absurd z h⟩
  unfold ph_accepts_bearing bd_accepts_bearing
  walk_at "ev"
  refine w_is_town G ?_
  walk_at "ev"
  refine w_is_purses (fun h hh => by have := hp h hh; omega) ?_
  walk_at "ev"
  refine w_is_whole ?_
  rw [decide_eq_true (by omega)]
  walk_at "ev"
  refine w_takings T1 (by omega) (by omega) ?_
  walk_at "ev"
  refine w_xPany rfl fun g hg => ?_
  walk_at "ev"
  refine w_xPany rfl fun g2 hg2 => ?_
  walk_at "ev"
  rw [List.length_map]
  by_cases z : ds.length = (takL n c).length
  · refine k_if_f (by rw [decide_eq_true (by omega)]; rfl) ?_
    walk_at "ev"
    rw [List.length_map]
    refine k_forRn (by omega) ?_
    refine w_for (fun j t1 e' => t1 = t ∧ AllB n rs p c ds j ∧ ∃ s5, e' = [some (false, townD n rs), some (false, .tup (vec n p)), some (false, .int (c : Int)), some (false, .tup ds), some (true, .lst (rowsD (takL n c))), s5]) _ ⟨rfl, fun i r d h => (by omega), _, rfl⟩ ?_ ?_
    · rintro j y t1 e' hy ⟨rfl, A, s5, rfl⟩
      obtain ⟨hj, rfl⟩ := rgD_some hy
      rw [Int.zero_add]
      obtain ⟨r, hr⟩ : ∃ r, (takL n c)[j]? = some r := ⟨_, List.getElem?_eq_getElem hj⟩
      obtain ⟨d, hd'⟩ : ∃ d, ds[j]? = some d := ⟨_, List.getElem?_eq_getElem (by omega)⟩
      obtain ⟨r1, r2⟩ := (takL_mem T1).mp (List.mem_of_getElem? hr)
      have bad : ¬ GdB n rs p r d → ¬ OkB' n rs p c ds := fun w h => w (h.2 j r d hj hr hd')
      apply w_eq (by walk_at "asg")
      walk_at "ev"
      refine w_xPany rfl fun g3 hg3 => ?_
      walk_at "ev"
      refine k_2b (o_idx_up hd') ?_
      rcases hd d (List.mem_of_getElem? hd') with ⟨f, rfl⟩ | rfl | ⟨f, rfl⟩ | ⟨es, rfl, ie, le⟩
      · have imf : imm (.tup (vec n f)) = true := imm_vec
        rw [up_imm imf]
        walk_at "ev"
        refine w_is_script ?_
        walk_at "ev"
        refine w_xPany rfl fun g4 hg4 => ?_
        walk_at "ev"
        refine k_2b (o_idx_up hd') ?_
        rw [up_imm imf]
        walk_at "ev"
        refine k_bt (o_minv T1) ?_
        walk_at "ev"
        by_cases y : minI ((List.range n).map f) = 0
        · refine k_if_f (by rw [decide_eq_true y]; rfl) ?_
          walk_at "ev"
          refine k_2b (o_idx_l (d := .tup (natsD r)) (by rw [atI_nat (by show j < (rowsD (takL n c)).length; rw [show (rowsD (takL n c)).length = (takL n c).length from List.length_map _]; exact hj)]; unfold rowsD; rw [List.getElem?_map, hr]; rfl) immA_nats) ?_
          walk_at "ev"
          rw [row_vecN r1]
          refine w_less T2 ?_
          walk_at "ev"
          refine w_xPany rfl fun g5 hg5 => ?_
          walk_at "ev"
          refine k_2b (o_idx_up hd') ?_
          rw [up_imm imf]
          walk_at "ev"
          refine w_after G.T ?_
          walk_at "ev"
          refine k_bt (o_minv T1) ?_
          walk_at "ev"
          by_cases x : 0 ≤ minI ((List.range n).map (aft rs (pr p r) f))
          · refine k_if_f (decide_eq_false (show ¬ minI ((List.range n).map (aft rs (pr p r) f)) < 0 by omega)) ?_
            walk_at "ev"
            refine ⟨rfl, fun i r' d' hi h1 h2 => ?_, _, rfl⟩
            by_cases w : i = j
            · subst w
              rw [hr] at h1; cases h1
              rw [hd'] at h2; cases h2
              exact (gdb_vec T4).mpr ⟨y, (min_ge T1).mp x⟩
            · exact A i r' d' (by omega) h1 h2
          · refine k_if_t (decide_eq_true (show minI ((List.range n).map (aft rs (pr p r) f)) < 0 by omega)) ?_
            walk_at "ev"
            exact no (bad fun w => x ((min_ge T1).mpr ((gdb_vec T4).mp w).2))
        · refine k_if_t (by rw [decide_eq_false y]; rfl) ?_
          walk_at "ev"
          exact no (bad fun w => y ((gdb_vec T4).mp w).1)
      · rw [up_imm rfl]
        walk_at "ev"
        unfold ph_is_script bd_is_script
        walk_at "ev"
        exact no (bad fun ⟨_, e, _⟩ => nomatch e)
      · rw [up_frz rfl hg3]
        walk_at "ev"
        unfold ph_is_script bd_is_script
        walk_at "ev"
        exact no (bad fun ⟨_, e, _⟩ => nomatch e)
      · have imf : imm (.tup es) = true := ie
        rw [up_imm imf]
        walk_at "ev"
        unfold ph_is_script bd_is_script
        walk_at "ev"
        refine k_if_t (by rw [decide_eq_false (by omega)]; rfl) ?_
        walk_at "ev"
        exact no (bad fun ⟨f, e, _⟩ => le (by injection e with e; rw [e, vec_len]))
    · rintro t1 e' ⟨rfl, A, s5, rfl⟩
      rw [rgD_len] at A
      walk_at "ev"
      exact k true ⟨fun _ => ⟨z, A⟩, fun _ => rfl⟩
  · refine k_if_t (by rw [decide_eq_false (by omega)]; rfl) ?_
    walk_at "ev"
    exact no fun w => z w.1
theorem a_bear_non (G : GoodT n rs) (n4 : n ≤ 4) (c3 : c ≤ 3) (hp : ∀ h, h < n → (p h).natAbs ≤ 30) {v : D} (hv : v = .non ∨ ∃ es, v = .lst es) (k : Q (t, true, .bl false)) : wp (ph_accepts_bearing t [townD n rs, .tup (vec n p), .int (c : Int), v]) Q := by
  obtain ⟨T1, T2, T3, T4⟩ := id G.T
  unfold ph_accepts_bearing bd_accepts_bearing
  walk_at "ev"
  refine w_is_town G ?_
  walk_at "ev"
  refine w_is_purses (fun h hh => by have := hp h hh; omega) ?_
  walk_at "ev"
  refine w_is_whole ?_
  rw [decide_eq_true (by omega)]
  walk_at "ev"
  refine w_takings T1 (by omega) (by omega) ?_
  walk_at "ev"
  refine w_xPany rfl fun g hg => ?_
  rcases hv with rfl | ⟨es, rfl⟩
  · walk_at "ev"
    exact k
  · walk_at "ev"
    exact k
theorem l_bear_non (G : GoodT n rs) (n4 : n ≤ 4) (c3 : c ≤ 3) {v : D} (hv : v = .non ∨ ∃ es, v = .lst es) (k : Q (t, true, .bl false)) : wp (ph_l_bearing_right t [townD n rs, .tup (vec n p), .int (c : Int), v]) Q := by
  obtain ⟨T1, T2, T3, T4⟩ := id G.T
  unfold ph_l_bearing_right bd_l_bearing_right
  walk_at "ev"
  refine w_l_takings T1 (by omega) (by omega) ?_
  walk_at "ev"
  refine w_xPany rfl fun g hg => ?_
  rcases hv with rfl | ⟨es, rfl⟩
  · walk_at "ev"
    exact k
  · walk_at "ev"
    exact k
theorem l_bear (G : GoodT n rs) (n4 : n ≤ 4) (c3 : c ≤ 3) (hd : ∀ d ∈ ds, ItB n d) (k : ∀ b : Bool, (b = true ↔ OkB' n rs p c ds) → Q (t, true, .bl b)) : wp (ph_l_bearing_right t [townD n rs, .tup (vec n p), .int (c : Int), .tup ds]) Q := by
  obtain ⟨T1, T2, T3, T4⟩ := id G.T
  have tl := take_lt (n := n) n4 c3
  have no : ¬ OkB' n rs p c ds → Q (t, true, .bl false) := fun h => k false ⟨fun z => (nomatch z), fun z => absurd z h⟩
  unfold ph_l_bearing_right bd_l_bearing_right
  walk_at "ev"
  refine w_l_takings T1 (by omega) (by omega) ?_
  walk_at "ev"
  refine w_xPany rfl fun g hg => ?_
  walk_at "ev"
  refine w_xPany rfl fun g2 hg2 => ?_
  walk_at "ev"
  rw [List.length_map]
  by_cases z : ds.length = (takL n c).length
  · refine k_if_f (by rw [decide_eq_true (by omega)]; rfl) ?_
    walk_at "ev"
    rw [List.length_map]
    refine k_forRn (by omega) ?_
    refine w_for (fun j t1 e' => t1 = t ∧ AllB n rs p c ds j ∧ ∃ s5, e' = [some (false, townD n rs), some (false, .tup (vec n p)), some (false, .int (c : Int)), some (false, .tup ds), some (true, .lst (rowsD (takL n c))), s5, none]) _ ⟨rfl, fun i r d h => (by omega), _, rfl⟩ ?_ ?_
    · rintro j y t1 e' hy ⟨rfl, A, s5, rfl⟩
      obtain ⟨hj, rfl⟩ := rgD_some hy
      rw [Int.zero_add]
      obtain ⟨r, hr⟩ : ∃ r, (takL n c)[j]? = some r := ⟨_, List.getElem?_eq_getElem hj⟩
      obtain ⟨d, hd'⟩ : ∃ d, ds[j]? = some d := ⟨_, List.getElem?_eq_getElem (by omega)⟩
      obtain ⟨r1, r2⟩ := (takL_mem T1).mp (List.mem_of_getElem? hr)
      have bad : ¬ GdB n rs p r d → ¬ OkB' n rs p c ds := fun w h => w (h.2 j r d hj hr hd')
      apply w_eq (by walk_at "asg")
      walk_at "ev"
      refine w_xPany rfl fun g3 hg3 => ?_
      walk_at "ev"
      refine k_2b (o_idx_up hd') ?_
      rcases hd d (List.mem_of_getElem? hd') with ⟨f, rfl⟩ | rfl | ⟨f, rfl⟩ | ⟨es, rfl, ie, le⟩
      · have imf : imm (.tup (vec n f)) = true := imm_vec
        rw [up_imm imf]
        walk_at "ev"
        refine w_l_scriptO (g := fun k => .inl (f k)) ?_
        rw [allI]
        walk_at "ev"
        refine w_xPany rfl fun g4 hg4 => ?_
        walk_at "ev"
        refine k_2b (o_idx_up hd') ?_
        rw [up_imm imf]
        walk_at "ev"
        refine k_2b (o_head (vmin_ne T1)) ?_
        walk_at "ev"
        by_cases y : minI ((List.range n).map f) = 0
        · refine k_if_f (by rw [decide_eq_true y]; rfl) ?_
          walk_at "ev"
          refine k_LcRn (by omega) (by walk_at "set") ?_
          refine w_lcr n (pr p r) (fun a ha => ?_) ?_
          · apply w_eq (by walk_at "asg")
            walk_at "ev"
            refine k_2b (o_idx_l (d := .tup (natsD r)) (by rw [atI_nat (by show j < (rowsD (takL n c)).length; rw [show (rowsD (takL n c)).length = (takL n c).length from List.length_map _]; exact hj)]; unfold rowsD; rw [List.getElem?_map, hr]; rfl) immA_nats) ?_
            rw [row_vecN r1]
            walk_at "ev"
            exact ⟨rfl, rfl⟩
          walk_at "ev"
          refine w_xPany rfl fun g5 hg5 => ?_
          walk_at "ev"
          refine k_2b (o_idx_up hd') ?_
          rw [up_imm imf]
          walk_at "ev"
          refine w_l_after G.T ?_
          walk_at "ev"
          refine k_2b (o_head (vmin_ne T1)) ?_
          walk_at "ev"
          by_cases x : 0 ≤ minI ((List.range n).map (aft rs (pr p r) f))
          · refine k_if_f (decide_eq_false (show ¬ minI ((List.range n).map (aft rs (pr p r) f)) < 0 by omega)) ?_
            walk_at "ev"
            refine ⟨rfl, fun i r' d' hi h1 h2 => ?_, _, rfl⟩
            by_cases w : i = j
            · subst w
              rw [hr] at h1; cases h1
              rw [hd'] at h2; cases h2
              exact (gdb_vec T4).mpr ⟨y, (min_ge T1).mp x⟩
            · exact A i r' d' (by omega) h1 h2
          · refine k_if_t (decide_eq_true (show minI ((List.range n).map (aft rs (pr p r) f)) < 0 by omega)) ?_
            walk_at "ev"
            exact no (bad fun w => x ((min_ge T1).mpr ((gdb_vec T4).mp w).2))
        · refine k_if_t (by rw [decide_eq_false y]; rfl) ?_
          walk_at "ev"
          exact no (bad fun w => y ((gdb_vec T4).mp w).1)
      · rw [up_imm rfl]
        walk_at "ev"
        unfold ph_l_script bd_l_script
        walk_at "ev"
        exact no (bad fun ⟨_, e, _⟩ => nomatch e)
      · rw [up_frz rfl hg3]
        walk_at "ev"
        unfold ph_l_script bd_l_script
        walk_at "ev"
        exact no (bad fun ⟨_, e, _⟩ => nomatch e)
      · have imf : imm (.tup es) = true := ie
        rw [up_imm imf]
        walk_at "ev"
        unfold ph_l_script bd_l_script
        walk_at "ev"
        refine k_and_f (decide_eq_false (by omega)) ?_
        walk_at "ev"
        exact no (bad fun ⟨f, e, _⟩ => le (by injection e with e; rw [e, vec_len]))
    · rintro t1 e' ⟨rfl, A, s5, rfl⟩
      rw [rgD_len] at A
      walk_at "ev"
      exact k true ⟨fun _ => ⟨z, A⟩, fun _ => rfl⟩
  · refine k_if_t (by rw [decide_eq_false (by omega)]; rfl) ?_
    walk_at "ev"
    exact no fun w => z w.1
end
end
section
local macro_rules | `(tactic| walk_at "imm") => `(tactic| exact immA_rds)
local macro_rules | `(tactic| walk_at "imm") => `(tactic| exact imm_town)
local macro_rules | `(tactic| walk_at "op") => `(tactic| with_reducible exact o_ne_b)
local macro_rules | `(tactic| walk_at "op") => `(tactic| with_reducible exact o_isN)
local macro_rules | `(tactic| walk_at "op") => `(tactic| with_reducible exact o_cut_lm1n)
local macro_rules | `(tactic| walk_at "op") => `(tactic| with_reducible exact o_cut_vm1)
local macro_rules | `(tactic| walk_at "op") => `(tactic| with_reducible exact o_cut_vl)
local macro_rules | `(tactic| walk_at "op") => `(tactic| with_reducible exact o_cut_vh)
local macro_rules | `(tactic| walk_at "op") => `(tactic| with_reducible exact o_idx_t atI_zero rfl)
local macro_rules | `(tactic| walk_at "op") => `(tactic| with_reducible exact o_idx_t atI_one imm_vec)
theorem cut01 {n : Nat} {f : Nat → Int} {w : Str} {tail : List D} : sCut (Gr.own, .tup (.str w :: .tup (vec n f) :: tail)) none (some 1) = some (.own, .tup [.str w]) := o_cut_t (by
  rw [show (1 : Int) = ((1 : Nat) : Int) from rfl, cut_hi]; rfl) rfl
theorem cut1n {n : Nat} {f : Nat → Int} {w : Str} {tail : List D} (h : immA tail = true) : sCut (Gr.own, .tup (.str w :: .tup (vec n f) :: tail)) (some 1) none = some (.own, .tup (.tup (vec n f) :: tail)) := o_cut_t (by
  rw [show (1 : Int) = ((1 : Nat) : Int) from rfl, cut_lo]; rfl) (by show (imm (.tup (vec n f)) && immA tail) = true; rw [imm_vec, h]; rfl)
theorem cut02 {n : Nat} {f : Nat → Int} {w : Str} {tail : List D} : sCut (Gr.own, .tup (.str w :: .tup (vec n f) :: tail)) none (some 2) = some (.own, .tup [.str w, .tup (vec n f)]) := o_cut_t (by
  rw [show (2 : Int) = ((2 : Nat) : Int) from rfl, cut_hi]; rfl) (by show (true && (imm (.tup (vec n f)) && true)) = true; rw [imm_vec]; rfl)
theorem mid_O {n a : Nat} {f : Nat → Int} {b : Nat} (h : a < n) : (vec n f).take a ++ [OVD (.inr b)] ++ (vec n f).drop (a + 1) = vecO n (fun i => if i = a then .inr b else .inl (f i)) := by
  have e : (vec n f).set a (OVD (.inr b)) = vecO n (fun i => if i = a then .inr b else .inl (f i)) := by
    refine List.ext_getElem? fun i => ?_
    unfold vecO
    rw [List.getElem?_set, vec_len, List.getElem?_map]
    unfold vec
    rw [List.getElem?_map]
    by_cases hi : i < n
    · rw [List.getElem?_range hi]
      by_cases z : a = i
      · subst z
        rw [if_pos rfl, if_pos h, Option.map_some]
        exact congrArg (fun z => some (OVD z)) (if_pos rfl).symm
      · rw [if_neg z, Option.map_some, Option.map_some]
        exact congrArg (fun w => some (OVD w)) (if_neg (c := i = a) (t := Sum.inr b) (e := Sum.inl (f i)) (Ne.symm z)).symm
    · rw [List.getElem?_eq_none (by rw [List.length_range]; omega)]
      rw [if_neg (by omega)]; rfl
  rw [← e, List.set_eq_take_append_cons_drop, if_pos (by rw [vec_len]; exact h), List.append_assoc]
  rfl
def whO : Int ⊕ Nat → Bool
  | .inl z => decide (0 ≤ z ∧ z ≤ 999)
  | .inr _ => false
theorem w_is_wholeO {x : Int ⊕ Nat} {t : Tpa} {Q : Tpa × Bool × D → Prop} (k : Q (t, true, .bl (whO x))) : wp (ph_is_whole t [OVD x, .int 0, .int 999]) Q := by
  rcases x with z | b
  · exact w_is_whole k
  · rcases b with _ | _ | b
    · unfold ph_is_whole bd_is_whole
      walk_at "ev"
      exact k
    · unfold ph_is_whole bd_is_whole
      walk_at "ev"
      exact k
    · unfold ph_is_whole bd_is_whole
      walk_at "ev"
      exact k
theorem w_is_pursesB {n : Nat} {rs : List (Nat × Nat)} {f : Nat → Int} {t : Tpa} {Q : Tpa × Bool × D → Prop} (k : Q (t, true, .bl ((List.range n).all fun h => decide ((f h).natAbs ≤ 999)))) : wp (ph_is_purses t [.tup (vec n f), townD n rs]) Q := by
  unfold ph_is_purses bd_is_purses
  walk_at "ev"
  refine w_is_rowV ?_
  walk_at "ev"
  refine k_Lc (itmsC_tm (l := List.range n) (F := fun k => .int (f k)) fun _ => rfl) (by walk_at "set") ?_
  refine w_lc_all _ _ (fun h => .bl (decide ((f h).natAbs ≤ 999))) (fun a m => ?_) ?_
  · apply w_eq (by walk_at "asg")
    walk_at "ev"
    refine k_bt rfl ?_
    walk_at "ev"
    refine ⟨rfl, congrArg (fun b => ((Gr.own, D.bl b) : GD)) (decide_eq_decide.mpr ?_)⟩
    split <;> omega
  walk_at "ev"
  exact k
/-- the papers at hand -/
def PpT (n : Nat) (d : D) : Prop := (∃ w f tail, d = .tup (.str w :: .tup (vec n f) :: tail) ∧ WW w ∧ TP n tail) ∨ d = .non
theorem PpT.im {n : Nat} {d : D} (h : PpT n d) : imm d = true := by
  rcases h with ⟨w, f, tail, rfl, hw, ht⟩ | rfl
  · show (true && (imm (.tup (vec n f)) && immA tail)) = true
    rw [imm_vec, ht.imm]; rfl
  · rfl
def VT (n : Nat) (v : D) : Prop := (∃ g d, v = .tup [.tup (vecO n g), d] ∧ PpT n d) ∨ (∃ (f : Nat → Int) (d : D), v = .tup [.lst (vec n f), d] ∧ PpT n d) ∨ (∃ es d, v = .tup [.tup es, d] ∧ immA es = true ∧ es.length ≠ n ∧ PpT n d) ∨ (∃ es, v = .tup es ∧ immA es = true ∧ es.length ≠ 2) ∨ v = .non ∨ v = .int 5
def Both (n : Nat) (rs : List (Nat × Nat)) (p : Nat → Int) (t : Tpa) (v : D) : Prop := ∃ b : Bool, (∀ {Q : Tpa × Bool × D → Prop}, Q (t, true, .bl b) → wp (ph_accepts_taking t [townD n rs, .tup (vec n p), v]) Q) ∧ ∀ {Q : Tpa × Bool × D → Prop}, Q (t, true, .bl b) → wp (ph_l_taking_right t [townD n rs, .tup (vec n p), v]) Q
section
variable {n : Nat} {rs : List (Nat × Nat)} {p : Nat → Int} {v : D} {t : Tpa}
theorem two_im {a b : D} (h1 : imm a = true) (h2 : imm b = true) : imm (.tup [a, b]) = true := by
  show (imm a && (imm b && true)) = true
  rw [h1, h2]; rfl
theorem deq_one {a b : Str} : deq (.tup [.str a]) (.tup [.str b]) = decide (a = b) := by
  show PyData.eqv (.tuple [.str a]) (.tuple [.str b]) = _
  have h1 : PyData.eqvAll ([] : List PyData) [] = true := by rw [PyData.eqvAll]
  rw [PyData.eqv, PyData.eqvAll, h1, show PyData.eqv (.str a) (.str b) = decide (a = b) from deq_str, Bool.and_true]
theorem one_w {w : Str} {g g' : Gr} (hw : WW w) : sEq true (g, .tup [.str w]) (g', .tup [.str (Str.ofString "never")]) = some (.own, .bl (!decide (w = Str.ofString "never"))) := by
  have cw : cok 8 (.tup [.str w]) = true := by
    rcases hw with rfl | rfl | rfl <;> decide +kernel
  have cn : cok 8 (.tup [.str (Str.ofString "never")]) = true := by decide +kernel
  show (if cok 8 (.tup [.str w]) && cok 8 (.tup [.str (Str.ofString "never")]) then some (Gr.own, D.bl (true ^^ deq (.tup [.str w]) (.tup [.str (Str.ofString "never")]))) else none) = _
  rw [cw, cn, deq_one]
  simp
def zI : Int ⊕ Nat → Int
  | .inl z => z
  | .inr _ => 0
theorem vecO_ints {g : Nat → Int ⊕ Nat} (h : ((List.range n).all fun i => isI (g i)) = true) : ∃ f : Nat → Int, vecO n g = vec n f ∧ (∀ k, k < n → g k = .inl (f k)) ∧ f = fun k => zI (g k) := by
  have e : ∀ k, k < n → g k = .inl (zI (g k)) := fun k hk => by
    have := List.all_eq_true.mp h k (List.mem_range.mpr hk)
    cases e : g k with
    | inl z => rfl
    | inr b => rw [e] at this; cases this
  exact ⟨fun k => zI (g k), List.map_congr_left fun k m => by rw [e k (List.mem_range.mp m)]; rfl, e, rfl⟩
def CT (n : Nat) (p f : Nat → Int) (d : D) : Prop := (((List.range n).all fun h => decide ((p h - f h).natAbs ≤ 999)) = true ∧ ∃ w f' tail, d = .tup (.str w :: .tup (vec n f') :: tail) ∧ WW w ∧ TP n tail ∧ w = Str.ofString "never")
theorem len_gt {α : Type} {l : List α} : decide ((0 : Int) < ((l.length : Nat) : Int)) = !l.isEmpty := by
  cases l with
  | nil => rfl
  | cons a l => exact decide_eq_true (by rw [List.length_cons]; omega)
theorem er_congr (hr : ∀ p ∈ rs, p.1 < n ∧ p.2 < n ∧ p.1 ≠ p.2) {q f f2 : Nat → Int} {w : Str} {tail : List D} (tp : TP n tail) (e : vec n f = vec n f2) (h : ER n rs q f w tail) : ER n rs q f2 w tail := by
  have e := vec_inj e
  have e1 : (List.range n).map f = (List.range n).map f2 := List.map_congr_left fun k m => e k (List.mem_range.mp m)
  have e2 : ∀ h, h < n → aft rs q f h = aft rs q f2 h := fun h hh => by
    have := lap_congr hr e hh
    unfold aft
    omega
  have e3 : (List.range n).map (aft rs q f) = (List.range n).map (aft rs q f2) := List.map_congr_left fun k m => e2 k (List.mem_range.mp m)
  obtain ⟨a, b⟩ := h
  refine ⟨by rw [← e1]; exact a, ?_⟩
  rcases b with ⟨b1, b2, b3⟩ | ⟨b1, l, b2, b3, b4⟩
  · exact .inl ⟨b1, b2, by rw [← e3]; exact b3⟩
  · refine .inr ⟨b1, l, b2, b3, fun k h hk => ?_⟩
    have hh : h < n := by
      rcases tp with x | ⟨l', x, y, _⟩
      · rw [x] at b2; cases b2
      · rw [x] at b2
        have := nats_one b2
        rw [this] at y
        exact y h (List.mem_of_getElem? hk)
    rw [← e2 h hh]
    exact b4 k h hk
def EX (n : Nat) (rs : List (Nat × Nat)) (q : Nat → Int) (d : D) : Prop := ∃ w f' tail, d = .tup (.str w :: .tup (vec n f') :: tail) ∧ WW w ∧ TP n tail ∧ ER n rs q f' w tail
theorem both_row (G : GoodT n rs) (hp : ∀ h, h < n → (p h).natAbs ≤ 30) {g : Nat → Int ⊕ Nat} {d : D} (hd : PpT n d) : ∃ b : Bool, (∀ {Q : Tpa × Bool × D → Prop}, Q (t, true, .bl b) → wp (ph_accepts_taking t [townD n rs, .tup (vec n p), .tup [.tup (vecO n g), d]]) Q) ∧ (∀ {Q : Tpa × Bool × D → Prop}, Q (t, true, .bl b) → wp (ph_l_taking_right t [townD n rs, .tup (vec n p), .tup [.tup (vecO n g), d]]) Q) ∧ (((List.range n).all fun i => whO (g i)) = true → CT n p (fun k => zI (g k)) d → EX n rs (fun k => p k - zI (g k)) d → b = true) := by
  obtain ⟨T1, T2, T3, T4⟩ := id G.T
  have imd := hd.im
  have imo : imm (.tup (vecO n g)) = true := immA_vecO
  have im2 := two_im imo imd
  have atrue : (List.range n).all (fun _ => true) = true := List.all_eq_true.mpr fun _ _ => rfl
  by_cases A : ((List.range n).all fun i => whO (g i)) = true
  · have AI : ((List.range n).all fun i => isI (g i)) = true := List.all_eq_true.mpr fun i m => by
      have := List.all_eq_true.mp A i m
      cases e : g i with
      | inl z => rfl
      | inr b => rw [e] at this; cases this
    obtain ⟨f, ef, hf, fz⟩ := vecO_ints AI
    have rg : ∀ k, k < n → 0 ≤ f k ∧ f k ≤ 999 := fun k hk => by
      have := List.all_eq_true.mp A k (List.mem_range.mpr hk)
      rw [hf k hk] at this
      exact of_decide_eq_true this
    have imf : imm (.tup (vec n f)) = true := imm_vec
    obtain ⟨b, c1, c2, nb, good⟩ : ∃ b : Bool, (∀ {Q : Tpa × Bool × D → Prop}, CT n p f d → Q (t, true, .bl b) → wp (ph_accepts_end t [townD n rs, .tup (vec n fun k => p k - f k), d]) Q) ∧
        (∀ {Q : Tpa × Bool × D → Prop}, CT n p f d → Q (t, true, .bl b) → wp (ph_l_end_right t [townD n rs, .tup (vec n fun k => p k - f k), d]) Q) ∧ (¬ CT n p f d → b = false) ∧ (CT n p f d → EX n rs (fun k => p k - f k) d → b = true) := by
      by_cases C : CT n p f d
      · obtain ⟨C1, w, f', tail, rfl, hw, tp, hn⟩ := id C
        have e : ∀ r : Bool, (r = true ↔ ER n rs (fun k => p k - f k) f' w tail) → r = @decide (EX n rs (fun k => p k - f k) (.tup (.str w :: .tup (vec n f') :: tail))) (Classical.propDecidable _) := fun r h => by
          cases r with
          | true => exact (@decide_eq_true _ (Classical.propDecidable _) ⟨w, f', tail, rfl, hw, tp, h.mp rfl⟩).symm
          | false => exact (@decide_eq_false _ (Classical.propDecidable _) fun ⟨w2, f2, tail2, e, _, tp2, er⟩ => by
              injection e with e
              injection e with e1 e
              injection e with e2 e3
              injection e1 with e1
              injection e2 with e2
              subst e1 e3
              exact nomatch h.mpr (er_congr T4 tp e2.symm er)).symm
        have bd : ∀ h, h < n → ((fun k => p k - f k) h).natAbs ≤ 999 := fun h hh => of_decide_eq_true (List.all_eq_true.mp C1 h (List.mem_range.mpr hh))
        exact ⟨_, fun _ q => a_end_int G bd hw tp.tl fun r h => by rw [e r h]; exact q, fun _ q => l_end_int G.T hw tp.tl fun r h => by rw [e r h]; exact q, fun z => absurd C z, fun _ x => @decide_eq_true _ (Classical.propDecidable _) x⟩
      · exact ⟨false, fun z => absurd z C, fun z => absurd z C, fun _ => rfl, fun z => absurd z C⟩
    rw [ef] at im2
    refine ⟨b, fun {Q} q => ?_, fun {Q} q => ?_, fun _ z1 z2 => by subst fz; exact good z1 z2⟩
    · have cn : ¬ CT n p f d → Q (t, true, .bl false) := fun z => by rw [nb z] at q; exact q
      unfold ph_accepts_taking bd_accepts_taking
      rw [ef]
      walk_at "ev"
      refine w_is_town G ?_
      walk_at "ev"
      refine w_is_purses (fun h hh => by have := hp h hh; omega) ?_
      walk_at "ev"
      rw [vec_len]
      refine k_orT_f (by rw [decide_eq_true rfl]; rfl) ?_
      walk_at "ev"
      refine k_Lc (itmsC_tm (l := List.range n) (F := fun k => .int (f k)) fun _ => rfl) (by walk_at "set") ?_
      refine w_lc_all _ _ (fun _ => .bl true) (fun a m => ?_) ?_
      · have := rg a (List.mem_range.mp m)
        apply w_eq (by walk_at "asg")
        walk_at "ev"
        refine w_is_whole ?_
        rw [decide_eq_true this]
        walk_at "ev"
        exact ⟨rfl, rfl⟩
      walk_at "ev"
      rw [atrue]
      walk_at "ev"
      refine w_less T2 ?_
      walk_at "ev"
      rcases hd with ⟨w, f', tail, rfl, hw, tp⟩ | rfl
      · walk_at "ev"
        refine k_cut cut01 ?_
        walk_at "ev"
        refine k_2b (one_w hw) ?_
        walk_at "ev"
        by_cases z : w = Str.ofString "never"
        · refine k_if_f (by rw [decide_eq_true z]; rfl) ?_
          walk_at "ev"
          refine w_is_pursesB ?_
          walk_at "ev"
          by_cases y : ((List.range n).all fun h => decide ((p h - f h).natAbs ≤ 999)) = true
          · refine k_and_t y ?_
            walk_at "ev"
            refine c1 ⟨y, w, f', tail, rfl, hw, tp, z⟩ ?_
            walk_at "ev"
            exact q
          · refine k_and_f (Bool.eq_false_iff.mpr y) ?_
            walk_at "ev"
            exact cn fun w => y w.1
        · refine k_if_t (by rw [decide_eq_false z]; rfl) ?_
          walk_at "ev"
          exact cn fun ⟨_, w', f2, t2, e, _, _, e2⟩ => z (by injection e with e; injection e with e _; injection e with e; rw [e]; exact e2)
      · walk_at "ev"
        exact cn fun ⟨_, w', f2, t2, e, _⟩ => nomatch e
    · have cn : ¬ CT n p f d → Q (t, true, .bl false) := fun z => by rw [nb z] at q; exact q
      unfold ph_l_taking_right bd_l_taking_right
      rw [ef]
      walk_at "ev"
      rw [vec_len]
      refine k_if_f (by rw [decide_eq_true rfl]; rfl) ?_
      walk_at "ev"
      refine w_l_scriptO (g := fun k => .inl (f k)) ?_
      rw [allI]
      walk_at "ev"
      refine k_Lc (itmsC_tm (l := List.range n) (F := fun k => .int (f k)) fun _ => rfl) (by walk_at "set") ?_
      refine w_lc_pure _ _ (fun k => .int (f k)) (fun _ => false) (fun a m => ?_) ?_
      · have := rg a (List.mem_range.mp m)
        apply w_eq (by walk_at "asg")
        walk_at "ev"
        refine k_orT_f (decide_eq_false (by omega)) ?_
        walk_at "ev"
        exact ⟨rfl, decide_eq_false (by omega), fun w => nomatch w⟩
      rw [List.filter_eq_nil_iff.mpr fun i m => Bool.false_ne_true]
      walk_at "ev"
      refine k_LcRn (by omega) (by walk_at "set") ?_
      refine w_lcr n (fun k => p k - f k) (fun a ha => ?_) ?_
      · apply w_eq (by walk_at "asg")
        walk_at "ev"
        exact ⟨rfl, rfl⟩
      walk_at "ev"
      have imq : imm (.tup (vec n fun k => p k - f k)) = true := imm_vec
      refine k_Lc (itmsC_tm (l := List.range n) (F := fun k => .int (p k - f k)) fun _ => rfl) (by walk_at "set") ?_
      refine w_lc_pure _ _ (fun k => .int (p k - f k)) (fun k => !decide ((p k - f k).natAbs ≤ 999)) (fun a m => ?_) ?_
      · apply w_eq (by walk_at "asg")
        walk_at "ev"
        refine k_bt rfl ?_
        walk_at "ev"
        refine ⟨rfl, ?_, fun _ => ?_⟩
        · rw [← decide_not]
          refine decide_eq_decide.mpr ?_
          split <;> omega
        · walk_at "ev"
          exact ⟨rfl, rfl⟩
      walk_at "ev"
      rw [List.length_map, len_gt]
      by_cases y : ((List.range n).all fun h => decide ((p h - f h).natAbs ≤ 999)) = true
      · have fe : (List.range n).filter (fun k => !decide ((p k - f k).natAbs ≤ 999)) = [] := List.filter_eq_nil_iff.mpr fun i m => by rw [List.all_eq_true.mp y i m]; exact Bool.false_ne_true
        refine k_orT_f (by rw [fe]; rfl) ?_
        rcases hd with ⟨w, f', tail, rfl, hw, tp⟩ | rfl
        · walk_at "ev"
          refine k_cut cut01 ?_
          walk_at "ev"
          refine k_2b (one_w hw) ?_
          walk_at "ev"
          by_cases z : w = Str.ofString "never"
          · refine k_if_f (by rw [decide_eq_true z]; rfl) ?_
            walk_at "ev"
            refine c2 ⟨y, w, f', tail, rfl, hw, tp, z⟩ ?_
            walk_at "ev"
            exact q
          · refine k_if_t (by rw [decide_eq_false z]; rfl) ?_
            walk_at "ev"
            exact cn fun ⟨_, w', f2, t2, e, _, _, e2⟩ => z (by injection e with e; injection e with e _; injection e with e; rw [e]; exact e2)
        · walk_at "ev"
          exact cn fun ⟨_, w', f2, t2, e, _⟩ => nomatch e
      · have fe : (List.range n).filter (fun k => !decide ((p k - f k).natAbs ≤ 999)) ≠ [] := fun w => by
          obtain ⟨i, m, z⟩ := List.all_eq_false.mp (Bool.eq_false_iff.mpr y)
          exact List.filter_eq_nil_iff.mp w i m (by rw [Bool.eq_false_iff.mpr z]; rfl)
        refine k_orT_t (by cases hl : (List.range n).filter (fun k => !decide ((p k - f k).natAbs ≤ 999)) with | nil => exact absurd hl fe | cons a l => rfl) ?_
        walk_at "ev"
        exact cn fun w => y w.1
  · have A := Bool.eq_false_iff.mpr A
    refine ⟨false, fun {Q} q => ?_, fun {Q} q => ?_, fun z => by rw [A] at z; cases z⟩
    · unfold ph_accepts_taking bd_accepts_taking
      walk_at "ev"
      refine w_is_town G ?_
      walk_at "ev"
      refine w_is_purses (fun h hh => by have := hp h hh; omega) ?_
      walk_at "ev"
      rw [vecO_len]
      refine k_orT_f (by rw [decide_eq_true rfl]; rfl) ?_
      walk_at "ev"
      refine k_Lc (itmsC_tm (l := List.range n) (F := fun k => OVD (g k)) fun _ => immO _) (by walk_at "set") ?_
      refine w_lc_all _ _ (fun k => .bl (whO (g k))) (fun a m => ?_) ?_
      · have io := immO (g a)
        apply w_eq (by walk_at "asg")
        walk_at "ev"
        refine w_is_wholeO ?_
        walk_at "ev"
        exact ⟨rfl, rfl⟩
      walk_at "ev"
      rw [A]
      walk_at "ev"
      exact q
    · unfold ph_l_taking_right bd_l_taking_right
      walk_at "ev"
      rw [vecO_len]
      refine k_if_f (by rw [decide_eq_true rfl]; rfl) ?_
      walk_at "ev"
      refine w_l_scriptO ?_
      by_cases AI : ((List.range n).all fun i => isI (g i)) = true
      · rw [AI]
        obtain ⟨f, ef, hf, fz⟩ := vecO_ints AI
        have imf : imm (.tup (vec n f)) = true := imm_vec
        rw [ef]
        rw [ef] at im2
        walk_at "ev"
        refine k_Lc (itmsC_tm (l := List.range n) (F := fun k => .int (f k)) fun _ => rfl) (by walk_at "set") ?_
        refine w_lc_pure _ _ (fun k => .int (f k)) (fun k => !decide (0 ≤ f k ∧ f k ≤ 999)) (fun a m => ?_) ?_
        · apply w_eq (by walk_at "asg")
          walk_at "ev"
          by_cases z : f a < 0
          · refine k_orT_t (decide_eq_true z) ?_
            refine ⟨rfl, by rw [decide_eq_false (by omega)]; rfl, fun _ => ?_⟩
            walk_at "ev"
            exact ⟨rfl, rfl⟩
          · refine k_orT_f (decide_eq_false z) ?_
            walk_at "ev"
            refine ⟨rfl, by rw [← decide_not]; exact decide_eq_decide.mpr (by omega), fun _ => ?_⟩
            walk_at "ev"
            exact ⟨rfl, rfl⟩
        walk_at "ev"
        rw [List.length_map, len_gt]
        have fe : (List.range n).filter (fun k => !decide (0 ≤ f k ∧ f k ≤ 999)) ≠ [] := fun w => by
          obtain ⟨i, m, z⟩ := List.all_eq_false.mp A
          rw [hf i (List.mem_range.mp m)] at z
          exact List.filter_eq_nil_iff.mp w i m (by rw [show decide (0 ≤ f i ∧ f i ≤ 999) = false from Bool.eq_false_iff.mpr z]; rfl)
        refine k_if_t (by cases hl : (List.range n).filter (fun k => !decide (0 ≤ f k ∧ f k ≤ 999)) with | nil => exact absurd hl fe | cons a l => rfl) ?_
        walk_at "ev"
        exact q
      · rw [Bool.eq_false_iff.mpr AI]
        walk_at "ev"
        exact q
end
end
section
local macro_rules | `(tactic| walk_at "imm") => `(tactic| exact immA_rds)
local macro_rules | `(tactic| walk_at "imm") => `(tactic| exact imm_town)
local macro_rules | `(tactic| walk_at "op") => `(tactic| with_reducible exact o_ne_b)
local macro_rules | `(tactic| walk_at "op") => `(tactic| with_reducible exact o_isN)
local macro_rules | `(tactic| walk_at "op") => `(tactic| with_reducible exact o_cut_lm1n)
local macro_rules | `(tactic| walk_at "op") => `(tactic| with_reducible exact o_cut_vm1)
local macro_rules | `(tactic| walk_at "op") => `(tactic| with_reducible exact o_cut_vl)
local macro_rules | `(tactic| walk_at "op") => `(tactic| with_reducible exact o_cut_vh)
local macro_rules | `(tactic| walk_at "op") => `(tactic| with_reducible exact o_idx_t atI_zero rfl)
local macro_rules | `(tactic| walk_at "op") => `(tactic| with_reducible exact o_idx_t atI_one imm_vec)
section
variable {n : Nat} {rs : List (Nat × Nat)} {p : Nat → Int} {v : D} {t : Tpa}
theorem both_list (G : GoodT n rs) (hp : ∀ h, h < n → (p h).natAbs ≤ 30) {f : Nat → Int} {d : D} (hd : PpT n d) : Both n rs p t (.tup [.lst (vec n f), d]) := by
  have imd := hd.im
  have imv : imm (.tup [.lst (vec n f), d]) = false := rfl
  refine ⟨false, fun {Q} q => ?_, fun {Q} q => ?_⟩
  · unfold ph_accepts_taking bd_accepts_taking
    walk_at "ev"
    refine w_is_town G ?_
    walk_at "ev"
    refine w_is_purses (fun h hh => by have := hp h hh; omega) ?_
    walk_at "ev"
    refine k_to (e1 := [some (false, townD n rs), some (false, .tup (vec n p)), some (false, .tup [.lst (vec n f), d]), some (false, .lst (vec n f)), some (imm d, d), none, none]) ?_ ?_
    · rw [imd]
      show stA [3, 4] (List.map (subg .frz) [.lst (vec n f), d]) _ = _
      have : List.map (subg .frz) [D.lst (vec n f), d] = [(.frz, .lst (vec n f)), (.own, d)] := by
        show [up .frz (.lst (vec n f)), up .frz d] = _
        rw [up_imm imd]; rfl
      rw [this]
      walk_at "asg"
    rw [imd]
    walk_at "ev"
    exact q
  · unfold ph_l_taking_right bd_l_taking_right
    walk_at "ev"
    refine k_2b (z := (.frz, .lst (vec n f))) rfl ?_
    walk_at "ev"
    exact q
theorem both_len (G : GoodT n rs) (hp : ∀ h, h < n → (p h).natAbs ≤ 30) {es : List D} {d : D} (ie : immA es = true) (le : es.length ≠ n) (hd : PpT n d) : Both n rs p t (.tup [.tup es, d]) := by
  have imd := hd.im
  have imo : imm (.tup es) = true := ie
  have im2 := two_im imo imd
  refine ⟨false, fun {Q} q => ?_, fun {Q} q => ?_⟩
  · unfold ph_accepts_taking bd_accepts_taking
    walk_at "ev"
    refine w_is_town G ?_
    walk_at "ev"
    refine w_is_purses (fun h hh => by have := hp h hh; omega) ?_
    walk_at "ev"
    refine k_orT_t (by rw [decide_eq_false (by omega)]; rfl) ?_
    walk_at "ev"
    exact q
  · unfold ph_l_taking_right bd_l_taking_right
    walk_at "ev"
    refine k_if_t (by rw [decide_eq_false (by omega)]; rfl) ?_
    walk_at "ev"
    exact q
theorem both_odd (G : GoodT n rs) (hp : ∀ h, h < n → (p h).natAbs ≤ 30) (hv : (∃ es, v = .tup es ∧ immA es = true ∧ es.length ≠ 2) ∨ v = .non ∨ v = .int 5) : Both n rs p t v := by
  refine ⟨false, fun {Q} q => ?_, fun {Q} q => ?_⟩
  · unfold ph_accepts_taking bd_accepts_taking
    walk_at "ev"
    refine w_is_town G ?_
    walk_at "ev"
    refine w_is_purses (fun h hh => by have := hp h hh; omega) ?_
    walk_at "ev"
    rcases hv with ⟨es, rfl, ie, le⟩ | rfl | rfl
    · have im : imm (.tup es) = true := ie
      walk_at "ev"
      refine k_if_t (by rw [decide_eq_false (by omega)]; rfl) ?_
      walk_at "ev"
      exact q
    · walk_at "ev"
      exact q
    · walk_at "ev"
      exact q
  · unfold ph_l_taking_right bd_l_taking_right
    rcases hv with ⟨es, rfl, ie, le⟩ | rfl | rfl
    · have im : imm (.tup es) = true := ie
      walk_at "ev"
      refine k_orT_t (by rw [decide_eq_false (by omega)]; rfl) ?_
      walk_at "ev"
      exact q
    · walk_at "ev"
      exact q
    · walk_at "ev"
      exact q
theorem bothT (G : GoodT n rs) (hp : ∀ h, h < n → (p h).natAbs ≤ 30) (hv : VT n v) : Both n rs p t v := by
  rcases hv with ⟨g, d, rfl, hd⟩ | ⟨f, d, rfl, hd⟩ | ⟨es, d, rfl, ie, le, hd⟩ | h
  · obtain ⟨b, c1, c2, _⟩ := both_row (t := t) (g := g) G hp hd
    exact ⟨b, c1, c2⟩
  · exact both_list G hp hd
  · exact both_len G hp ie le hd
  · exact both_odd G hp h
theorem w_l_bent {l : List Nat} {f r : Nat → Int} {Q : Tpa × Bool × D → Prop} (ht : OkT t) (T : Town n rs) (n4 : n ≤ 4) (O : Ord n l) (k : ∀ t' v, OkT t' → VT n v → Q (t', imm v, v)) : wp (ph_l_bent t [.tok, townD n rs, .tup [.tup (vec n r), neverD n f l]]) Q := by
  obtain ⟨T1, T2, T3, T4⟩ := id T
  have imr : ∀ {r : Nat → Int}, imm (.tup (vec n r)) = true := imm_vec
  have imf : imm (.tup (vec n f)) = true := imm_vec
  have iml : imm (.tup (natsD l)) = true := immA_nats
  have im3 : ∀ {w : Str} {f : Nat → Int} {l : List Nat}, imm (.tup [.str w, .tup (vec n f), .tup (natsD l)]) = true := fun {w f l} => by
    show (true && (imm (.tup (vec n f)) && (imm (.tup (natsD l)) && true))) = true
    rw [imm_vec, show imm (.tup (natsD l)) = true from immA_nats]; rfl
  have imn : imm (neverD n f l) = true := im3
  have im2 := two_im (imr (r := r)) imn
  unfold neverD at *
  unfold ph_l_bent bd_l_bent
  walk_at "ev"
  refine w_takeN ht (by omega) fun t1 a ht1 ha => ?_
  have ha := ha T1
  walk_at "ev"
  have lt : ((vec n r).take a).length ≤ n := by rw [List.length_take, vec_len]; omega
  have ld : ((vec n r).drop (a + 1)).length ≤ n := by rw [List.length_drop, vec_len]; omega
  have i1 : ∀ {d : D}, imm d = true → immA ((vec n r).take a ++ [d]) = true := fun {d} h => immA_app immA_vtake (by show (imm d && true) = true; rw [h]; rfl)
  have pp : ∀ {w : Str} {f : Nat → Int} {tail : List D}, WW w → TP n tail → PpT n (.tup (.str w :: .tup (vec n f) :: tail)) := fun {w f tail} h1 h2 => .inl ⟨w, f, tail, rfl, h1, h2⟩
  have tl : ∀ {l : List Nat}, (∀ x ∈ l, x < n) → l.length = n → TP n [.tup (natsD l)] := fun {l} h1 h2 => .inr ⟨l, rfl, h1, h2⟩
  have hnv : WW (Str.ofString "never") := .inr (.inl rfl)
  refine k_2b (o_cat_t (by rw [List.length_singleton]; omega) (i1 rfl)) ?_
  walk_at "ev"
  refine k_2b (o_cat_t (by rw [List.length_append, List.length_singleton]; omega) (immA_app (i1 rfl) immA_vdrop)) ?_
  rw [mid_set ha]
  walk_at "ev"
  refine w_pick ht1 (Nat.le_of_ble_eq_true rfl) (Nat.le_of_ble_eq_true rfl) (fun d m => ?_) fun t2 d ht2 hd => ?_
  · simp only [List.mem_cons, List.not_mem_nil, or_false] at m
    rcases m with rfl | rfl | rfl | rfl <;> rfl
  obtain ⟨id', g, eg⟩ : imm d = true ∧ ∃ g : Nat → Int ⊕ Nat, (vec n r).take a ++ [d] ++ (vec n r).drop (a + 1) = vecO n g := by
    simp only [List.mem_cons, List.not_mem_nil, or_false] at hd
    rcases hd with rfl | rfl | rfl | rfl
    · exact ⟨rfl, _, (mid_set ha).trans vec_O⟩
    · exact ⟨rfl, _, mid_O (b := 0) ha⟩
    · exact ⟨rfl, _, mid_O (b := 1) ha⟩
    · exact ⟨rfl, _, (mid_set ha).trans vec_O⟩
  walk_at "ev"
  refine k_2b (o_cat_t (by rw [List.length_singleton]; omega) (i1 id')) ?_
  walk_at "ev"
  refine k_2b (o_cat_t (by rw [List.length_append, List.length_singleton]; omega) (immA_app (i1 id') immA_vdrop)) ?_
  rw [eg]
  have ig : imm (.tup (vecO n g)) = true := immA_vecO
  walk_at "ev"
  refine k_cut cut02 ?_
  walk_at "ev"
  refine k_cut (cut1n (by show (imm (.tup (natsD l)) && true) = true; rw [iml]; rfl)) ?_
  walk_at "ev"
  refine k_2b (o_cat_t (show 3 ≤ 16777216 by decide) (by show (true && (imm (.tup (vec n f)) && (imm (.tup (natsD l)) && true))) = true; rw [imf, iml]; rfl)) ?_
  walk_at "ev"
  refine k_2b (o_cat_t (show 3 ≤ 16777216 by decide) (by show (imm (.tup (vec n r)) && (imm (.tup [.str (Str.ofString "never"), .tup (vec n f), .tup (natsD l)]) && true)) = true; rw [imr, imn]; rfl)) ?_
  walk_at "ev"
  refine k_cut cut02 ?_
  have idx2 : ∀ {w : Str} {f : Nat → Int} {l : List Nat} {g g' : Gr}, sIdx (g, .tup [.str w, .tup (vec n f), .tup (natsD l)]) (g', .int 2) = some (.own, .tup (natsD l)) := fun {w f l g g'} => o_idx_t (atI_nat (ds := [D.str w, .tup (vec n f), .tup (natsD l)]) (k := 2) (show 2 < 3 by decide)) immA_nats
  walk_at "ev"
  refine k_2b (o_cat_t (show 3 ≤ 16777216 by decide) (by show (true && (imm (.tup (vec n f)) && (imm (.tup (natsD l.reverse)) && true))) = true; rw [imf, show imm (.tup (natsD l.reverse)) = true from immA_nats]; rfl)) ?_
  walk_at "ev"
  refine k_Lc (itmsC_tm (l := List.range n) (F := fun k => .int (f k)) fun _ => rfl) (by walk_at "set") ?_
  refine w_lc_all _ _ (fun k => .int (f k + 1)) (fun b m => ?_) ?_
  · apply w_eq (by walk_at "asg")
    walk_at "ev"
    exact ⟨rfl, rfl⟩
  walk_at "ev"
  refine k_2b (o_cat_t (by rw [vec_len, List.length_singleton]; omega) (immA_app immA_vec rfl)) ?_
  walk_at "ev"
  refine w_pickg ht2 (Nat.le_of_ble_eq_true rfl) (Nat.le_of_ble_eq_true rfl) fun t3 v ht3 hv => ?_
  have rv : ∀ {r : Nat → Int} {d : D}, PpT n d → VT n (.tup [.tup (vec n r), d]) := fun {r d} h => .inl ⟨fun k => .inl (r k), d, rfl, h⟩
  have P0 : PpT n (.tup [.str (Str.ofString "never"), .tup (vec n f), .tup (natsD l)]) := pp hnv (tl O.lt O.len)
  have V : VT n v := by
    simp only [List.mem_cons, List.not_mem_nil, or_false] at hv
    rcases hv with rfl | rfl | rfl | rfl | rfl | rfl | rfl | rfl | rfl | rfl | rfl | rfl | rfl
    · exact rv P0
    · exact .inl ⟨g, _, rfl, P0⟩
    · exact rv (pp (tail := []) hnv (.inl rfl))
    · exact rv (pp (w := Str.ofString "ended") (.inl rfl) (tl O.lt O.len))
    · exact rv (.inr rfl)
    · exact .inr (.inl ⟨r, _, rfl, P0⟩)
    · exact .inr (.inr (.inr (.inl ⟨_, rfl, by show (imm (.tup (vec n r)) && true) = true; rw [imr]; rfl, show 1 ≠ 2 by decide⟩)))
    · exact .inr (.inr (.inr (.inl ⟨_, rfl, by show (imm (.tup (vec n r)) && (imm (.tup [.str (Str.ofString "never"), .tup (vec n f), .tup (natsD l)]) && true)) = true; rw [imr, imn]; rfl, by show 3 ≠ 2; decide⟩)))
    · exact .inr (.inr (.inr (.inr (.inl rfl))))
    · exact rv (pp (tail := [.tup (natsD l.reverse)]) hnv (tl (fun x m => O.lt x (List.mem_reverse.mp m)) (by rw [List.length_reverse, O.len])))
    · exact rv (pp (tail := [.tup (natsD l)]) hnv (tl O.lt O.len))
    · exact .inr (.inr (.inl ⟨_, _, rfl, immA_app immA_vec rfl, by rw [List.length_append, vec_len, List.length_singleton]; omega, P0⟩))
    · exact .inr (.inr (.inr (.inr (.inr rfl))))
  have kk := k t3 v ht3 V
  cases hi : imm v with
  | true =>
    rw [hi] at kk
    walk_at "ev"
    exact kk
  | false =>
    rw [hi] at kk
    refine k_crp hi ?_
    walk_at "ev"
    exact kk
end
end
section
local macro_rules | `(tactic| walk_at "imm") => `(tactic| exact immA_rds)
local macro_rules | `(tactic| walk_at "imm") => `(tactic| exact imm_town)
local macro_rules | `(tactic| walk_at "op") => `(tactic| with_reducible exact o_ne_b)
local macro_rules | `(tactic| walk_at "op") => `(tactic| with_reducible exact o_isN)
local macro_rules | `(tactic| walk_at "op") => `(tactic| with_reducible exact o_cut_lm1n)
local macro_rules | `(tactic| walk_at "op") => `(tactic| with_reducible exact o_cut_vm1)
local macro_rules | `(tactic| walk_at "op") => `(tactic| with_reducible exact o_cut_vl)
local macro_rules | `(tactic| walk_at "op") => `(tactic| with_reducible exact o_cut_vh)
local macro_rules | `(tactic| walk_at "op") => `(tactic| with_reducible exact o_idx_t atI_zero rfl)
local macro_rules | `(tactic| walk_at "op") => `(tactic| with_reducible exact o_idx_t atI_one imm_vec)
theorem o_repN {g g' : Gr} {n a : Nat} (h0 : 0 < n) (h : n < 1000) : sTimes (g, .tup [.int (a : Int)]) (g', .int (n : Int)) = some (.own, .tup (natsD (List.replicate n a))) := by
  have e : (List.replicate ((n : Int)).toNat [D.int (a : Int)]).flatten = natsD (List.replicate n a) := by
    rw [Int.toNat_natCast]
    clear h h0
    induction n with
    | zero => rfl
    | succ n ih => rw [List.replicate_succ, List.flatten_cons, ih, List.replicate_succ]; rfl
  have st : sTimes (g, .tup [.int (a : Int)]) (g', .int (n : Int)) = if (!([D.int (a : Int)] : List D).isEmpty && decide ((1 : Int) ≤ (n : Int)) && decide ((n : Int) ≤ 1000) && decide ([D.int (a : Int)].length ≤ 1000)) = true then some (up (gj g g') (.tup (List.replicate ((n : Int)).toNat [D.int (a : Int)]).flatten)) else none := rfl
  rw [st, if_pos (by rw [decide_eq_true (by omega), decide_eq_true (by omega)]; rfl), e, up_t immA_nats]
theorem immA_iff : ∀ {ds : List D}, immA ds = true ↔ ∀ d ∈ ds, imm d = true
  | [] => ⟨fun _ d m => (nomatch m), fun _ => rfl⟩
  | d :: ds => by
    rw [show immA (d :: ds) = (imm d && immA ds) from rfl, Bool.and_eq_true, immA_iff (ds := ds)]
    constructor
    · rintro ⟨h, k⟩ e m
      rcases List.mem_cons.mp m with rfl | m
      · exact h
      · exact k e m
    · exact fun h => ⟨h d (.head _), fun e m => h e (.tail _ m)⟩
theorem im_take {ds : List D} {k : Nat} (h : immA ds = true) : immA (ds.take k) = true := immA_iff.mpr fun d m => immA_iff.mp h d (List.mem_of_mem_take m)
theorem im_drop {ds : List D} {k : Nat} (h : immA ds = true) : immA (ds.drop k) = true := immA_iff.mpr fun d m => immA_iff.mp h d (List.mem_of_mem_drop m)
theorem o_takeT {g : Gr} {ds : List D} {k : Nat} (h : immA ds = true) : sCut (g, .tup ds) none (some (k : Int)) = some (.own, .tup (ds.take k)) := o_cut_t cut_hi (im_take h)
theorem o_dropT {g : Gr} {ds : List D} {k : Nat} (h : immA ds = true) : sCut (g, .tup ds) (some (k : Int)) none = some (.own, .tup (ds.drop k)) := o_cut_t cut_lo (im_drop h)
/-- two tuples put together: whatever they hold -/
theorem o_catG {g : Gr} {ds es : List D} (hg : g ≠ .pk) (hs : ds.length + es.length ≤ 16777216) : ∃ g', g' ≠ .pk ∧ sPlus (g, .tup ds) (.own, .tup es) = some (g', .tup (ds ++ es)) := by
  unfold sPlus
  dsimp only
  rw [if_pos (szB_of hs)]
  refine ⟨(up (gj g .own) (.tup (ds ++ es))).1, ?_, rfl⟩
  unfold up
  dsimp only
  cases g with
  | pk => exact absurd rfl hg
  | own => split <;> intro w <;> cases w
  | frz => split <;> intro w <;> cases w
theorem o_catG2 {g : Gr} {ds es : List D} (hg : g ≠ .pk) (hs : ds.length + es.length ≤ 16777216) : ∃ g', g' ≠ .pk ∧ sPlus (.own, .tup ds) (g, .tup es) = some (g', .tup (ds ++ es)) := by
  unfold sPlus
  dsimp only
  rw [if_pos (szB_of hs)]
  refine ⟨(up (gj .own g) (.tup (ds ++ es))).1, ?_, rfl⟩
  unfold up
  dsimp only
  cases g with
  | pk => exact absurd rfl hg
  | own => split <;> intro w <;> cases w
  | frz => split <;> intro w <;> cases w
theorem o_catLG {g : Gr} {ds es : List D} (hg : g ≠ .pk) (hs : ds.length + es.length ≤ 16777216) : ∃ g', g' ≠ .pk ∧ sPlus (g, .lst ds) (.own, .lst es) = some (g', .lst (ds ++ es)) := by
  unfold sPlus
  dsimp only
  rw [if_pos (szB_of hs)]
  refine ⟨_, ?_, rfl⟩
  cases g with
  | pk => exact absurd rfl hg
  | own => split <;> intro w <;> cases w
  | frz => split <;> intro w <;> cases w
theorem up_frzE {d : D} (h : imm d = false) : up .frz d = (.frz, d) := up_frz h fun w => nomatch w
theorem itmsC_frz {ds : List D} : itmsC (.frz, .lst ds) = some (ds.map (up .frz)) := by
  show (if immA ds || npk .frz then some (ds.map (up .frz)) else none) = _
  rw [show npk .frz = true from rfl, Bool.or_true]; rfl
theorem itms_any {g : Gr} {ds : List D} (hg : g ≠ .pk) : itms (g, .lst ds) = some (ds.map (up .frz)) := if_neg hg
theorem jn_npk : ∀ {ys : List GD}, (∀ y ∈ ys, y.1 ≠ .pk) → jn ys ≠ .pk
  | [], _ => fun w => nomatch w
  | (g, d) :: ys, h => by
    have h1 := h _ (.head _)
    have h2 := jn_npk fun y m => h y (.tail _ m)
    show jn2 g (jn ys) ≠ .pk
    revert h1 h2
    generalize jn ys = g'
    intro h1 h2 w
    cases g <;> cases g' <;> first | exact absurd rfl h2 | exact absurd rfl h1 | cases w
def BentB (n : Nat) (v : D) : Prop := (∃ ds, v = .tup ds ∧ ∀ d ∈ ds, ItB n d) ∨ v = .non ∨ ∃ es, v = .lst es
section
variable {n c : Nat} {rs : List (Nat × Nat)} {p : Nat → Int} {v : D} {t : Tpa}
theorem bothB (G : GoodT n rs) (n4 : n ≤ 4) (c3 : c ≤ 3) (hp : ∀ h, h < n → (p h).natAbs ≤ 30) (hv : BentB n v) : ∃ b : Bool, (∀ {Q : Tpa × Bool × D → Prop}, Q (t, true, .bl b) → wp (ph_accepts_bearing t [townD n rs, .tup (vec n p), .int (c : Int), v]) Q) ∧ ∀ {Q : Tpa × Bool × D → Prop}, Q (t, true, .bl b) → wp (ph_l_bearing_right t [townD n rs, .tup (vec n p), .int (c : Int), v]) Q := by
  rcases hv with ⟨ds, rfl, hd⟩ | hv
  · have e : ∀ r : Bool, (r = true ↔ OkB' n rs p c ds) → r = @decide (OkB' n rs p c ds) (Classical.propDecidable _) := fun r h => by
      cases r with
      | true => exact (@decide_eq_true _ (Classical.propDecidable _) (h.mp rfl)).symm
      | false => exact (@decide_eq_false _ (Classical.propDecidable _) fun z => nomatch h.mpr z).symm
    exact ⟨_, fun q => a_bear G n4 c3 hp hd fun r h => by rw [e r h]; exact q, fun q => l_bear G n4 c3 hd fun r h => by rw [e r h]; exact q⟩
  · exact ⟨false, fun q => a_bear_non G n4 c3 hp hv q, fun q => l_bear_non G n4 c3 hv q⟩
theorem bad_up (hn : 0 < n) (h : Bad n rs p c) : Bad n rs p (c + 1) := by
  obtain ⟨r, r1, r2, nw⟩ := h
  cases r with
  | nil => rw [List.length_nil] at r1; omega
  | cons x xs =>
    refine ⟨(x + 1) :: xs, by rw [← r1]; rfl, by rw [← r2, List.sum_cons, List.sum_cons]; omega, fun ⟨s, w⟩ => nw ⟨s, fun h hh => ?_⟩⟩
    have w' : 0 ≤ (p h - ((((x + 1) :: xs).getD h 0 : Nat) : Int)) + lap rs s h := w h hh
    have e : (((x + 1) :: xs).getD h 0 : Nat) ≥ ((x :: xs).getD h 0 : Nat) := by
      cases h with
      | zero => show x + 1 ≥ x; omega
      | succ h => exact Nat.le_refl _
    show 0 ≤ (p h - (((x :: xs).getD h 0 : Nat) : Int)) + lap rs s h
    omega
theorem bad_all (hn : 0 < n) {d : Nat} (h : Bad n rs p c) : Bad n rs p (c + d) := by
  induction d with
  | zero => exact h
  | succ d ih => exact bad_up hn ih
theorem rank_bad {m : Nat} {r : Int} (hn : 0 < n) (h : RankIs n rs p m r) (hc : c ≤ m) : Bad n rs p c ↔ r < (c : Int) := by
  rcases h with ⟨k, k1, k2, k3, rfl⟩ | ⟨k1, rfl⟩
  · refine ⟨fun b => ?_, fun b => ?_⟩
    · have : ¬ c < k := fun z => k3 c z b
      omega
    · have := bad_all (d := c - k) hn k2
      rwa [show k + (c - k) = c by omega] at this
  · exact ⟨fun b => absurd b (k1 c hc), fun b => by omega⟩
theorem rep0 : ∀ m, (List.replicate m 0).sum = 0
  | 0 => rfl
  | m + 1 => by rw [List.replicate_succ, List.sum_cons, rep0 m]
theorem takL_ne (hn : 0 < n) : 0 < (takL n c).length := by
  have : c :: List.replicate (n - 1) 0 ∈ takL n c := (takL_mem hn).mpr ⟨by rw [List.length_cons, List.length_replicate]; omega, by rw [List.sum_cons, rep0]; rfl⟩
  exact List.length_pos_of_mem this
theorem vecs_at {fs : List (Nat → Int)} {i : Nat} {f : Nat → Int} (h : fs[i]? = some f) : (vecsD n fs)[i]? = some (.tup (vec n f)) := by
  unfold vecsD
  rw [List.getElem?_map, h]; rfl
theorem vecs_it {fs : List (Nat → Int)} : ∀ d ∈ vecsD n fs, ItB n d := fun d m => by
  obtain ⟨f, _, rfl⟩ := List.mem_map.mp m
  exact .inl ⟨f, rfl⟩
theorem o_idx_m1 {g g' : Gr} {ds : List D} {d : D} (h : ds[ds.length - 1]? = some d) (m : imm d = true) : sIdx (g, .tup ds) (g', .int (-1)) = some (.own, d) := by
  have l := (List.getElem?_eq_some_iff.mp h).1
  refine o_idx_t ?_ m
  unfold L2.atI L2.ixN
  rw [if_neg (by omega), if_pos (by omega), show ((-1 : Int) + (ds.length : Int)).toNat = ds.length - 1 by omega]
  exact h
theorem a_bear_odd (G : GoodT n rs) (hp : ∀ h, h < n → (p h).natAbs ≤ 30) {d v : D} {Q : Tpa × Bool × D → Prop} (hd : d ∈ [D.int 4, D.int (-1), D.non, D.bl true]) (k : Q (t, true, .bl false)) : wp (ph_accepts_bearing t [townD n rs, .tup (vec n p), d, v]) Q := by
  unfold ph_accepts_bearing bd_accepts_bearing
  simp only [List.mem_cons, List.not_mem_nil, or_false] at hd
  rcases hd with rfl | rfl | rfl | rfl
  · walk_at "ev"
    refine w_is_town G ?_
    walk_at "ev"
    refine w_is_purses (fun h hh => by have := hp h hh; omega) ?_
    walk_at "ev"
    refine w_is_whole ?_
    walk_at "ev"
    exact k
  · walk_at "ev"
    refine w_is_town G ?_
    walk_at "ev"
    refine w_is_purses (fun h hh => by have := hp h hh; omega) ?_
    walk_at "ev"
    refine w_is_whole ?_
    walk_at "ev"
    exact k
  · walk_at "ev"
    refine w_is_town G ?_
    walk_at "ev"
    refine w_is_purses (fun h hh => by have := hp h hh; omega) ?_
    walk_at "ev"
    unfold ph_is_whole bd_is_whole
    walk_at "ev"
    exact k
  · walk_at "ev"
    refine w_is_town G ?_
    walk_at "ev"
    refine w_is_purses (fun h hh => by have := hp h hh; omega) ?_
    walk_at "ev"
    unfold ph_is_whole bd_is_whole
    walk_at "ev"
    exact k
theorem w_l_bears {m : Nat} {due : Int} {Q : Tpa × Bool × D → Prop} (ht : OkT t) (G : GoodT n rs) (n4 : n ≤ 4) (m3 : m ≤ 3) (hp : ∀ h, h < n → (p h).natAbs ≤ 30) (R : RankIs n rs p m due) (k : ∀ t', OkT t' → Q (t', true, .bl true)) : wp (ph_l_bears t [.tok, townD n rs, .tup (vec n p), .int due, .int (m : Int)]) Q := by
  obtain ⟨T1, T2, T3, T4⟩ := id G.T
  unfold ph_l_bears bd_l_bears
  walk_at "ev"
  rw [show (m : Int) + 1 = ((m + 1 : Nat) : Int) from rfl]
  refine k_forRn (by omega) ?_
  refine w_for (fun i t' e' => OkT t' ∧ ∃ (s5 s6 s7 s8 s9 s10 s11 s12 : Option (Bool × D)), e' = [some (false, .tok), some (false, townD n rs), some (false, .tup (vec n p)), some (false, .int due), some (false, .int (m : Int)), s5, s6, s7, s8, s9, s10, s11, s12, none, none]) _ ⟨ht, _, _, _, _, _, _, _, _, rfl⟩ ?_ ?_
  · clear ht
    rintro i x t' e' hx ⟨ht, s5, s6, s7, s8, s9, s10, s11, s12, rfl⟩
    obtain ⟨hi, rfl⟩ := rgD_some hx
    have hi' : i < m + 1 := hi
    rw [Int.zero_add]
    apply w_eq (by walk_at "asg")
    walk_at "ev"
    refine w_bearing G n4 (by omega) hp (fun bad => ?_) fun fs good fl B => ?_
    · walk_at "ev"
      rw [decide_eq_true ((rank_bad T1 R (by omega)).mp bad)]
      walk_at "ev"
      exact ⟨ht, _, _, _, _, _, _, _, _, rfl⟩
    · have imv := immA_vecs (n := n) (fs := fs)
      have imt : imm (.tup (vecsD n fs)) = true := imv
      walk_at "ev"
      rw [decide_eq_false (show ¬ due < (i : Int) from fun w => good ((rank_bad T1 R (by omega)).mpr w))]
      walk_at "ev"
      have okB : OkB' n rs p i (vecsD n fs) := ⟨by rw [← fl]; exact List.length_map _, fun j r d hj h1 h2 => by
        obtain ⟨f, hf⟩ : ∃ f, fs[j]? = some f := ⟨_, List.getElem?_eq_getElem (by omega)⟩
        rw [vecs_at hf] at h2
        cases h2
        exact (gdb_vec T4).mpr (B j f r hf h1)⟩
      refine l_bear G n4 (by omega) vecs_it fun b hb => ?_
      rw [hb.mpr okB]
      walk_at "ev"
      refine a_bear G n4 (by omega) hp vecs_it fun b hb => ?_
      rw [hb.mpr okB]
      walk_at "ev"
      have fpos : 0 < fs.length := by rw [fl]; exact takL_ne T1
      have fbnd : fs.length ≤ 256 := by
        rw [fl]
        unfold takL
        rw [List.length_map]
        refine Nat.le_trans (tk_len _) ?_
        refine Nat.le_trans (Nat.pow_le_pow_left (by omega : i + 1 ≤ 4) _) (Nat.le_trans (Nat.pow_le_pow_right (by decide) (by omega : n - 1 ≤ 3)) (by decide))
      have vl : (vecsD n fs).length = fs.length := List.length_map _
      rw [vl]
      refine w_takeN ht (by omega) fun t1 a ht1 ha => ?_
      have ha := ha fpos
      obtain ⟨f, hf⟩ : ∃ f, fs[a]? = some f := ⟨_, List.getElem?_eq_getElem ha⟩
      have imf : ∀ {f : Nat → Int}, imm (.tup (vec n f)) = true := imm_vec
      walk_at "ev"
      refine k_2b ((o_idx_up (vecs_at hf)).trans (congrArg some (up_imm imf))) ?_
      refine k_Lc (itmsC_tm (l := List.range n) (F := fun k => .int (f k)) fun _ => rfl) (by walk_at "set") ?_
      refine w_lc_all _ _ (fun k => .int (f k + 1)) (fun b m => ?_) ?_
      · apply w_eq (by walk_at "asg")
        walk_at "ev"
        exact ⟨rfl, rfl⟩
      walk_at "ev"
      refine k_LcRn (by omega) (by walk_at "set") ?_
      refine w_lcr n (fun k => if k = 0 then 1 else 0) (fun b hb => ?_) ?_
      · apply w_eq (by walk_at "asg")
        walk_at "ev"
        refine k_ifX (fun w => ?_) (fun w => ?_)
        · walk_at "ev"
          have := of_decide_eq_true w
          rw [if_pos (by omega)]
          exact ⟨rfl, rfl⟩
        · walk_at "ev"
          have := of_decide_eq_false w
          rw [if_neg (by omega)]
          exact ⟨rfl, rfl⟩
      walk_at "ev"
      refine k_2b (o_repN (a := 0) T1 T2) ?_
      have e0 : natsD (List.replicate n 0) = vec n fun _ => 0 := by
        unfold natsD vec
        rw [List.map_replicate]
        exact (List.eq_replicate_iff.mpr ⟨by rw [List.length_map, List.length_range], fun b m => by
          obtain ⟨_, _, rfl⟩ := List.mem_map.mp m
          rfl⟩).symm
      rw [e0]
      walk_at "ev"
      refine k_2b ((o_idx_up (vecs_at hf)).trans (congrArg some (up_imm imf))) ?_
      walk_at "ev"
      refine k_2b ((o_idx_up (vecs_at hf)).trans (congrArg some (up_imm imf))) ?_
      walk_at "ev"
      refine k_cut (o_dropT (k := 1) immA_vec) ?_
      walk_at "ev"
      obtain ⟨f2, hf2⟩ : ∃ f2 : Nat → Int, sIdx (Gr.own, D.tup (vecsD n fs)) (Gr.own, D.int ((a : Int) - 1)) = some (.own, .tup (vec n f2)) := by
        by_cases z : a = 0
        · subst z
          obtain ⟨f2, h2⟩ : ∃ f, fs[fs.length - 1]? = some f := ⟨_, List.getElem?_eq_getElem (by omega)⟩
          exact ⟨f2, o_idx_m1 (by rw [vl]; exact vecs_at h2) imf⟩
        · obtain ⟨f2, h2⟩ : ∃ f, fs[a - 1]? = some f := ⟨_, List.getElem?_eq_getElem (by omega)⟩
          rw [show (a : Int) - 1 = ((a - 1 : Nat) : Int) by omega]
          exact ⟨f2, (o_idx_up (vecs_at h2)).trans (congrArg some (up_imm imf))⟩
      refine k_2b hf2 ?_
      walk_at "ev"
      have it1 : ∀ d ∈ [D.tup (List.map (fun k => D.int (f k + 1)) (List.range n)), D.tup (vec n fun k => if k = 0 then 1 else 0), D.tup (vec n fun x => 0), D.non, D.lst (vec n f), D.tup (List.drop 1 (vec n f)), D.tup (vec n f2)], ItB n d := fun d m => by
        simp only [List.mem_cons, List.not_mem_nil, or_false] at m
        rcases m with rfl | rfl | rfl | rfl | rfl | rfl | rfl
        · exact .inl ⟨fun k => f k + 1, rfl⟩
        · exact .inl ⟨_, rfl⟩
        · exact .inl ⟨_, rfl⟩
        · exact .inr (.inl rfl)
        · exact .inr (.inr (.inl ⟨_, rfl⟩))
        · exact .inr (.inr (.inr ⟨_, rfl, im_drop immA_vec, by rw [List.length_drop, vec_len]; omega⟩))
        · exact .inl ⟨_, rfl⟩
      revert it1
      generalize er : [D.tup (List.map (fun k => D.int (f k + 1)) (List.range n)), D.tup (vec n fun k => if k = 0 then 1 else 0), D.tup (vec n fun x => 0), D.non, D.lst (vec n f), D.tup (List.drop 1 (vec n f)), D.tup (vec n f2)] = rows
      have rl : rows.length = 7 := by rw [← er]; rfl
      intro it1
      refine k_Lc itmsC_frz (by walk_at "set") ?_
      refine w_lc _ (fun j t' ys => t' = t1 ∧ ys.length = j ∧ ∀ y ∈ ys, y.1 ≠ .pk ∧ BentB n y.2) (ys0 := []) ⟨rfl, rfl, fun y m => (nomatch m)⟩ ?_ ?_
      · rintro j x t' ys hx ⟨rfl, yl, hys⟩
        obtain ⟨d, hd, rfl⟩ := map_some hx
        have I := it1 d (List.mem_of_getElem? hd)
        have lt : ((vecsD n fs).take a).length ≤ 256 := by rw [List.length_take]; omega
        have ld : ((vecsD n fs).drop (a + 1)).length ≤ 256 := by rw [List.length_drop]; omega
        have BB : BentB n (.tup ((vecsD n fs).take a ++ [d] ++ (vecsD n fs).drop (a + 1))) := .inl ⟨_, rfl, fun e m => by
          rcases List.mem_append.mp m with m | m
          · rcases List.mem_append.mp m with m | m
            · exact vecs_it e (List.mem_of_mem_take m)
            · rw [List.mem_singleton.mp m]; exact I
          · exact vecs_it e (List.mem_of_mem_drop m)⟩
        cases hi : imm d with
        | true =>
          rw [up_imm hi]
          apply w_eq (by walk_at "asg")
          walk_at "ev"
          refine k_cut (o_takeT imv) ?_
          walk_at "ev"
          obtain ⟨g1, hg1, e1⟩ := o_catG2 (g := .own) (ds := (vecsD n fs).take a) (es := [d]) (fun w => nomatch w) (by rw [List.length_singleton]; omega)
          refine k_2b e1 ?_
          walk_at "ev"
          rw [show (a : Int) + 1 = ((a + 1 : Nat) : Int) from rfl]
          refine k_cut (o_dropT imv) ?_
          walk_at "ev"
          obtain ⟨g2, hg2, e2⟩ := o_catG (g := g1) (ds := (vecsD n fs).take a ++ [d]) (es := (vecsD n fs).drop (a + 1)) hg1 (by rw [List.length_append, List.length_singleton]; omega)
          refine k_2b e2 ?_
          refine ⟨hg2, rfl, by rw [List.length_append, List.length_singleton, yl], fun y m => ?_⟩
          rcases List.mem_append.mp m with m | m
          · exact hys y m
          · rw [List.mem_singleton.mp m]; exact ⟨hg2, BB⟩
        | false =>
          rw [up_frzE hi]
          apply w_eq (by walk_at "asg")
          walk_at "ev"
          refine k_cut (o_takeT imv) ?_
          walk_at "ev"
          refine w_xVl rfl hi ?_
          walk_at "ev"
          obtain ⟨g1, hg1, e1⟩ := o_catG2 (g := .frz) (ds := (vecsD n fs).take a) (es := [d]) (fun w => nomatch w) (by rw [List.length_singleton]; omega)
          refine k_2b e1 ?_
          walk_at "ev"
          rw [show (a : Int) + 1 = ((a + 1 : Nat) : Int) from rfl]
          refine k_cut (o_dropT imv) ?_
          walk_at "ev"
          obtain ⟨g2, hg2, e2⟩ := o_catG (g := g1) (ds := (vecsD n fs).take a ++ [d]) (es := (vecsD n fs).drop (a + 1)) hg1 (by rw [List.length_append, List.length_singleton]; omega)
          refine k_2b e2 ?_
          refine ⟨hg2, rfl, by rw [List.length_append, List.length_singleton, yl], fun y m => ?_⟩
          rcases List.mem_append.mp m with m | m
          · exact hys y m
          · rw [List.mem_singleton.mp m]; exact ⟨hg2, BB⟩
      rintro t2 ys ⟨rfl, yl, hys⟩
      rw [List.nil_append] at hys yl
      rw [List.length_map] at yl
      refine k_lce rfl rfl ?_
      walk_at "ev"
      refine k_cut (o_dropT (k := 1) imv) ?_
      walk_at "ev"
      refine k_cut (o_takeT (k := 1) imv) ?_
      walk_at "ev"
      have ltk : ((vecsD n fs).take 1).length ≤ 256 := by rw [List.length_take]; omega
      refine k_2b (o_cat_t (by omega) (immA_app imv (im_take imv))) ?_
      walk_at "ev"
      refine k_1 (z := (.own, .tup (vecsD n fs).reverse)) (congrArg some (up_imm (show immA (vecsD n fs).reverse = true from immA_iff.mpr fun d m => immA_iff.mp imv d (List.mem_reverse.mp m)))) ?_
      walk_at "ev"
      have ysl : ys.length ≤ 7 := by omega
      obtain ⟨g3, hg3, e3⟩ := o_catLG (g := jn ys) (ds := ys.map fun x => x.2) (es := [.tup ((vecsD n fs).drop 1), .tup (vecsD n fs ++ (vecsD n fs).take 1), .lst (vecsD n fs), .non, .tup (vecsD n fs).reverse]) (jn_npk fun y m => (hys y m).1) (by rw [List.length_map]; show ys.length + 5 ≤ _; omega)
      refine k_2b e3 ?_
      refine k_forS (itms_any hg3) ?_
      have bb : ∀ v ∈ (ys.map fun x => x.2) ++ [D.tup ((vecsD n fs).drop 1), .tup (vecsD n fs ++ (vecsD n fs).take 1), .lst (vecsD n fs), .non, .tup (vecsD n fs).reverse], BentB n v := fun v m => by
        rcases List.mem_append.mp m with m | m
        · obtain ⟨y, my, rfl⟩ := List.mem_map.mp m
          exact (hys y my).2
        · simp only [List.mem_cons, List.not_mem_nil, or_false] at m
          rcases m with rfl | rfl | rfl | rfl | rfl
          · exact .inl ⟨_, rfl, fun e m => vecs_it e (List.mem_of_mem_drop m)⟩
          · exact .inl ⟨_, rfl, fun e m => (List.mem_append.mp m).elim (vecs_it e) fun m => vecs_it e (List.mem_of_mem_take m)⟩
          · exact .inr (.inr ⟨_, rfl⟩)
          · exact .inr (.inl rfl)
          · exact .inl ⟨_, rfl, fun e m => vecs_it e (List.mem_reverse.mp m)⟩
      refine w_for (fun j t' e' => t' = t2 ∧ ∃ (s11 s12 : Option (Bool × D)), e' = [some (false, .tok), some (false, townD n rs), some (false, .tup (vec n p)), some (false, .int due), some (false, .int (m : Int)), some (true, .int (i : Int)), some (true, .tup (vecsD n fs)), some (true, .int (a : Int)), some (true, .tup (List.map (fun k => D.int (f k + 1)) (List.range n))), some (true, .tup (vec n fun k => if k = 0 then 1 else 0)), some (false, .lst rows), s11, s12, none, none]) _ ⟨rfl, _, _, rfl⟩ ?_ ?_
      · rintro j x t3 e' hx ⟨rfl, s11, s12, rfl⟩
        obtain ⟨v, hv, rfl⟩ := map_some hx
        obtain ⟨b, c1, c2⟩ := bothB (t := t3) G n4 (c := i) (by omega) hp (bb v (List.mem_of_getElem? hv))
        cases hi : imm v with
        | true =>
          rw [up_imm hi]
          apply w_eq (by walk_at "asg")
          walk_at "ev"
          refine c1 ?_
          walk_at "ev"
          refine c2 ?_
          walk_at "ev"
          refine k_if_f (by cases b <;> rfl) ?_
          walk_at "ev"
          exact ⟨rfl, _, _, rfl⟩
        | false =>
          rw [up_frzE hi]
          apply w_eq (by walk_at "asg")
          walk_at "ev"
          refine w_xPf rfl hi ?_
          walk_at "ev"
          refine c1 ?_
          walk_at "ev"
          refine w_xPf rfl hi ?_
          walk_at "ev"
          refine c2 ?_
          walk_at "ev"
          refine k_if_f (by cases b <;> rfl) ?_
          walk_at "ev"
          exact ⟨rfl, _, _, rfl⟩
      rintro t3 e' ⟨rfl, s11, s12, rfl⟩
      walk_at "ev"
      refine w_pick ht1 (Nat.le_of_ble_eq_true rfl) (Nat.le_of_ble_eq_true rfl) (fun d m => ?_) fun t4 d ht4 hd => ?_
      · simp only [List.mem_cons, List.not_mem_nil, or_false] at m
        rcases m with rfl | rfl | rfl | rfl <;> rfl
      have idm : imm d = true := by
        simp only [List.mem_cons, List.not_mem_nil, or_false] at hd
        rcases hd with rfl | rfl | rfl | rfl <;> rfl
      walk_at "ev"
      refine a_bear_odd G hp hd ?_
      walk_at "ev"
      exact ⟨ht4, _, _, _, _, _, _, _, _, rfl⟩
  · rintro t' e' ⟨ht', s5, s6, s7, s8, s9, s10, s11, s12, rfl⟩
    walk_at "ev"
    refine a_bear_non (c := 0) G n4 (by omega) hp (.inl rfl) ?_
    walk_at "ev"
    unfold ph_accepts_bearing bd_accepts_bearing
    walk_at "ev"
    unfold ph_is_town bd_is_town
    walk_at "ev"
    exact k t' ht'
end
end
section
local macro_rules | `(tactic| walk_at "imm") => `(tactic| exact immA_rds)
local macro_rules | `(tactic| walk_at "imm") => `(tactic| exact imm_town)
local macro_rules | `(tactic| walk_at "op") => `(tactic| with_reducible exact o_ne_b)
local macro_rules | `(tactic| walk_at "op") => `(tactic| with_reducible exact o_isN)
local macro_rules | `(tactic| walk_at "op") => `(tactic| with_reducible exact o_cut_lm1n)
local macro_rules | `(tactic| walk_at "op") => `(tactic| with_reducible exact o_cut_vm1)
local macro_rules | `(tactic| walk_at "op") => `(tactic| with_reducible exact o_cut_vl)
local macro_rules | `(tactic| walk_at "op") => `(tactic| with_reducible exact o_cut_vh)
local macro_rules | `(tactic| walk_at "op") => `(tactic| with_reducible exact o_idx_t atI_zero rfl)
local macro_rules | `(tactic| walk_at "op") => `(tactic| with_reducible exact o_idx_t atI_one imm_vec)
theorem jn_cn {n : Nat} {rs : List (Nat × Nat)} (j : Jn n rs) : ∀ x, x < n → Cn rs 0 x := by
  intro x
  induction x using Nat.strongRecOn with
  | _ x ih =>
    intro hx
    by_cases z : x = 0
    · rw [z]; exact Cn.rf
    · obtain ⟨y, hy, m⟩ := j x (by omega) hx
      exact (ih y hy (by omega)).tr (Cn.edge m)
theorem w_l_pursesM {n : Nat} {rs : List (Nat × Nat)} {t : Tpa} {Q : Tpa × Bool × D → Prop} {m : Nat} (ht : OkT t) (hm : m < 1000) (T : Town n rs) (k : ∀ t' f, OkT t' → (∀ h, h < n → (f h).natAbs ≤ m) → Q (t', true, .tup (vec n f))) : wp (ph_l_purses t [.tok, townD n rs, .int (m : Int)]) Q := by
  obtain ⟨_, T2, T3, T4⟩ := id T
  unfold ph_l_purses bd_l_purses
  walk_at "ev"
  refine k_LcR (rgOf_n (by omega)) (by show n ≤ _; omega) (by walk_at "set") ?_
  refine w_lc_tape (List.range n) (fun k => .int (0 + (k : Int))) (fun _ d => ∃ z : Int, d = D.int z ∧ z.natAbs ≤ m) ht (fun a t1 _ ht1 => ?_) fun t' ds ht' hl hp => ?_
  · apply w_eq (by walk_at "asg")
    walk_at "ev"
    rw [show (2 : Int) * (m : Int) + 1 = ((2 * m + 1 : Nat) : Int) by omega]
    refine w_takeN ht1 (by omega) fun t2 r ht2 hr => ?_
    walk_at "ev"
    have := hr (by omega)
    exact ⟨ht2, _, rfl, _, rfl, by omega⟩
  · rw [List.length_range] at hl
    have hp' : ∀ i d, ds[i]? = some d → ∃ z : Int, d = D.int z ∧ z.natAbs ≤ m := fun i d hd => by
      have hi : i < n := by
        have := (List.getElem?_eq_some_iff.mp hd).1
        omega
      exact hp i i d (List.getElem?_range hi) hd
    obtain ⟨f, rfl⟩ := vec_of hl fun i d hd => by
      obtain ⟨z, h1, _⟩ := hp' i d hd
      exact ⟨z, h1⟩
    walk_at "ev"
    refine k _ _ ht' fun h hh => ?_
    obtain ⟨z, h1, h2⟩ := hp' h (D.int (f h)) (by unfold vec; rw [List.getElem?_map, List.getElem?_range hh]; rfl)
    cases h1
    exact h2
theorem cok_rowsN {ls : List (List Nat)} : cok 8 (.lst (rowsD ls)) = true := cokA_map fun r _ => cokA_map fun _ _ => rfl
theorem w_accT_none {a v : D} {t : Tpa} {Q : Tpa × Bool × D → Prop} (k : Q (t, true, .bl false)) : wp (ph_accepts_taking t [.non, a, v]) Q := by
  unfold ph_accepts_taking bd_accepts_taking
  walk_at "ev"
  unfold ph_is_town bd_is_town
  walk_at "ev"
  exact k
theorem w_accT_list {n : Nat} {rs : List (Nat × Nat)} {p : Nat → Int} {v : D} {t : Tpa} {Q : Tpa × Bool × D → Prop} (G : GoodT n rs) (k : Q (t, true, .bl false)) : wp (ph_accepts_taking t [townD n rs, .lst (vec n p), v]) Q := by
  unfold ph_accepts_taking bd_accepts_taking
  walk_at "ev"
  refine w_is_town G ?_
  walk_at "ev"
  unfold ph_is_purses bd_is_purses
  walk_at "ev"
  unfold ph_is_row bd_is_row
  walk_at "ev"
  exact k
theorem row_sum {n : Nat} {r : List Nat} (h : r.length = n) : ((List.range n).map fun k => ((r.getD k 0 : Nat) : Int)).sum = ((r.sum : Nat) : Int) := by
  rw [← cast_sum]
  refine congrArg List.sum (List.ext_getElem? fun i => ?_)
  unfold castL
  rw [List.getElem?_map, List.getElem?_map]
  by_cases hi : i < n
  · rw [List.getElem?_range hi, List.getElem?_eq_getElem (by omega), Option.map_some, Option.map_some]
    rw [List.getD_eq_getElem?_getD, List.getElem?_eq_getElem (by omega)]; rfl
  · rw [List.getElem?_eq_none (l := r) (by omega), List.getElem?_eq_none (l := List.range n) (by rw [List.length_range]; omega)]; rfl
theorem law_value (ns : List Int) (h : ns.length ≤ 63) : ∃ t' e' b, bd_law (initA ns) (slotsX 15 1) = some (t', e', .rt b (.bl true)) := by
  suffices z : wp (bd_law (initA ns) (slotsX 15 1)) (fun r => ∃ b, r.2.2 = .rt b (.bl true)) by
    obtain ⟨⟨t', e', fl⟩, h1, b, h2⟩ := z
    exact ⟨t', e', b, by rw [h1]; exact congrArg (fun z => some (t', e', z)) h2⟩
  have ht := initA_ok ns
  generalize initA ns = t0 at ht
  unfold bd_law
  rw [show slotsX 15 1 = [none, some (false, .tok), none, none, none, none, none, none, none, none, none, none, none, none, none] from rfl]
  walk_at "ev"
  refine w_l_town2 (a := 4) (b := 4) ht (by decide) (by decide) (by decide) fun t1 n rs ht1 TT n4 => ?_
  obtain ⟨T, lt, jn, l60, sr⟩ := id TT
  obtain ⟨T1, T2, T3, T4⟩ := id T
  have G : GoodT n rs := ⟨T, by omega, l60, lt, sr, jn_cn jn⟩
  walk_at "ev"
  refine w_takeN (m := 4) ht1 (by decide) fun t2 c ht2 hc => ?_
  have hc := hc (by decide)
  walk_at "ev"
  refine w_takings T1 (by omega) (by omega) ?_
  walk_at "ev"
  refine w_l_takings T1 (by omega) (by omega) ?_
  walk_at "ev"
  refine k_2b (o_ne_s cok_rowsN rfl) ?_
  walk_at "ev"
  refine w_l_pursesM (m := 2) ht2 (by decide) T fun t3 p0 ht3 hp0 => ?_
  walk_at "ev"
  refine w_takeN ht3 (by omega) fun t4 a ht4 ha => ?_
  have ha := ha T1
  walk_at "ev"
  refine w_takeN (m := 12) ht4 (by decide) fun t5 z ht5 hz => ?_
  have hz := hz (by decide)
  walk_at "ev"
  have lt1 : ((vec n p0).take a).length ≤ n := by rw [List.length_take, vec_len]; omega
  have ld1 : ((vec n p0).drop (a + 1)).length ≤ n := by rw [List.length_drop, vec_len]; omega
  have i1 : ∀ {d : D}, imm d = true → immA ((vec n p0).take a ++ [d]) = true := fun {d} h => immA_app immA_vtake (by show (imm d && true) = true; rw [h]; rfl)
  refine k_2b (o_cat_t (by rw [List.length_singleton]; omega) (i1 rfl)) ?_
  walk_at "ev"
  refine k_2b (o_cat_t (by rw [List.length_append, List.length_singleton]; omega) (immA_app (i1 rfl) immA_vdrop)) ?_
  rw [mid_set ha]
  have sb : (((List.range n).map p0).sum).natAbs ≤ 8 := by
    have u := sum_leP (l := List.range n) (f := p0) (g := fun _ => (2 : Int)) fun x m => by have := hp0 x (List.mem_range.mp m); omega
    have v := sum_leP (l := List.range n) (f := fun _ => (-2 : Int)) (g := p0) fun x m => by have := hp0 x (List.mem_range.mp m); omega
    have cst : ∀ (c : Int) (l : List Nat), (l.map fun _ => c).sum = (l.length : Int) * c := by
      intro c l
      induction l with
      | nil => show (0 : Int) = 0 * _; omega
      | cons a l ih => rw [List.map_cons, List.sum_cons, ih, List.length_cons, Int.natCast_add, Int.add_mul]; omega
    rw [cst, List.length_range] at u v
    omega
  generalize hp : (fun k => if k = a then p0 a + (z : Int) - 2 - ((List.range n).map p0).sum else p0 k) = p
  have pb : ∀ h, h < n → (p h).natAbs ≤ 23 := fun h hh => by
    rw [← hp]
    have := hp0 h hh
    have := hp0 a ha
    dsimp only
    split <;> omega
  have pb30 : ∀ h, h < n → (p h).natAbs ≤ 30 := fun h hh => by have := pb h hh; omega
  walk_at "ev"
  refine w_takeN (m := 4) ht5 (by decide) fun t6 m ht6 hm => ?_
  have hm := hm (by decide)
  walk_at "ev"
  refine w_l_rank G n4 (by omega) pb fun due R => ?_
  walk_at "ev"
  refine w_rank G.g0 (by omega) (by omega) (fun h hh => by have := pb h hh; omega) fun r2 R2 => ?_
  cases rank_one R R2
  walk_at "ev"
  refine k_if_f (by rw [decide_eq_true rfl]; rfl) ?_
  walk_at "ev"
  refine w_l_bears ht6 G n4 (by omega) pb30 R fun t7 ht7 => ?_
  walk_at "ev"
  refine w_taking G n4 (by omega) pb30 (fun nb => ?_) fun c2 r f l hc2 mr bad nb er O => ?_
  · have em : due = (m : Int) := by
      rcases R with ⟨k, k1, k2, _, _⟩ | ⟨_, e⟩
      · exact absurd k2 (nb k k1)
      · exact e
    subst em
    walk_at "ev"
    rw [decide_eq_true rfl]
    walk_at "ev"
    refine k_LcRn (by omega) (by walk_at "set") ?_
    refine w_lcr n (fun k => if k = a then 900 else 0) (fun b hb => ?_) ?_
    · apply w_eq (by walk_at "asg")
      walk_at "ev"
      by_cases y : b = a
      · refine k_ifX_f (by rw [decide_eq_true y]; rfl) ?_
        walk_at "ev"
        exact ⟨rfl, by rw [if_pos y]⟩
      · refine k_ifX_t (by rw [decide_eq_false y]; rfl) ?_
        walk_at "ev"
        exact ⟨rfl, by rw [if_neg y]⟩
    have img : imm (.tup [.tup (vec n fun k => if k = a then 900 else 0), .non]) = true := two_im imm_vec rfl
    walk_at "ev"
    refine w_accT_none ?_
    walk_at "ev"
    refine w_accT_list G ?_
    walk_at "ev"
    exact ⟨_, rfl⟩
  · have ed : due = (c2 : Int) - 1 := by
      rcases R with ⟨k, k1, k2, k3, e⟩ | ⟨k1, e⟩
      · have : ¬ c2 < k := fun z => k3 c2 z bad
        have : ¬ k < c2 := fun z => nb k z k2
        omega
      · exact absurd bad (k1 c2 hc2)
    subst ed
    obtain ⟨r1, r2⟩ := (takL_mem T1).mp mr
    have er1 := row_vecN r1
    have imr : ∀ {r : Nat → Int}, imm (.tup (vec n r)) = true := imm_vec
    have imn : imm (neverD n f l) = true := by
      show (true && (imm (.tup (vec n f)) && (imm (.tup (natsD l)) && true))) = true
      rw [imr, show imm (.tup (natsD l)) = true from immA_nats]; rfl
    rw [er1]
    have im2 : imm (.tup [.tup (vec n fun k => ((r.getD k 0 : Nat) : Int)), neverD n f l]) = true := two_im imr imn
    have gd : ∀ k, r.getD k 0 ≤ 3 := fun k => by
      by_cases hk : k < r.length
      · have : r.getD k 0 ≤ r.sum := by
          rw [List.getD_eq_getElem?_getD, List.getElem?_eq_getElem hk]
          exact mem_le_sum (List.getElem_mem _)
        omega
      · rw [List.getD_eq_getElem?_getD, List.getElem?_eq_none (by omega)]; exact Nat.zero_le _
    have PP : PpT n (neverD n f l) := .inl ⟨_, f, [.tup (natsD l)], rfl, .inr (.inl rfl), .inr ⟨l, rfl, O.lt, O.len⟩⟩
    obtain ⟨b, c1, c2', c3⟩ := both_row (t := t7) (g := fun k => .inl ((r.getD k 0 : Nat) : Int)) G pb30 PP
    have bt : b = true := c3 (List.all_eq_true.mpr fun k _ => decide_eq_true (by have := gd k; omega)) ⟨List.all_eq_true.mpr fun k m => decide_eq_true (by
      have := pb k (List.mem_range.mp m)
      have := gd k
      show (p k - ((r.getD k 0 : Nat) : Int)).natAbs ≤ 999
      omega), _, f, _, rfl, .inr (.inl rfl), .inr ⟨l, rfl, O.lt, O.len⟩, rfl⟩ ⟨_, f, _, rfl, .inr (.inl rfl), .inr ⟨l, rfl, O.lt, O.len⟩, er⟩
    subst bt
    walk_at "ev"
    rw [decide_eq_false (show ¬ (c2 : Int) - 1 = (m : Int) by omega)]
    walk_at "ev"
    refine k_orT_f (by rw [row_sum r1, r2, decide_eq_true (by omega)]; rfl) ?_
    walk_at "ev"
    refine c2' ?_
    walk_at "ev"
    refine c1 ?_
    walk_at "ev"
    refine k_forRn (n := 6) (by decide) ?_
    refine w_for (fun i t' e' => OkT t' ∧ ∃ (fl : Bool) (s11 s12 s13 : Option (Bool × D)), e' = [none, some (false, .tok), some (fl, townD n rs), some (fl, .int (n : Int)), some (fl, .int (c : Int)), some (fl, .tup (vec n p)), some (fl, .int (a : Int)), some (fl, .int (m : Int)), some (fl, .int ((c2 : Int) - 1)), some (fl, .tup [.tup (vec n fun k => ((r.getD k 0 : Nat) : Int)), neverD n f l]), none, s11, s12, s13, none]) _ ⟨ht7, true, _, _, _, rfl⟩ ?_ ?_
    · rintro i x t' e' hx ⟨ht', fl, s11, s12, s13, rfl⟩
      obtain ⟨hi, rfl⟩ := rgD_some hx
      apply w_eq (by walk_at "asg")
      walk_at "ev"
      refine w_l_bent ht' T n4 O fun t8 v ht8 V => ?_
      obtain ⟨b, d1, d2⟩ := bothT (t := t8) G pb30 V
      cases hv : imm v with
      | true =>
        walk_at "ev"
        refine d1 ?_
        walk_at "ev"
        refine d2 ?_
        walk_at "ev"
        refine k_if_f (by cases b <;> rfl) ?_
        walk_at "ev"
        exact ⟨ht8, _, _, _, _, rfl⟩
      | false =>
        refine k_crp hv ?_
        walk_at "ev"
        dsimp only [Option.map]
        refine w_xPf rfl hv ?_
        walk_at "ev"
        refine d1 ?_
        walk_at "ev"
        refine w_xPf rfl hv ?_
        walk_at "ev"
        refine d2 ?_
        walk_at "ev"
        refine k_if_f (by cases b <;> rfl) ?_
        walk_at "ev"
        exact ⟨ht8, false, _, _, _, rfl⟩
    · rintro t' e' ⟨ht', fl, s11, s12, s13, rfl⟩
      walk_at "ev"
      refine w_accT_none ?_
      walk_at "ev"
      refine w_accT_list G ?_
      walk_at "ev"
      exact ⟨_, rfl⟩
end
end Lw
set_option Elab.async false
set_option linter.all false
set_option maxRecDepth 100000
set_option maxHeartbeats 4000000
namespace Lw
open PySem L2 Fw
structure Bd (K : PySem.W.Frag) (mg : Str → Option Value) where
  a_is_whole : Addr
  d_is_whole : FuncData
  F_is_whole : L2.Fun K "is_whole" "is_whole" s_is_whole a_is_whole d_is_whole
  m_is_whole : mg "is_whole" = some (.ref a_is_whole)
  b_is_whole : Binds K d_is_whole ["value", "low", "high"] []
  a_is_number : Addr
  d_is_number : FuncData
  F_is_number : L2.Fun K "is_number" "is_number" s_is_number a_is_number d_is_number
  m_is_number : mg "is_number" = some (.ref a_is_number)
  b_is_number : Binds K d_is_number ["value"] []
  a_is_road : Addr
  d_is_road : FuncData
  F_is_road : L2.Fun K "is_road" "is_road" s_is_road a_is_road d_is_road
  m_is_road : mg "is_road" = some (.ref a_is_road)
  b_is_road : Binds K d_is_road ["value", "many"] []
  a_reached : Addr
  d_reached : FuncData
  F_reached : L2.Fun K "reached" "reached" s_reached a_reached d_reached
  m_reached : mg "reached" = some (.ref a_reached)
  b_reached : Binds K d_reached ["many", "roads", "house"] []
  a_is_town : Addr
  d_is_town : FuncData
  F_is_town : L2.Fun K "is_town" "is_town" s_is_town a_is_town d_is_town
  m_is_town : mg "is_town" = some (.ref a_is_town)
  b_is_town : Binds K d_is_town ["value"] []
  a_is_row : Addr
  d_is_row : FuncData
  F_is_row : L2.Fun K "is_row" "is_row" s_is_row a_is_row d_is_row
  m_is_row : mg "is_row" = some (.ref a_is_row)
  b_is_row : Binds K d_is_row ["value", "many"] []
  a_is_purses : Addr
  d_is_purses : FuncData
  F_is_purses : L2.Fun K "is_purses" "is_purses" s_is_purses a_is_purses d_is_purses
  m_is_purses : mg "is_purses" = some (.ref a_is_purses)
  b_is_purses : Binds K d_is_purses ["value", "town"] []
  a_is_order : Addr
  d_is_order : FuncData
  F_is_order : L2.Fun K "is_order" "is_order" s_is_order a_is_order d_is_order
  m_is_order : mg "is_order" = some (.ref a_is_order)
  b_is_order : Binds K d_is_order ["value", "town"] []
  a_roads_at : Addr
  d_roads_at : FuncData
  F_roads_at : L2.Fun K "roads_at" "roads_at" s_roads_at a_roads_at d_roads_at
  m_roads_at : mg "roads_at" = some (.ref a_roads_at)
  b_roads_at : Binds K d_roads_at ["town", "house"] []
  a_roads_into : Addr
  d_roads_into : FuncData
  F_roads_into : L2.Fun K "roads_into" "roads_into" s_roads_into a_roads_into d_roads_into
  m_roads_into : mg "roads_into" = some (.ref a_roads_into)
  b_roads_into : Binds K d_roads_into ["town", "house", "lot"] []
  a_matrix : Addr
  d_matrix : FuncData
  F_matrix : L2.Fun K "matrix" "matrix" s_matrix a_matrix d_matrix
  m_matrix : mg "matrix" = some (.ref a_matrix)
  b_matrix : Binds K d_matrix ["town"] []
  a_after : Addr
  d_after : FuncData
  F_after : L2.Fun K "after" "after" s_after a_after d_after
  m_after : mg "after" = some (.ref a_after)
  b_after : Binds K d_after ["town", "purses", "script"] []
  a_lend_together : Addr
  d_lend_together : FuncData
  F_lend_together : L2.Fun K "lend_together" "lend_together" s_lend_together a_lend_together d_lend_together
  m_lend_together : mg "lend_together" = some (.ref a_lend_together)
  b_lend_together : Binds K d_lend_together ["town", "purses", "lot"] []
  a_plain : Addr
  d_plain : FuncData
  F_plain : L2.Fun K "plain" "plain" s_plain a_plain d_plain
  m_plain : mg "plain" = some (.ref a_plain)
  b_plain : Binds K d_plain ["script"] []
  a_joined : Addr
  d_joined : FuncData
  F_joined : L2.Fun K "joined" "joined" s_joined a_joined d_joined
  m_joined : mg "joined" = some (.ref a_joined)
  b_joined : Binds K d_joined ["one", "other"] []
  a_less : Addr
  d_less : FuncData
  F_less : L2.Fun K "less" "less" s_less a_less d_less
  m_less : mg "less" = some (.ref a_less)
  b_less : Binds K d_less ["one", "other"] []
  a_solved : Addr
  d_solved : FuncData
  F_solved : L2.Fun K "solved" "solved" s_solved a_solved d_solved
  m_solved : mg "solved" = some (.ref a_solved)
  b_solved : Binds K d_solved ["rows", "column"] []
  a_fire : Addr
  d_fire : FuncData
  F_fire : L2.Fun K "fire" "fire" s_fire a_fire d_fire
  m_fire : mg "fire" = some (.ref a_fire)
  b_fire : Binds K d_fire ["town", "purses", "bank"] []
  a_standing : Addr
  d_standing : FuncData
  F_standing : L2.Fun K "standing" "standing" s_standing a_standing d_standing
  m_standing : mg "standing" = some (.ref a_standing)
  b_standing : Binds K d_standing ["town", "purses", "bank"] []
  a_first_script : Addr
  d_first_script : FuncData
  F_first_script : L2.Fun K "first_script" "first_script" s_first_script a_first_script d_first_script
  m_first_script : mg "first_script" = some (.ref a_first_script)
  b_first_script : Binds K d_first_script ["town", "purses", "bank"] []
  a_debtor : Addr
  d_debtor : FuncData
  F_debtor : L2.Fun K "debtor" "debtor" s_debtor a_debtor d_debtor
  m_debtor : mg "debtor" = some (.ref a_debtor)
  b_debtor : Binds K d_debtor ["purses", "bank"] []
  a_reduced : Addr
  d_reduced : FuncData
  F_reduced : L2.Fun K "reduced" "reduced" s_reduced a_reduced d_reduced
  m_reduced : mg "reduced" = some (.ref a_reduced)
  b_reduced : Binds K d_reduced ["town", "purses", "bank"] []
  a_is_script : Addr
  d_is_script : FuncData
  F_is_script : L2.Fun K "is_script" "is_script" s_is_script a_is_script d_is_script
  m_is_script : mg "is_script" = some (.ref a_is_script)
  b_is_script : Binds K d_is_script ["value", "town"] []
  a_ended : Addr
  d_ended : FuncData
  F_ended : L2.Fun K "ended" "ended" s_ended a_ended d_ended
  m_ended : mg "ended" = some (.ref a_ended)
  b_ended : Binds K d_ended ["town", "purses"] []
  a_stands_against : Addr
  d_stands_against : FuncData
  F_stands_against : L2.Fun K "stands_against" "stands_against" s_stands_against a_stands_against d_stands_against
  m_stands_against : mg "stands_against" = some (.ref a_stands_against)
  b_stands_against : Binds K d_stands_against ["town", "purses", "order"] []
  a_accepts_end : Addr
  d_accepts_end : FuncData
  F_accepts_end : L2.Fun K "accepts_end" "accepts_end" s_accepts_end a_accepts_end d_accepts_end
  m_accepts_end : mg "accepts_end" = some (.ref a_accepts_end)
  b_accepts_end : Binds K d_accepts_end ["town", "purses", "value"] []
  a_takings : Addr
  d_takings : FuncData
  F_takings : L2.Fun K "takings" "takings" s_takings a_takings d_takings
  m_takings : mg "takings" = some (.ref a_takings)
  b_takings : Binds K d_takings ["many", "coins"] []
  a_is_ended : Addr
  d_is_ended : FuncData
  F_is_ended : L2.Fun K "is_ended" "is_ended" s_is_ended a_is_ended d_is_ended
  m_is_ended : mg "is_ended" = some (.ref a_is_ended)
  b_is_ended : Binds K d_is_ended ["town", "purses"] []
  a_rank : Addr
  d_rank : FuncData
  F_rank : L2.Fun K "rank" "rank" s_rank a_rank d_rank
  m_rank : mg "rank" = some (.ref a_rank)
  b_rank : Binds K d_rank ["town", "purses", "most"] []
  a_taking : Addr
  d_taking : FuncData
  F_taking : L2.Fun K "taking" "taking" s_taking a_taking d_taking
  m_taking : mg "taking" = some (.ref a_taking)
  b_taking : Binds K d_taking ["town", "purses", "most"] []
  a_accepts_taking : Addr
  d_accepts_taking : FuncData
  F_accepts_taking : L2.Fun K "accepts_taking" "accepts_taking" s_accepts_taking a_accepts_taking d_accepts_taking
  m_accepts_taking : mg "accepts_taking" = some (.ref a_accepts_taking)
  b_accepts_taking : Binds K d_accepts_taking ["town", "purses", "value"] []
  a_bearing : Addr
  d_bearing : FuncData
  F_bearing : L2.Fun K "bearing" "bearing" s_bearing a_bearing d_bearing
  m_bearing : mg "bearing" = some (.ref a_bearing)
  b_bearing : Binds K d_bearing ["town", "purses", "coins"] []
  a_accepts_bearing : Addr
  d_accepts_bearing : FuncData
  F_accepts_bearing : L2.Fun K "accepts_bearing" "accepts_bearing" s_accepts_bearing a_accepts_bearing d_accepts_bearing
  m_accepts_bearing : mg "accepts_bearing" = some (.ref a_accepts_bearing)
  b_accepts_bearing : Binds K d_accepts_bearing ["town", "purses", "coins", "value"] []
  a_l_state : Addr
  d_l_state : FuncData
  F_l_state : L2.Fun K "_law_state" "_law_state" s_l_state a_l_state d_l_state
  m_l_state : mg "_law_state" = some (.ref a_l_state)
  b_l_state : Binds K d_l_state ["script"] []
  a_l_take : Addr
  d_l_take : FuncData
  F_l_take : L2.Fun K "_law_take" "_law_take" s_l_take a_l_take d_l_take
  m_l_take : mg "_law_take" = some (.ref a_l_take)
  b_l_take : Binds K d_l_take ["state", "most"] []
  a_l_pick : Addr
  d_l_pick : FuncData
  F_l_pick : L2.Fun K "_law_pick" "_law_pick" s_l_pick a_l_pick d_l_pick
  m_l_pick : mg "_law_pick" = some (.ref a_l_pick)
  b_l_pick : Binds K d_l_pick ["state", "row"] []
  a_l_town : Addr
  d_l_town : FuncData
  F_l_town : L2.Fun K "_law_town" "_law_town" s_l_town a_l_town d_l_town
  m_l_town : mg "_law_town" = some (.ref a_l_town)
  b_l_town : Binds K d_l_town ["state", "most", "more"] []
  a_l_ends : Addr
  d_l_ends : FuncData
  F_l_ends : L2.Fun K "_law_ends" "_law_ends" s_l_ends a_l_ends d_l_ends
  m_l_ends : mg "_law_ends" = some (.ref a_l_ends)
  b_l_ends : Binds K d_l_ends ["town", "house"] []
  a_l_after : Addr
  d_l_after : FuncData
  F_l_after : L2.Fun K "_law_after" "_law_after" s_l_after a_l_after d_l_after
  m_l_after : mg "_law_after" = some (.ref a_l_after)
  b_l_after : Binds K d_l_after ["town", "purses", "script"] []
  a_l_purses : Addr
  d_l_purses : FuncData
  F_l_purses : L2.Fun K "_law_purses" "_law_purses" s_l_purses a_l_purses d_l_purses
  m_l_purses : mg "_law_purses" = some (.ref a_l_purses)
  b_l_purses : Binds K d_l_purses ["state", "town", "most"] []
  a_l_fire : Addr
  d_l_fire : FuncData
  F_l_fire : L2.Fun K "_law_fire" "_law_fire" s_l_fire a_l_fire d_l_fire
  m_l_fire : mg "_law_fire" = some (.ref a_l_fire)
  b_l_fire : Binds K d_l_fire ["town", "purses", "bank"] []
  a_l_reduced : Addr
  d_l_reduced : FuncData
  F_l_reduced : L2.Fun K "_law_reduced" "_law_reduced" s_l_reduced a_l_reduced d_l_reduced
  m_l_reduced : mg "_law_reduced" = some (.ref a_l_reduced)
  b_l_reduced : Binds K d_l_reduced ["town", "purses", "bank"] []
  a_l_script : Addr
  d_l_script : FuncData
  F_l_script : L2.Fun K "_law_script" "_law_script" s_l_script a_l_script d_l_script
  m_l_script : mg "_law_script" = some (.ref a_l_script)
  b_l_script : Binds K d_l_script ["value", "many"] []
  a_l_against : Addr
  d_l_against : FuncData
  F_l_against : L2.Fun K "_law_against" "_law_against" s_l_against a_l_against d_l_against
  m_l_against : mg "_law_against" = some (.ref a_l_against)
  b_l_against : Binds K d_l_against ["town", "purses", "order"] []
  a_l_end_right : Addr
  d_l_end_right : FuncData
  F_l_end_right : L2.Fun K "_law_end_right" "_law_end_right" s_l_end_right a_l_end_right d_l_end_right
  m_l_end_right : mg "_law_end_right" = some (.ref a_l_end_right)
  b_l_end_right : Binds K d_l_end_right ["town", "purses", "value"] []
  a_l_takings : Addr
  d_l_takings : FuncData
  F_l_takings : L2.Fun K "_law_takings" "_law_takings" s_l_takings a_l_takings d_l_takings
  m_l_takings : mg "_law_takings" = some (.ref a_l_takings)
  b_l_takings : Binds K d_l_takings ["many", "coins"] []
  a_l_rank : Addr
  d_l_rank : FuncData
  F_l_rank : L2.Fun K "_law_rank" "_law_rank" s_l_rank a_l_rank d_l_rank
  m_l_rank : mg "_law_rank" = some (.ref a_l_rank)
  b_l_rank : Binds K d_l_rank ["town", "purses", "most"] []
  a_l_taking_right : Addr
  d_l_taking_right : FuncData
  F_l_taking_right : L2.Fun K "_law_taking_right" "_law_taking_right" s_l_taking_right a_l_taking_right d_l_taking_right
  m_l_taking_right : mg "_law_taking_right" = some (.ref a_l_taking_right)
  b_l_taking_right : Binds K d_l_taking_right ["town", "purses", "value"] []
  a_l_bent : Addr
  d_l_bent : FuncData
  F_l_bent : L2.Fun K "_law_bent" "_law_bent" s_l_bent a_l_bent d_l_bent
  m_l_bent : mg "_law_bent" = some (.ref a_l_bent)
  b_l_bent : Binds K d_l_bent ["state", "town", "value"] []
  a_l_bearing_right : Addr
  d_l_bearing_right : FuncData
  F_l_bearing_right : L2.Fun K "_law_bearing_right" "_law_bearing_right" s_l_bearing_right a_l_bearing_right d_l_bearing_right
  m_l_bearing_right : mg "_law_bearing_right" = some (.ref a_l_bearing_right)
  b_l_bearing_right : Binds K d_l_bearing_right ["town", "purses", "coins", "value"] []
  a_l_bears : Addr
  d_l_bears : FuncData
  F_l_bears : L2.Fun K "_law_bears" "_law_bears" s_l_bears a_l_bears d_l_bears
  m_l_bears : mg "_law_bears" = some (.ref a_l_bears)
  b_l_bears : Binds K d_l_bears ["state", "town", "purses", "due", "most"] []
  z_isinstance : mg "isinstance" = none
  z_int : mg "int" = none
  z_bool : mg "bool" = none
  z_tuple : mg "tuple" = none
  z_len : mg "len" = none
  z_range : mg "range" = none
  z_sorted : mg "sorted" = none
  z_all : mg "all" = none
  z_list : mg "list" = none
  z_abs : mg "abs" = none
  z_sum : mg "sum" = none
  z_min : mg "min" = none
  z_max : mg "max" = none
  c_MOST_COINS : ∃ u, mg "MOST_COINS" = some (.int 999 u)
  c_MOST_HOUSES : ∃ u, mg "MOST_HOUSES" = some (.int 20 u)
  c_MOST_RANK : ∃ u, mg "MOST_RANK" = some (.int 3 u)
  c_MOST_ROADS : ∃ u, mg "MOST_ROADS" = some (.int 60 u)
section
variable {P : Program} {w : World} {K : PySem.W.Frag} {mg : Str → Option Value} {base : Heap}
abbrev N_is_whole : List Str := ["value", "low", "high"]
theorem sc_is_whole : FnScope N_is_whole ["value", "low", "high"] (defScope s_is_whole) := ⟨rfl, rfl, rfl, by decide +kernel, rfl, by decide +kernel, by decide +kernel⟩
theorem ok_is_whole (B : Bd K mg) : FnOk P w K mg base CX0 1 B.a_is_whole B.d_is_whole ["value", "low", "high"] (spF K ph_is_whole) := fn_ok (k := 0) B.F_is_whole sc_is_whole (by decide) fun cdv A outer s H E T hr => (b_one (s_ret (d_and (d_isi rfl (by rfl) B.z_isinstance bt_isinstance (by rfl) B.z_int bt_int (d_xP (pv 0))) (d_and (d_not (d_isi rfl (by rfl) B.z_isinstance bt_isinstance (by rfl) B.z_bool bt_bool (d_xP (pv 0)))) (d_one (d_chain op_le op_le (by rfl) (d_xP (pv 1)) (d_xP (pv 0)) (d_xP (pv 2))))))))
abbrev N_is_number : List Str := ["value"]
theorem sc_is_number : FnScope N_is_number ["value"] (defScope s_is_number) := ⟨rfl, rfl, rfl, by decide +kernel, rfl, by decide +kernel, by decide +kernel⟩
theorem ok_is_number (B : Bd K mg) : FnOk P w K mg base CX0 1 B.a_is_number B.d_is_number ["value"] (spF K ph_is_number) := fn_ok (k := 0) B.F_is_number sc_is_number (by decide) fun cdv A outer s H E T hr => (b_one (s_ret (d_and (d_isi rfl (by rfl) B.z_isinstance bt_isinstance (by rfl) B.z_int bt_int (d_xP (pv 0))) (d_one (d_not (d_isi rfl (by rfl) B.z_isinstance bt_isinstance (by rfl) B.z_bool bt_bool (d_xP (pv 0))))))))
abbrev N_is_road : List Str := ["value", "many"]
theorem sc_is_road : FnScope N_is_road ["value", "many"] (defScope s_is_road) := ⟨rfl, rfl, rfl, by decide +kernel, rfl, by decide +kernel, by decide +kernel⟩
theorem ok_is_road (B : Bd K mg) : FnOk P w K mg base CX0 2 B.a_is_road B.d_is_road ["value", "many"] (spF K ph_is_road) := fn_ok (k := 1) B.F_is_road sc_is_road (by decide) fun cdv A outer s H E T hr => (b_cons (s_if (t_w (w_or (t_not (t_tru rfl (d_isi rfl (by rfl) B.z_isinstance bt_isinstance (by rfl) B.z_tuple bt_tuple (d_xP (pv 0))))) (w_or (t_ne rfl (b64 hr) (d_blt opc_len call_len_seq (by rfl) B.z_len bt_len (a_cons (d_xP (pv 0)) a_nil)) d_int) (w_or1 (t_not (t_tru rfl (d_call rfl (ok_is_whole B) (hr.mono (by decide)) (by rfl) B.m_is_whole B.F_is_whole.kp B.b_is_whole (a_cons (d_idx rfl (fun _ _ => rfl) (d_xP (pv 0)) d_int) (a_cons d_int (a_cons (d_sub (d_xP (pv 1)) d_int) a_nil)))))))))) (b_one (s_ret d_bl)) b_nil)
    (b_one (s_ret (d_call rfl (ok_is_whole B) (hr.mono (by decide)) (by rfl) B.m_is_whole B.F_is_whole.kp B.b_is_whole (a_cons (d_idx rfl (fun _ _ => rfl) (d_xP (pv 0)) d_int) (a_cons (d_plus rfl (d_idx rfl (fun _ _ => rfl) (d_xP (pv 0)) d_int) d_int) (a_cons (d_sub (d_xP (pv 1)) d_int) a_nil)))))))
abbrev N_reached : List Str := ["many", "roads", "house", "found", "turn", "one", "other"]
theorem sc_reached : FnScope N_reached ["many", "roads", "house"] (defScope s_reached) := ⟨rfl, rfl, rfl, by decide +kernel, rfl, by decide +kernel, by decide +kernel⟩
theorem ok_reached (B : Bd K mg) : FnOk P w K mg base CX0 1 B.a_reached B.d_reached ["many", "roads", "house"] (spF K ph_reached) := fn_ok (k := 0) B.F_reached sc_reached (by decide) fun cdv A outer s H E T hr => (b_cons (s_set (i := 3) sc_reached.nd rfl (Or.inl rfl) (d_lst (a_cons (d_xV (pv 2)) a_nil)))
    (b_cons (s_forR1 PassesOwn.never rfl (by rfl) B.z_range (a_cons (d_xP (pv 0)) a_nil) (g_name (pg_name (i := 4) sc_reached.nd rfl (Or.inl rfl))) (b_one (s_for rfl PassesOwn.never rfl (d_xF (pv 1)) (g_tup rfl rfl (pgs_cons (pg_name (i := 5) sc_reached.nd rfl (Or.inl rfl)) (pgs_cons (pg_name (i := 6) sc_reached.nd rfl (Or.inl rfl)) pgs_nil))) (b_one (s_if (t_ne rfl (b64 hr) (d_in rfl (b65 hr) (d_xP (pv 5)) (d_xP (pv 3)) (by rfl)) (d_in rfl (b65 hr) (d_xP (pv 6)) (d_xP (pv 3)) (by rfl))) (b_one (s_app rfl (pv 3) (a_cons (d_if (t_in rfl (b65 hr) (d_xP (pv 5)) (d_xP (pv 3)) (by rfl)) (d_xV (pv 6)) (d_xV (pv 5))) a_nil))) b_nil)))))
    (b_one (s_ret (d_blt opc_sortX cr_srtX (by rfl) B.z_sorted bt_sorted (a_cons (d_xP (pv 3)) a_nil))))))
abbrev N_is_town : List Str := ["value", "many", "roads", "road"]
theorem sc_is_town : FnScope N_is_town ["value"] (defScope s_is_town) := ⟨rfl, rfl, rfl, by decide +kernel, rfl, by decide +kernel, by decide +kernel⟩
theorem ok_is_town (B : Bd K mg) : FnOk P w K mg base CX0 3 B.a_is_town B.d_is_town ["value"] (spF K ph_is_town) := fn_ok (k := 2) B.F_is_town sc_is_town (by decide) fun cdv A outer s H E T hr => (b_cons (s_if (t_w (w_or (t_not (t_tru rfl (d_isi rfl (by rfl) B.z_isinstance bt_isinstance (by rfl) B.z_tuple bt_tuple (d_xP (pv 0))))) (w_or (t_ne rfl (b64 hr) (d_blt opc_len call_len_seq (by rfl) B.z_len bt_len (a_cons (d_xP (pv 0)) a_nil)) d_int) (w_or1 (t_ne rfl (b64 hr) (d_idx rfl (fun _ _ => rfl) (d_xP (pv 0)) d_int) d_str))))) (b_one (s_ret d_bl)) b_nil)
    (b_cons (s_asg (d_sl rfl (d_xP (pv 0)) (o_some d_int) o_none) (g_tup rfl rfl (pgs_cons (pg_name (i := 1) sc_is_town.nd rfl (Or.inr rfl)) (pgs_cons (pg_name (i := 2) sc_is_town.nd rfl (Or.inl rfl)) pgs_nil))))
    (b_cons (s_if (t_w (w_or (t_not (t_tru rfl (d_call rfl (ok_is_whole B) (hr.mono (by decide)) (by rfl) B.m_is_whole B.F_is_whole.kp B.b_is_whole (a_cons (d_xP (pv 1)) (a_cons d_int (a_cons (d_gint (by rfl) B.c_MOST_HOUSES) a_nil)))))) (w_or (t_not (t_tru rfl (d_isi rfl (by rfl) B.z_isinstance bt_isinstance (by rfl) B.z_tuple bt_tuple (d_xP (pv 2))))) (w_or1 (t_gt (d_blt opc_len call_len_seq (by rfl) B.z_len bt_len (a_cons (d_xP (pv 2)) a_nil)) (d_gint (by rfl) B.c_MOST_ROADS)))))) (b_one (s_ret d_bl)) b_nil)
    (b_cons (s_if (t_not (t_tru rfl (d_blt opc_all (cr_all rfl) (by rfl) B.z_all bt_all (a_cons (d_lc rfl rfl sc_is_town.nd (d_xP (pv 2)) (blkOk_by (N := N_is_town) (sc := defScope s_is_town) (own := [("road", 3)]) (by decide +kernel)) (by decide) (fun _ _ _ _ _ => (g_nameR (pg_name (i := 3) sc_is_town.nd rfl (by first | exact Or.inl rfl | exact Or.inr rfl)))) (fun _ _ _ _ _ => ts_nil) (fun _ _ _ _ _ => (d_call rfl (ok_is_road B) (hr.mono (by decide)) (by rfl) B.m_is_road B.F_is_road.kp B.b_is_road (a_cons (d_xP (pv 3)) (a_cons (d_xP (pv 1)) a_nil))))) a_nil)))) (b_one (s_ret d_bl)) b_nil)
    (b_one (s_ret (d_and (d_eq rfl (b64 hr) (d_ty opc_list call_list_of (by rfl) B.z_list bt_list (a_cons (d_xP (pv 2)) a_nil)) (d_blt opc_sortZ cr_srtZ (by rfl) B.z_sorted bt_sorted (a_cons (d_xP (pv 2)) a_nil))) (d_one (d_eq rfl (b64 hr) (d_blt opc_len call_len_seq (by rfl) B.z_len bt_len (a_cons (d_call rfl (ok_reached B) (hr.mono (by decide)) (by rfl) B.m_reached B.F_reached.kp B.b_reached (a_cons (d_xP (pv 1)) (a_cons (d_xP (pv 2)) (a_cons d_int a_nil)))) a_nil)) (d_xP (pv 1)))))))))))
abbrev N_is_row : List Str := ["value", "many", "number"]
theorem sc_is_row : FnScope N_is_row ["value", "many"] (defScope s_is_row) := ⟨rfl, rfl, rfl, by decide +kernel, rfl, by decide +kernel, by decide +kernel⟩
theorem ok_is_row (B : Bd K mg) : FnOk P w K mg base CX0 2 B.a_is_row B.d_is_row ["value", "many"] (spF K ph_is_row) := fn_ok (k := 1) B.F_is_row sc_is_row (by decide) fun cdv A outer s H E T hr => (b_one (s_ret (d_and (d_isi rfl (by rfl) B.z_isinstance bt_isinstance (by rfl) B.z_tuple bt_tuple (d_xP (pv 0))) (d_and (d_eq rfl (b64 hr) (d_blt opc_len call_len_seq (by rfl) B.z_len bt_len (a_cons (d_xP (pv 0)) a_nil)) (d_xP (pv 1))) (d_one (d_blt opc_all (cr_all rfl) (by rfl) B.z_all bt_all (a_cons (d_lc rfl rfl sc_is_row.nd (d_xP (pv 0)) (blkOk_by (N := N_is_row) (sc := defScope s_is_row) (own := [("number", 2)]) (by decide +kernel)) (by decide) (fun _ _ _ _ _ => (g_nameR (pg_name (i := 2) sc_is_row.nd rfl (by first | exact Or.inl rfl | exact Or.inr rfl)))) (fun _ _ _ _ _ => ts_nil) (fun _ _ _ _ _ => (d_call rfl (ok_is_number B) (hr.mono (by decide)) (by rfl) B.m_is_number B.F_is_number.kp B.b_is_number (a_cons (d_xP (pv 2)) a_nil)))) a_nil)))))))
abbrev N_is_purses : List Str := ["value", "town", "coins"]
theorem sc_is_purses : FnScope N_is_purses ["value", "town"] (defScope s_is_purses) := ⟨rfl, rfl, rfl, by decide +kernel, rfl, by decide +kernel, by decide +kernel⟩
theorem ok_is_purses (B : Bd K mg) : FnOk P w K mg base CX0 3 B.a_is_purses B.d_is_purses ["value", "town"] (spF K ph_is_purses) := fn_ok (k := 2) B.F_is_purses sc_is_purses (by decide) fun cdv A outer s H E T hr => (b_one (s_ret (d_and (d_call rfl (ok_is_row B) (hr.mono (by decide)) (by rfl) B.m_is_row B.F_is_row.kp B.b_is_row (a_cons (d_xP (pv 0)) (a_cons (d_idx rfl (fun _ _ => rfl) (d_xP (pv 1)) d_int) a_nil))) (d_one (d_blt opc_all (cr_all rfl) (by rfl) B.z_all bt_all (a_cons (d_lc rfl rfl sc_is_purses.nd (d_xP (pv 0)) (blkOk_by (N := N_is_purses) (sc := defScope s_is_purses) (own := [("coins", 2)]) (by decide +kernel)) (by decide) (fun _ _ _ _ _ => (g_nameR (pg_name (i := 2) sc_is_purses.nd rfl (by first | exact Or.inl rfl | exact Or.inr rfl)))) (fun _ _ _ _ _ => ts_nil) (fun _ _ _ _ _ => (d_le (d_blt opc_abs call_abs (by rfl) B.z_abs bt_abs (a_cons (d_xP (pv 2)) a_nil)) (d_gint (by rfl) B.c_MOST_COINS)))) a_nil))))))
abbrev N_is_order : List Str := ["value", "town"]
theorem sc_is_order : FnScope N_is_order ["value", "town"] (defScope s_is_order) := ⟨rfl, rfl, rfl, by decide +kernel, rfl, by decide +kernel, by decide +kernel⟩
theorem ok_is_order (B : Bd K mg) : FnOk P w K mg base CX0 3 B.a_is_order B.d_is_order ["value", "town"] (spF K ph_is_order) := fn_ok (k := 2) B.F_is_order sc_is_order (by decide) fun cdv A outer s H E T hr => (b_one (s_ret (d_and (d_call rfl (ok_is_row B) (hr.mono (by decide)) (by rfl) B.m_is_row B.F_is_row.kp B.b_is_row (a_cons (d_xP (pv 0)) (a_cons (d_idx rfl (fun _ _ => rfl) (d_xP (pv 1)) d_int) a_nil))) (d_one (d_eq rfl (b64 hr) (d_blt opc_sortX cr_srtX (by rfl) B.z_sorted bt_sorted (a_cons (d_xP (pv 0)) a_nil)) (d_lstR1 rfl (by rfl) B.z_range (d_idx rfl (fun _ _ => rfl) (d_xP (pv 1)) d_int) (by rfl) B.z_list))))))
abbrev N_roads_at : List Str := ["town", "house", "found", "one", "other"]
theorem sc_roads_at : FnScope N_roads_at ["town", "house"] (defScope s_roads_at) := ⟨rfl, rfl, rfl, by decide +kernel, rfl, by decide +kernel, by decide +kernel⟩
theorem ok_roads_at (B : Bd K mg) : FnOk P w K mg base CX0 1 B.a_roads_at B.d_roads_at ["town", "house"] (spF K ph_roads_at) := fn_ok (k := 0) B.F_roads_at sc_roads_at (by decide) fun cdv A outer s H E T hr => (b_cons (s_set (i := 2) sc_roads_at.nd rfl (Or.inl rfl) (d_lst a_nil))
    (b_cons (s_for rfl PassesOwn.never rfl (d_idx rfl (fun _ _ => rfl) (d_xP (pv 0)) d_int) (g_tup rfl rfl (pgs_cons (pg_name (i := 3) sc_roads_at.nd rfl (Or.inl rfl)) (pgs_cons (pg_name (i := 4) sc_roads_at.nd rfl (Or.inl rfl)) pgs_nil))) (b_cons (s_if (t_eq rfl (b64 hr) (d_xP (pv 3)) (d_xP (pv 1))) (b_one (s_app rfl (pv 2) (a_cons (d_xV (pv 4)) a_nil))) b_nil)
    (b_one (s_if (t_eq rfl (b64 hr) (d_xP (pv 4)) (d_xP (pv 1))) (b_one (s_app rfl (pv 2) (a_cons (d_xV (pv 3)) a_nil))) b_nil))))
    (b_one (s_ret (d_xM (pv 2))))))
abbrev N_roads_into : List Str := ["town", "house", "lot", "other"]
theorem sc_roads_into : FnScope N_roads_into ["town", "house", "lot"] (defScope s_roads_into) := ⟨rfl, rfl, rfl, by decide +kernel, rfl, by decide +kernel, by decide +kernel⟩
theorem ok_roads_into (B : Bd K mg) : FnOk P w K mg base CX0 2 B.a_roads_into B.d_roads_into ["town", "house", "lot"] (spF K ph_roads_into) := fn_ok (k := 1) B.F_roads_into sc_roads_into (by decide) fun cdv A outer s H E T hr => (b_one (s_ret (d_blt opc_len call_len_seq (by rfl) B.z_len bt_len (a_cons (d_lc rfl rfl sc_roads_into.nd (d_call rfl (ok_roads_at B) (hr.mono (by decide)) (by rfl) B.m_roads_at B.F_roads_at.kp B.b_roads_at (a_cons (d_xP (pv 0)) (a_cons (d_xP (pv 1)) a_nil))) (blkOk_by (N := N_roads_into) (sc := defScope s_roads_into) (own := [("other", 3)]) (by decide +kernel)) (by decide) (fun _ _ _ _ _ => (g_nameR (pg_name (i := 3) sc_roads_into.nd rfl (by first | exact Or.inl rfl | exact Or.inr rfl)))) (fun _ _ _ _ _ => (pts_one (t_in rfl (b65 hr) (d_xP (pv 3)) (d_xP (pv 2)) (by rfl)))) (fun _ _ _ _ _ => (d_xV (pv 3)))) a_nil))))
abbrev N_matrix : List Str := ["town", "rows", "house", "ends", "other"]
theorem sc_matrix : FnScope N_matrix ["town"] (defScope s_matrix) := ⟨rfl, rfl, rfl, by decide +kernel, rfl, by decide +kernel, by decide +kernel⟩
theorem ok_matrix (B : Bd K mg) : FnOk P w K mg base CX0 2 B.a_matrix B.d_matrix ["town"] (spF K ph_matrix) := fn_ok (k := 1) B.F_matrix sc_matrix (by decide) fun cdv A outer s H E T hr => (b_cons (s_set (i := 1) sc_matrix.nd rfl (Or.inl rfl) (d_lst a_nil))
    (b_cons (s_forR1 PassesOwn.never rfl (by rfl) B.z_range (a_cons (d_idx rfl (fun _ _ => rfl) (d_xP (pv 0)) d_int) a_nil) (g_name (pg_name (i := 2) sc_matrix.nd rfl (Or.inr rfl))) (b_cons (s_set (i := 3) sc_matrix.nd rfl (Or.inr rfl) (d_call rfl (ok_roads_at B) (hr.mono (by decide)) (by rfl) B.m_roads_at B.F_roads_at.kp B.b_roads_at (a_cons (d_xP (pv 0)) (a_cons (d_xP (pv 2)) a_nil))))
    (b_one (s_app rfl (pv 1) (a_cons (d_lcR1 rfl sc_matrix.nd (by rfl) B.z_range (a_cons (d_idx rfl (fun _ _ => rfl) (d_xP (pv 0)) d_int) a_nil) (blkOk_by (N := N_matrix) (sc := defScope s_matrix) (own := [("other", 4)]) (by decide +kernel)) (by decide) (fun _ _ _ _ _ => (g_nameR (pg_name (i := 4) sc_matrix.nd rfl (by first | exact Or.inl rfl | exact Or.inr rfl)))) (fun _ _ _ _ _ => ts_nil) (fun _ _ _ _ _ => (d_if (t_eq rfl (b64 hr) (d_xP (pv 4)) (d_xP (pv 2))) (d_blt opc_len call_len_seq (by rfl) B.z_len bt_len (a_cons (d_xP (pv 3)) a_nil)) (d_sub d_int (d_count rfl (d_xP (pv 3)) (d_xP (pv 4))))))) a_nil)))))
    (b_one (s_ret (d_xM (pv 1))))))
abbrev N_after : List Str := ["town", "purses", "script", "found", "house", "ends", "other"]
theorem sc_after : FnScope N_after ["town", "purses", "script"] (defScope s_after) := ⟨rfl, rfl, rfl, by decide +kernel, rfl, by decide +kernel, by decide +kernel⟩
theorem ok_after (B : Bd K mg) : FnOk P w K mg base CX0 2 B.a_after B.d_after ["town", "purses", "script"] (spF K ph_after) := fn_ok (k := 1) B.F_after sc_after (by decide) fun cdv A outer s H E T hr => (b_cons (s_set (i := 3) sc_after.nd rfl (Or.inl rfl) (d_lst a_nil))
    (b_cons (s_forR1 PassesOwn.never rfl (by rfl) B.z_range (a_cons (d_idx rfl (fun _ _ => rfl) (d_xP (pv 0)) d_int) a_nil) (g_name (pg_name (i := 4) sc_after.nd rfl (Or.inl rfl))) (b_cons (s_set (i := 5) sc_after.nd rfl (Or.inl rfl) (d_call rfl (ok_roads_at B) (hr.mono (by decide)) (by rfl) B.m_roads_at B.F_roads_at.kp B.b_roads_at (a_cons (d_xP (pv 0)) (a_cons (d_xP (pv 4)) a_nil))))
    (b_one (s_app rfl (pv 3) (a_cons (d_plus rfl (d_sub (d_idx rfl (fun _ _ => rfl) (d_xP (pv 1)) (d_xP (pv 4))) (d_times rfl (d_idx rfl (fun _ _ => rfl) (d_xP (pv 2)) (d_xP (pv 4))) (d_blt opc_len call_len_seq (by rfl) B.z_len bt_len (a_cons (d_xP (pv 5)) a_nil)))) (d_blt opc_sumX (cr_sumX rfl) (by rfl) B.z_sum bt_sum (a_cons (d_lc rfl rfl sc_after.nd (d_xP (pv 5)) (blkOk_by (N := N_after) (sc := defScope s_after) (own := [("other", 6)]) (by decide +kernel)) (by decide) (fun _ _ _ _ _ => (g_nameR (pg_name (i := 6) sc_after.nd rfl (by first | exact Or.inl rfl | exact Or.inr rfl)))) (fun _ _ _ _ _ => ts_nil) (fun _ _ _ _ _ => (d_idx rfl (fun _ _ => rfl) (d_xP (pv 2)) (d_xP (pv 6))))) a_nil))) a_nil)))))
    (b_one (s_ret (d_ty opc_tuple call_tuple_of (by rfl) B.z_tuple bt_tuple (a_cons (d_xP (pv 3)) a_nil))))))
abbrev N_lend_together : List Str := ["town", "purses", "lot", "house"]
theorem sc_lend_together : FnScope N_lend_together ["town", "purses", "lot"] (defScope s_lend_together) := ⟨rfl, rfl, rfl, by decide +kernel, rfl, by decide +kernel, by decide +kernel⟩
theorem ok_lend_together (B : Bd K mg) : FnOk P w K mg base CX0 3 B.a_lend_together B.d_lend_together ["town", "purses", "lot"] (spF K ph_lend_together) := fn_ok (k := 2) B.F_lend_together sc_lend_together (by decide) fun cdv A outer s H E T hr => (b_one (s_ret (d_call rfl (ok_after B) (hr.mono (by decide)) (by rfl) B.m_after B.F_after.kp B.b_after (a_cons (d_xP (pv 0)) (a_cons (d_xP (pv 1)) (a_cons (d_ty opc_tuple call_tuple_of (by rfl) B.z_tuple bt_tuple (a_cons (d_lcR1 rfl sc_lend_together.nd (by rfl) B.z_range (a_cons (d_idx rfl (fun _ _ => rfl) (d_xP (pv 0)) d_int) a_nil) (blkOk_by (N := N_lend_together) (sc := defScope s_lend_together) (own := [("house", 3)]) (by decide +kernel)) (by decide) (fun _ _ _ _ _ => (g_nameR (pg_name (i := 3) sc_lend_together.nd rfl (by first | exact Or.inl rfl | exact Or.inr rfl)))) (fun _ _ _ _ _ => ts_nil) (fun _ _ _ _ _ => (d_if (t_in rfl (b65 hr) (d_xP (pv 3)) (d_xP (pv 2)) (by rfl)) d_int d_int))) a_nil)) a_nil))))))
abbrev N_plain : List Str := ["script", "least", "number"]
theorem sc_plain : FnScope N_plain ["script"] (defScope s_plain) := ⟨rfl, rfl, rfl, by decide +kernel, rfl, by decide +kernel, by decide +kernel⟩
theorem ok_plain (B : Bd K mg) : FnOk P w K mg base CX0 1 B.a_plain B.d_plain ["script"] (spF K ph_plain) := fn_ok (k := 0) B.F_plain sc_plain (by decide) fun cdv A outer s H E T hr => (b_cons (s_set (i := 1) sc_plain.nd rfl (Or.inr rfl) (d_blt opc_minX (cr_minX rfl) (by rfl) B.z_min bt_min (a_cons (d_xP (pv 0)) a_nil)))
    (b_one (s_ret (d_ty opc_tuple call_tuple_of (by rfl) B.z_tuple bt_tuple (a_cons (d_lc rfl rfl sc_plain.nd (d_xP (pv 0)) (blkOk_by (N := N_plain) (sc := defScope s_plain) (own := [("number", 2)]) (by decide +kernel)) (by decide) (fun _ _ _ _ _ => (g_nameR (pg_name (i := 2) sc_plain.nd rfl (by first | exact Or.inl rfl | exact Or.inr rfl)))) (fun _ _ _ _ _ => ts_nil) (fun _ _ _ _ _ => (d_sub (d_xP (pv 2)) (d_xP (pv 1))))) a_nil)))))
abbrev N_joined : List Str := ["one", "other", "k"]
theorem sc_joined : FnScope N_joined ["one", "other"] (defScope s_joined) := ⟨rfl, rfl, rfl, by decide +kernel, rfl, by decide +kernel, by decide +kernel⟩
theorem ok_joined (B : Bd K mg) : FnOk P w K mg base CX0 1 B.a_joined B.d_joined ["one", "other"] (spF K ph_joined) := fn_ok (k := 0) B.F_joined sc_joined (by decide) fun cdv A outer s H E T hr => (b_one (s_ret (d_ty opc_tuple call_tuple_of (by rfl) B.z_tuple bt_tuple (a_cons (d_lcR1 rfl sc_joined.nd (by rfl) B.z_range (a_cons (d_blt opc_len call_len_seq (by rfl) B.z_len bt_len (a_cons (d_xP (pv 0)) a_nil)) a_nil) (blkOk_by (N := N_joined) (sc := defScope s_joined) (own := [("k", 2)]) (by decide +kernel)) (by decide) (fun _ _ _ _ _ => (g_nameR (pg_name (i := 2) sc_joined.nd rfl (by first | exact Or.inl rfl | exact Or.inr rfl)))) (fun _ _ _ _ _ => ts_nil) (fun _ _ _ _ _ => (d_plus rfl (d_idx rfl (fun _ _ => rfl) (d_xP (pv 0)) (d_xP (pv 2))) (d_idx rfl (fun _ _ => rfl) (d_xP (pv 1)) (d_xP (pv 2)))))) a_nil))))
abbrev N_less : List Str := ["one", "other", "k"]
theorem sc_less : FnScope N_less ["one", "other"] (defScope s_less) := ⟨rfl, rfl, rfl, by decide +kernel, rfl, by decide +kernel, by decide +kernel⟩
theorem ok_less (B : Bd K mg) : FnOk P w K mg base CX0 1 B.a_less B.d_less ["one", "other"] (spF K ph_less) := fn_ok (k := 0) B.F_less sc_less (by decide) fun cdv A outer s H E T hr => (b_one (s_ret (d_ty opc_tuple call_tuple_of (by rfl) B.z_tuple bt_tuple (a_cons (d_lcR1 rfl sc_less.nd (by rfl) B.z_range (a_cons (d_blt opc_len call_len_seq (by rfl) B.z_len bt_len (a_cons (d_xP (pv 0)) a_nil)) a_nil) (blkOk_by (N := N_less) (sc := defScope s_less) (own := [("k", 2)]) (by decide +kernel)) (by decide) (fun _ _ _ _ _ => (g_nameR (pg_name (i := 2) sc_less.nd rfl (by first | exact Or.inl rfl | exact Or.inr rfl)))) (fun _ _ _ _ _ => ts_nil) (fun _ _ _ _ _ => (d_sub (d_idx rfl (fun _ _ => rfl) (d_xP (pv 0)) (d_xP (pv 2))) (d_idx rfl (fun _ _ => rfl) (d_xP (pv 1)) (d_xP (pv 2)))))) a_nil))))
abbrev N_solved : List Str := ["rows", "column", "work", "last", "k", "i", "factor", "j", "row"]
theorem sc_solved : FnScope N_solved ["rows", "column"] (defScope s_solved) := ⟨rfl, rfl, rfl, by decide +kernel, rfl, by decide +kernel, by decide +kernel⟩
theorem ok_solved (B : Bd K mg) : FnOk P w K mg base CX0 1 B.a_solved B.d_solved ["rows", "column"] (spF K ph_solved) := fn_ok (k := 0) B.F_solved sc_solved (by decide) fun cdv A outer s H E T hr => (b_cons (s_setLcR1 (i := 2) rfl sc_solved.nd rfl rfl (sw_true rfl rfl rfl (by decide +kernel)) (by rfl) B.z_range (a_cons (d_blt opc_len call_len_seq (by rfl) B.z_len bt_len (a_cons (d_xP (pv 0)) a_nil)) a_nil) (blkOk_by (N := N_solved) (sc := defScope s_solved) (own := [("k", 4)]) (by decide +kernel)) (by decide) (fun _ _ _ _ _ => (g_nameR (pg_name (i := 4) sc_solved.nd rfl (by first | exact Or.inl rfl | exact Or.inr rfl)))) (fun _ _ _ _ _ => ts_nil) (fun _ _ _ _ _ => (d_plus rfl (d_ty opc_list call_list_of (by rfl) B.z_list bt_list (a_cons (d_idx rfl (fun _ _ => rfl) (d_xP (pv 0)) (d_xP (pv 4))) a_nil)) (d_lst (a_cons (d_idx rfl (fun _ _ => rfl) (d_xP (pv 1)) (d_xP (pv 4))) a_nil)))))
    (b_cons (s_set (i := 3) sc_solved.nd rfl (Or.inl rfl) d_int)
    (b_cons (s_forR1 PassesOwn.never rfl (by rfl) B.z_range (a_cons (d_blt opc_len call_len_seq (by rfl) B.z_len bt_len (a_cons (d_xP (pv 2)) a_nil)) a_nil) (g_name (pg_name (i := 4) sc_solved.nd rfl (Or.inl rfl))) (b_cons (s_forR1 PassesOwn.never rfl (by rfl) B.z_range (a_cons (d_blt opc_len call_len_seq (by rfl) B.z_len bt_len (a_cons (d_xP (pv 2)) a_nil)) a_nil) (g_name (pg_name (i := 5) sc_solved.nd rfl (Or.inl rfl))) (b_one (s_if (t_ne rfl (b64 hr) (d_xP (pv 5)) (d_xP (pv 4))) (b_cons (s_set (i := 6) sc_solved.nd rfl (Or.inl rfl) (d_idx rfl (fun _ _ => rfl) (d_idx rfl (fun _ _ => rfl) (d_xP (pv 2)) (d_xP (pv 5))) (d_xP (pv 4))))
    (b_one (s_forR1 PassesOwn.never rfl (by rfl) B.z_range (a_cons (d_plus rfl (d_blt opc_len call_len_seq (by rfl) B.z_len bt_len (a_cons (d_xP (pv 2)) a_nil)) d_int) a_nil) (g_name (pg_name (i := 7) sc_solved.nd rfl (Or.inl rfl))) (b_one (s_set2 rfl (fun _ _ => rfl) (pv 2) (d_xP (pv 5)) (d_xP (pv 7)) (d_fdivW (d_sub (d_mulW (d_idx rfl (fun _ _ => rfl) (d_idx rfl (fun _ _ => rfl) (d_xP (pv 2)) (d_xP (pv 4))) (d_xP (pv 4))) (d_idx rfl (fun _ _ => rfl) (d_idx rfl (fun _ _ => rfl) (d_xP (pv 2)) (d_xP (pv 5))) (d_xP (pv 7)))) (d_mulW (d_xP (pv 6)) (d_idx rfl (fun _ _ => rfl) (d_idx rfl (fun _ _ => rfl) (d_xP (pv 2)) (d_xP (pv 4))) (d_xP (pv 7))))) (d_xP (pv 3)))))))) b_nil)))
    (b_one (s_set (i := 3) sc_solved.nd rfl (Or.inl rfl) (d_idx rfl (fun _ _ => rfl) (d_idx rfl (fun _ _ => rfl) (d_xP (pv 2)) (d_xP (pv 4))) (d_xP (pv 4)))))))
    (b_one (s_ret (d_tup (a_cons (d_lc rfl rfl sc_solved.nd (d_xF (pv 2)) (blkOk_by (N := N_solved) (sc := defScope s_solved) (own := [("row", 8)]) (by decide +kernel)) (by decide) (fun _ _ _ _ _ => (g_nameR (pg_name (i := 8) sc_solved.nd rfl (by first | exact Or.inl rfl | exact Or.inr rfl)))) (fun _ _ _ _ _ => ts_nil) (fun _ _ _ _ _ => (d_idx rfl (fun _ _ => rfl) (d_xP (pv 8)) (d_neg d_int)))) (a_cons (d_xM (pv 3)) a_nil))))))))
abbrev N_fire : List Str := ["town", "purses", "bank", "burnt", "ahead", "house"]
theorem sc_fire : FnScope N_fire ["town", "purses", "bank"] (defScope s_fire) := ⟨rfl, rfl, rfl, by decide +kernel, rfl, by decide +kernel, by decide +kernel⟩
theorem ok_fire (B : Bd K mg) : FnOk P w K mg base CX0 3 B.a_fire B.d_fire ["town", "purses", "bank"] (spF K ph_fire) := fn_ok (k := 2) B.F_fire sc_fire (by decide) fun cdv A outer s H E T hr => (b_cons (s_set (i := 3) sc_fire.nd rfl (Or.inl rfl) (d_lst (a_cons (d_xV (pv 2)) a_nil)))
    (b_one (s_while PassesOwn.never (t_tru rfl d_bl) (b_cons (s_set (i := 4) sc_fire.nd rfl (Or.inl rfl) (d_lst a_nil))
    (b_cons (s_forR1 PassesOwn.never rfl (by rfl) B.z_range (a_cons (d_idx rfl (fun _ _ => rfl) (d_xP (pv 0)) d_int) a_nil) (g_name (pg_name (i := 5) sc_fire.nd rfl (Or.inl rfl))) (b_one (s_if (t_w (w_and (t_nin rfl (b65 hr) (d_xP (pv 5)) (d_xP (pv 3)) (by rfl)) (w_and1 (t_lt (d_idx rfl (fun _ _ => rfl) (d_xP (pv 1)) (d_xP (pv 5))) (d_call rfl (ok_roads_into B) (hr.mono (by decide)) (by rfl) B.m_roads_into B.F_roads_into.kp B.b_roads_into (a_cons (d_xP (pv 0)) (a_cons (d_xP (pv 5)) (a_cons (d_xP (pv 3)) a_nil)))))))) (b_one (s_app rfl (pv 4) (a_cons (d_xV (pv 5)) a_nil))) b_nil)))
    (b_cons (s_if (t_eq rfl (b64 hr) (d_blt opc_len call_len_seq (by rfl) B.z_len bt_len (a_cons (d_xP (pv 4)) a_nil)) d_int) (b_one (s_ret (d_xM (pv 3)))) b_nil)
    (b_one (s_app rfl (pv 3) (a_cons (d_idx rfl (fun _ _ => rfl) (d_xP (pv 4)) d_int) a_nil)))))))))
abbrev N_standing : List Str := ["town", "purses", "bank", "burnt", "house"]
theorem sc_standing : FnScope N_standing ["town", "purses", "bank"] (defScope s_standing) := ⟨rfl, rfl, rfl, by decide +kernel, rfl, by decide +kernel, by decide +kernel⟩
theorem ok_standing (B : Bd K mg) : FnOk P w K mg base CX0 4 B.a_standing B.d_standing ["town", "purses", "bank"] (spF K ph_standing) := fn_ok (k := 3) B.F_standing sc_standing (by decide) fun cdv A outer s H E T hr => (b_cons (s_set (i := 3) sc_standing.nd rfl (Or.inr rfl) (d_call rfl (ok_fire B) (hr.mono (by decide)) (by rfl) B.m_fire B.F_fire.kp B.b_fire (a_cons (d_xP (pv 0)) (a_cons (d_xP (pv 1)) (a_cons (d_xP (pv 2)) a_nil)))))
    (b_one (s_ret (d_lcR1 rfl sc_standing.nd (by rfl) B.z_range (a_cons (d_idx rfl (fun _ _ => rfl) (d_xP (pv 0)) d_int) a_nil) (blkOk_by (N := N_standing) (sc := defScope s_standing) (own := [("house", 4)]) (by decide +kernel)) (by decide) (fun _ _ _ _ _ => (g_nameR (pg_name (i := 4) sc_standing.nd rfl (by first | exact Or.inl rfl | exact Or.inr rfl)))) (fun _ _ _ _ _ => (pts_one (t_nin rfl (b65 hr) (d_xP (pv 4)) (d_xP (pv 3)) (by rfl)))) (fun _ _ _ _ _ => (d_xV (pv 4)))))))
abbrev N_first_script : List Str := ["town", "purses", "bank", "others", "rows", "small", "script", "numerators", "denominator", "k", "house", "one", "other"]
theorem sc_first_script : FnScope N_first_script ["town", "purses", "bank"] (defScope s_first_script) := ⟨rfl, rfl, rfl, by decide +kernel, rfl, by decide +kernel, by decide +kernel⟩
theorem ok_first_script (B : Bd K mg) : FnOk P w K mg base CX0 3 B.a_first_script B.d_first_script ["town", "purses", "bank"] (spF K ph_first_script) := fn_ok (k := 2) B.F_first_script sc_first_script (by decide) fun cdv A outer s H E T hr => (b_cons (s_set (i := 3) sc_first_script.nd rfl (Or.inr rfl) (d_lcR1 rfl sc_first_script.nd (by rfl) B.z_range (a_cons (d_idx rfl (fun _ _ => rfl) (d_xP (pv 0)) d_int) a_nil) (blkOk_by (N := N_first_script) (sc := defScope s_first_script) (own := [("house", 10)]) (by decide +kernel)) (by decide) (fun _ _ _ _ _ => (g_nameR (pg_name (i := 10) sc_first_script.nd rfl (by first | exact Or.inl rfl | exact Or.inr rfl)))) (fun _ _ _ _ _ => (pts_one (t_ne rfl (b64 hr) (d_xP (pv 10)) (d_xP (pv 2))))) (fun _ _ _ _ _ => (d_xV (pv 10)))))
    (b_cons (s_set (i := 4) sc_first_script.nd rfl (Or.inr rfl) (d_call rfl (ok_matrix B) (hr.mono (by decide)) (by rfl) B.m_matrix B.F_matrix.kp B.b_matrix (a_cons (d_xP (pv 0)) a_nil)))
    (b_cons (s_setLc (i := 5) rfl rfl sc_first_script.nd rfl rfl (sw_true rfl rfl rfl (by decide +kernel)) (d_xP (pv 3)) (blkOk_by (N := N_first_script) (sc := defScope s_first_script) (own := [("one", 11)]) (by decide +kernel)) (by decide) (fun _ _ _ _ _ => (g_nameR (pg_name (i := 11) sc_first_script.nd rfl (by first | exact Or.inl rfl | exact Or.inr rfl)))) (fun _ _ _ _ _ => ts_nil) (fun _ _ _ _ _ => (d_lc rfl rfl sc_first_script.nd (d_xP (pv 3)) (blkOk_by (own := [("other", 12)]) (by with_unfolding_all rfl)) (by decide) (fun _ _ _ _ _ => (g_nameR (pg_name (i := 12) sc_first_script.nd rfl (by first | exact Or.inl rfl | exact Or.inr rfl)))) (fun _ _ _ _ _ => ts_nil) (fun _ _ _ _ _ => (d_idx rfl (fun _ _ => rfl) (d_idx rfl (fun _ _ => rfl) (d_xP (pv 4)) (d_xP (pv 11))) (d_xP (pv 12)))))))
    (b_cons (s_set (i := 6) sc_first_script.nd rfl (Or.inl rfl) (d_times rfl (d_lst (a_cons d_int a_nil)) (d_idx rfl (fun _ _ => rfl) (d_xP (pv 0)) d_int)))
    (b_cons (s_if (t_gt (d_blt opc_len call_len_seq (by rfl) B.z_len bt_len (a_cons (d_xP (pv 3)) a_nil)) d_int) (b_cons (s_asg (d_call rfl (ok_solved B) (hr.mono (by decide)) (by rfl) B.m_solved B.F_solved.kp B.b_solved (a_cons (d_xP (pv 5)) (a_cons (d_lc rfl rfl sc_first_script.nd (d_xP (pv 3)) (blkOk_by (N := N_first_script) (sc := defScope s_first_script) (own := [("house", 10)]) (by decide +kernel)) (by decide) (fun _ _ _ _ _ => (g_nameR (pg_name (i := 10) sc_first_script.nd rfl (by first | exact Or.inl rfl | exact Or.inr rfl)))) (fun _ _ _ _ _ => ts_nil) (fun _ _ _ _ _ => (d_idx rfl (fun _ _ => rfl) (d_xP (pv 1)) (d_xP (pv 10))))) a_nil))) (g_tup rfl rfl (pgs_cons (pg_name (i := 7) sc_first_script.nd rfl (Or.inl rfl)) (pgs_cons (pg_name (i := 8) sc_first_script.nd rfl (Or.inl rfl)) pgs_nil))))
    (b_one (s_forR1 PassesOwn.never rfl (by rfl) B.z_range (a_cons (d_blt opc_len call_len_seq (by rfl) B.z_len bt_len (a_cons (d_xP (pv 3)) a_nil)) a_nil) (g_name (pg_name (i := 9) sc_first_script.nd rfl (Or.inl rfl))) (b_one (s_setI (pv 6) (d_idx rfl (fun _ _ => rfl) (d_xP (pv 3)) (d_xP (pv 9))) (d_fdivW (d_idx rfl (fun _ _ => rfl) (d_xP (pv 7)) (d_xP (pv 9))) (d_xP (pv 8)))))))) b_nil)
    (b_one (s_ret (d_ty opc_tuple call_tuple_of (by rfl) B.z_tuple bt_tuple (a_cons (d_xP (pv 6)) a_nil)))))))))
abbrev N_debtor : List Str := ["purses", "bank", "house"]
theorem sc_debtor : FnScope N_debtor ["purses", "bank"] (defScope s_debtor) := ⟨rfl, rfl, rfl, by decide +kernel, rfl, by decide +kernel, by decide +kernel⟩
theorem ok_debtor (B : Bd K mg) : FnOk P w K mg base CX0 1 B.a_debtor B.d_debtor ["purses", "bank"] (spF K ph_debtor) := fn_ok (k := 0) B.F_debtor sc_debtor (by decide) fun cdv A outer s H E T hr => (b_cons (s_forR1 PassesOwn.never rfl (by rfl) B.z_range (a_cons (d_blt opc_len call_len_seq (by rfl) B.z_len bt_len (a_cons (d_xP (pv 0)) a_nil)) a_nil) (g_name (pg_name (i := 2) sc_debtor.nd rfl (Or.inl rfl))) (b_one (s_if (t_w (w_and (t_ne rfl (b64 hr) (d_xP (pv 2)) (d_xP (pv 1))) (w_and1 (t_lt (d_idx rfl (fun _ _ => rfl) (d_xP (pv 0)) (d_xP (pv 2))) d_int)))) (b_one (s_ret (d_xM (pv 2)))) b_nil)))
    (b_one (s_ret d_non)))
abbrev N_reduced : List Str := ["town", "purses", "bank", "script", "now", "house", "step", "lot", "other"]
theorem sc_reduced : FnScope N_reduced ["town", "purses", "bank"] (defScope s_reduced) := ⟨rfl, rfl, rfl, by decide +kernel, rfl, by decide +kernel, by decide +kernel⟩
theorem ok_reduced (B : Bd K mg) : FnOk P w K mg base CX0 5 B.a_reduced B.d_reduced ["town", "purses", "bank"] (spF K ph_reduced) := fn_ok (k := 4) B.F_reduced sc_reduced (by decide) fun cdv A outer s H E T hr => (b_cons (s_set (i := 3) sc_reduced.nd rfl (Or.inl rfl) (d_call rfl (ok_first_script B) (hr.mono (by decide)) (by rfl) B.m_first_script B.F_first_script.kp B.b_first_script (a_cons (d_xP (pv 0)) (a_cons (d_xP (pv 1)) (a_cons (d_xP (pv 2)) a_nil)))))
    (b_cons (s_set (i := 4) sc_reduced.nd rfl (Or.inl rfl) (d_call rfl (ok_after B) (hr.mono (by decide)) (by rfl) B.m_after B.F_after.kp B.b_after (a_cons (d_xP (pv 0)) (a_cons (d_xP (pv 1)) (a_cons (d_xP (pv 3)) a_nil)))))
    (b_cons (s_set (i := 5) sc_reduced.nd rfl (Or.inr rfl) (d_call rfl (ok_debtor B) (hr.mono (by decide)) (by rfl) B.m_debtor B.F_debtor.kp B.b_debtor (a_cons (d_xP (pv 4)) (a_cons (d_xP (pv 2)) a_nil))))
    (b_cons (s_while PassesOwn.never (t_nisN (d_xP (pv 5)) d_non) (b_cons (s_set (i := 6) sc_reduced.nd rfl (Or.inl rfl) (d_ty opc_tuple call_tuple_of (by rfl) B.z_tuple bt_tuple (a_cons (d_lcR1 rfl sc_reduced.nd (by rfl) B.z_range (a_cons (d_idx rfl (fun _ _ => rfl) (d_xP (pv 0)) d_int) a_nil) (blkOk_by (N := N_reduced) (sc := defScope s_reduced) (own := [("other", 8)]) (by decide +kernel)) (by decide) (fun _ _ _ _ _ => (g_nameR (pg_name (i := 8) sc_reduced.nd rfl (by first | exact Or.inl rfl | exact Or.inr rfl)))) (fun _ _ _ _ _ => ts_nil) (fun _ _ _ _ _ => (d_if (t_eq rfl (b64 hr) (d_xP (pv 8)) (d_xP (pv 5))) (d_neg d_int) d_int))) a_nil)))
    (b_cons (s_par (i := 3) (j := 4) rfl sc_reduced.nd rfl rfl (by decide) rfl rfl (a_cons (d_call rfl (ok_joined B) (hr.mono (by decide)) (by rfl) B.m_joined B.F_joined.kp B.b_joined (a_cons (d_xP (pv 3)) (a_cons (d_xP (pv 6)) a_nil))) (a_cons (d_call rfl (ok_after B) (hr.mono (by decide)) (by rfl) B.m_after B.F_after.kp B.b_after (a_cons (d_xP (pv 0)) (a_cons (d_xP (pv 4)) (a_cons (d_xP (pv 6)) a_nil)))) a_nil)) (by rfl))
    (b_one (s_set (i := 5) sc_reduced.nd rfl (Or.inr rfl) (d_call rfl (ok_debtor B) (hr.mono (by decide)) (by rfl) B.m_debtor B.F_debtor.kp B.b_debtor (a_cons (d_xP (pv 4)) (a_cons (d_xP (pv 2)) a_nil))))))))
    (b_cons (s_set (i := 7) sc_reduced.nd rfl (Or.inr rfl) (d_call rfl (ok_standing B) (hr.mono (by decide)) (by rfl) B.m_standing B.F_standing.kp B.b_standing (a_cons (d_xP (pv 0)) (a_cons (d_xP (pv 4)) (a_cons (d_xP (pv 2)) a_nil)))))
    (b_cons (s_while PassesOwn.never (t_gt (d_blt opc_len call_len_seq (by rfl) B.z_len bt_len (a_cons (d_xP (pv 7)) a_nil)) d_int) (b_cons (s_set (i := 3) sc_reduced.nd rfl (Or.inl rfl) (d_call rfl (ok_joined B) (hr.mono (by decide)) (by rfl) B.m_joined B.F_joined.kp B.b_joined (a_cons (d_xP (pv 3)) (a_cons (d_ty opc_tuple call_tuple_of (by rfl) B.z_tuple bt_tuple (a_cons (d_lcR1 rfl sc_reduced.nd (by rfl) B.z_range (a_cons (d_idx rfl (fun _ _ => rfl) (d_xP (pv 0)) d_int) a_nil) (blkOk_by (N := N_reduced) (sc := defScope s_reduced) (own := [("house", 5)]) (by decide +kernel)) (by decide) (fun _ _ _ _ _ => (g_nameR (pg_name (i := 5) sc_reduced.nd rfl (by first | exact Or.inl rfl | exact Or.inr rfl)))) (fun _ _ _ _ _ => ts_nil) (fun _ _ _ _ _ => (d_if (t_in rfl (b65 hr) (d_xP (pv 5)) (d_xP (pv 7)) (by rfl)) d_int d_int))) a_nil)) a_nil))))
    (b_cons (s_set (i := 4) sc_reduced.nd rfl (Or.inl rfl) (d_call rfl (ok_lend_together B) (hr.mono (by decide)) (by rfl) B.m_lend_together B.F_lend_together.kp B.b_lend_together (a_cons (d_xP (pv 0)) (a_cons (d_xP (pv 4)) (a_cons (d_xP (pv 7)) a_nil)))))
    (b_one (s_set (i := 7) sc_reduced.nd rfl (Or.inr rfl) (d_call rfl (ok_standing B) (hr.mono (by decide)) (by rfl) B.m_standing B.F_standing.kp B.b_standing (a_cons (d_xP (pv 0)) (a_cons (d_xP (pv 4)) (a_cons (d_xP (pv 2)) a_nil)))))))))
    (b_one (s_ret (d_tup (a_cons (d_xM (pv 4)) (a_cons (d_xM (pv 3)) a_nil)))))))))))
abbrev N_is_script : List Str := ["value", "town", "number"]
theorem sc_is_script : FnScope N_is_script ["value", "town"] (defScope s_is_script) := ⟨rfl, rfl, rfl, by decide +kernel, rfl, by decide +kernel, by decide +kernel⟩
theorem ok_is_script (B : Bd K mg) : FnOk P w K mg base CX0 1 B.a_is_script B.d_is_script ["value", "town"] (spF K ph_is_script) := fn_ok (k := 0) B.F_is_script sc_is_script (by decide) fun cdv A outer s H E T hr => (b_cons (s_if (t_w (w_or (t_not (t_tru rfl (d_isi rfl (by rfl) B.z_isinstance bt_isinstance (by rfl) B.z_tuple bt_tuple (d_xP (pv 0))))) (w_or1 (t_ne rfl (b64 hr) (d_blt opc_len call_len_seq (by rfl) B.z_len bt_len (a_cons (d_xP (pv 0)) a_nil)) (d_idx rfl (fun _ _ => rfl) (d_xP (pv 1)) d_int))))) (b_one (s_ret d_bl)) b_nil)
    (b_one (s_ret (d_blt opc_all (cr_all rfl) (by rfl) B.z_all bt_all (a_cons (d_lc rfl rfl sc_is_script.nd (d_xP (pv 0)) (blkOk_by (N := N_is_script) (sc := defScope s_is_script) (own := [("number", 2)]) (by decide +kernel)) (by decide) (fun _ _ _ _ _ => (g_nameR (pg_name (i := 2) sc_is_script.nd rfl (by first | exact Or.inl rfl | exact Or.inr rfl)))) (fun _ _ _ _ _ => ts_nil) (fun _ _ _ _ _ => (d_and (d_isi rfl (by rfl) B.z_isinstance bt_isinstance (by rfl) B.z_int bt_int (d_xP (pv 2))) (d_one (d_not (d_isi rfl (by rfl) B.z_isinstance bt_isinstance (by rfl) B.z_bool bt_bool (d_xP (pv 2)))))))) a_nil)))))
abbrev N_ended : List Str := ["town", "purses", "now", "script"]
theorem sc_ended : FnScope N_ended ["town", "purses"] (defScope s_ended) := ⟨rfl, rfl, rfl, by decide +kernel, rfl, by decide +kernel, by decide +kernel⟩
theorem ok_ended (B : Bd K mg) : FnOk P w K mg base CX0 6 B.a_ended B.d_ended ["town", "purses"] (spF K ph_ended) := fn_ok (k := 5) B.F_ended sc_ended (by decide) fun cdv A outer s H E T hr => (b_cons (s_asg (d_call rfl (ok_reduced B) (hr.mono (by decide)) (by rfl) B.m_reduced B.F_reduced.kp B.b_reduced (a_cons (d_xP (pv 0)) (a_cons (d_xP (pv 1)) (a_cons d_int a_nil)))) (g_tup rfl rfl (pgs_cons (pg_name (i := 2) sc_ended.nd rfl (Or.inl rfl)) (pgs_cons (pg_name (i := 3) sc_ended.nd rfl (Or.inl rfl)) pgs_nil))))
    (b_cons (s_if (t_ge (d_idx rfl (fun _ _ => rfl) (d_xP (pv 2)) d_int) d_int) (b_one (s_ret (d_tup (a_cons d_str (a_cons (d_call rfl (ok_plain B) (hr.mono (by decide)) (by rfl) B.m_plain B.F_plain.kp B.b_plain (a_cons (d_xP (pv 3)) a_nil)) a_nil))))) b_nil)
    (b_one (s_ret (d_tup (a_cons d_str (a_cons (d_call rfl (ok_plain B) (hr.mono (by decide)) (by rfl) B.m_plain B.F_plain.kp B.b_plain (a_cons (d_xP (pv 3)) a_nil)) (a_cons (d_ty opc_tuple call_tuple_of (by rfl) B.z_tuple bt_tuple (a_cons (d_call rfl (ok_fire B) (hr.mono (by decide)) (by rfl) B.m_fire B.F_fire.kp B.b_fire (a_cons (d_xP (pv 0)) (a_cons (d_xP (pv 2)) (a_cons d_int a_nil)))) a_nil)) a_nil))))))))
abbrev N_stands_against : List Str := ["town", "purses", "order", "k"]
theorem sc_stands_against : FnScope N_stands_against ["town", "purses", "order"] (defScope s_stands_against) := ⟨rfl, rfl, rfl, by decide +kernel, rfl, by decide +kernel, by decide +kernel⟩
theorem ok_stands_against (B : Bd K mg) : FnOk P w K mg base CX0 3 B.a_stands_against B.d_stands_against ["town", "purses", "order"] (spF K ph_stands_against) := fn_ok (k := 2) B.F_stands_against sc_stands_against (by decide) fun cdv A outer s H E T hr => (b_one (s_ret (d_blt opc_all (cr_all rfl) (by rfl) B.z_all bt_all (a_cons (d_lcR1 rfl sc_stands_against.nd (by rfl) B.z_range (a_cons (d_blt opc_len call_len_seq (by rfl) B.z_len bt_len (a_cons (d_xP (pv 2)) a_nil)) a_nil) (blkOk_by (N := N_stands_against) (sc := defScope s_stands_against) (own := [("k", 3)]) (by decide +kernel)) (by decide) (fun _ _ _ _ _ => (g_nameR (pg_name (i := 3) sc_stands_against.nd rfl (by first | exact Or.inl rfl | exact Or.inr rfl)))) (fun _ _ _ _ _ => ts_nil) (fun _ _ _ _ _ => (d_lt (d_idx rfl (fun _ _ => rfl) (d_xP (pv 1)) (d_idx rfl (fun _ _ => rfl) (d_xP (pv 2)) (d_xP (pv 3)))) (d_call rfl (ok_roads_into B) (hr.mono (by decide)) (by rfl) B.m_roads_into B.F_roads_into.kp B.b_roads_into (a_cons (d_xP (pv 0)) (a_cons (d_idx rfl (fun _ _ => rfl) (d_xP (pv 2)) (d_xP (pv 3))) (a_cons (d_sl rfl (d_xP (pv 2)) o_none (o_some (d_xP (pv 3)))) a_nil))))))) a_nil))))
abbrev N_accepts_end : List Str := ["town", "purses", "value", "behind"]
theorem sc_accepts_end : FnScope N_accepts_end ["town", "purses", "value"] (defScope s_accepts_end) := ⟨rfl, rfl, rfl, by decide +kernel, rfl, by decide +kernel, by decide +kernel⟩
theorem ok_accepts_end (B : Bd K mg) : FnOk P w K mg base CX0 4 B.a_accepts_end B.d_accepts_end ["town", "purses", "value"] (spF K ph_accepts_end) := fn_ok (k := 3) B.F_accepts_end sc_accepts_end (by decide) fun cdv A outer s H E T hr => (b_cons (s_if (t_w (w_or (t_not (t_tru rfl (d_call rfl (ok_is_town B) (hr.mono (by decide)) (by rfl) B.m_is_town B.F_is_town.kp B.b_is_town (a_cons (d_xP (pv 0)) a_nil)))) (w_or (t_not (t_tru rfl (d_call rfl (ok_is_purses B) (hr.mono (by decide)) (by rfl) B.m_is_purses B.F_is_purses.kp B.b_is_purses (a_cons (d_xP (pv 1)) (a_cons (d_xP (pv 0)) a_nil))))) (w_or (t_not (t_tru rfl (d_isi rfl (by rfl) B.z_isinstance bt_isinstance (by rfl) B.z_tuple bt_tuple (d_xP (pv 2))))) (w_or1 (t_lt (d_blt opc_len call_len_seq (by rfl) B.z_len bt_len (a_cons (d_xP (pv 2)) a_nil)) d_int)))))) (b_one (s_ret d_bl)) b_nil)
    (b_cons (s_if (t_w (w_or (t_not (t_tru rfl (d_call rfl (ok_is_script B) (hr.mono (by decide)) (by rfl) B.m_is_script B.F_is_script.kp B.b_is_script (a_cons (d_idx rfl (fun _ _ => rfl) (d_xP (pv 2)) d_int) (a_cons (d_xP (pv 0)) a_nil))))) (w_or1 (t_ne rfl (b64 hr) (d_blt opc_minX (cr_minX rfl) (by rfl) B.z_min bt_min (a_cons (d_idx rfl (fun _ _ => rfl) (d_xP (pv 2)) d_int) a_nil)) d_int)))) (b_one (s_ret d_bl)) b_nil)
    (b_cons (s_set (i := 3) sc_accepts_end.nd rfl (Or.inl rfl) (d_call rfl (ok_after B) (hr.mono (by decide)) (by rfl) B.m_after B.F_after.kp B.b_after (a_cons (d_xP (pv 0)) (a_cons (d_xP (pv 1)) (a_cons (d_idx rfl (fun _ _ => rfl) (d_xP (pv 2)) d_int) a_nil)))))
    (b_cons (s_if (t_eq rfl (b64 hr) (d_idx rfl (fun _ _ => rfl) (d_xP (pv 2)) d_int) d_str) (b_one (s_ret (d_and (d_eq rfl (b64 hr) (d_blt opc_len call_len_seq (by rfl) B.z_len bt_len (a_cons (d_xP (pv 2)) a_nil)) d_int) (d_one (d_ge (d_blt opc_minX (cr_minX rfl) (by rfl) B.z_min bt_min (a_cons (d_xP (pv 3)) a_nil)) d_int))))) b_nil)
    (b_cons (s_if (t_w (w_or (t_ne rfl (b64 hr) (d_idx rfl (fun _ _ => rfl) (d_xP (pv 2)) d_int) d_str) (w_or (t_ne rfl (b64 hr) (d_blt opc_len call_len_seq (by rfl) B.z_len bt_len (a_cons (d_xP (pv 2)) a_nil)) d_int) (w_or1 (t_not (t_tru rfl (d_call rfl (ok_is_order B) (hr.mono (by decide)) (by rfl) B.m_is_order B.F_is_order.kp B.b_is_order (a_cons (d_idx rfl (fun _ _ => rfl) (d_xP (pv 2)) d_int) (a_cons (d_xP (pv 0)) a_nil))))))))) (b_one (s_ret d_bl)) b_nil)
    (b_one (s_ret (d_call rfl (ok_stands_against B) (hr.mono (by decide)) (by rfl) B.m_stands_against B.F_stands_against.kp B.b_stands_against (a_cons (d_xP (pv 0)) (a_cons (d_xP (pv 3)) (a_cons (d_idx rfl (fun _ _ => rfl) (d_xP (pv 2)) d_int) a_nil)))))))))))
abbrev N_takings : List Str := ["many", "coins", "rows", "k", "row", "number"]
theorem sc_takings : FnScope N_takings ["many", "coins"] (defScope s_takings) := ⟨rfl, rfl, rfl, by decide +kernel, rfl, by decide +kernel, by decide +kernel⟩
theorem ok_takings (B : Bd K mg) : FnOk P w K mg base CX0 1 B.a_takings B.d_takings ["many", "coins"] (spF K ph_takings) := fn_ok (k := 0) B.F_takings sc_takings (by decide) fun cdv A outer s H E T hr => (b_cons (s_set (i := 2) sc_takings.nd rfl (Or.inl rfl) (d_lst (a_cons (d_tup a_nil) a_nil)))
    (b_cons (s_forR1 PassesOwn.never rfl (by rfl) B.z_range (a_cons (d_sub (d_xP (pv 0)) d_int) a_nil) (g_name (pg_name (i := 3) sc_takings.nd rfl (Or.inl rfl))) (b_one (s_setLc2 (i := 2) rfl rfl sc_takings.nd rfl rfl (sw_true rfl rfl rfl (by decide +kernel)) (d_xP (pv 2)) (blkOk_by (N := N_takings) (sc := defScope s_takings) (own := [("row", 4), ("number", 5)]) (by decide +kernel)) (by decide) (by decide) (by decide) (fun _ _ _ _ _ => (g_nameR (pg_name (i := 4) sc_takings.nd rfl (by first | exact Or.inl rfl | exact Or.inr rfl)))) (fun _ _ _ _ _ => ts_nil) (fun _ _ _ _ _ => (pi_range1 (by rfl) B.z_range (a_cons (d_plus rfl (d_sub (d_xP (pv 1)) (d_blt opc_sumX (cr_sumX rfl) (by rfl) B.z_sum bt_sum (a_cons (d_xP (pv 4)) a_nil))) d_int) a_nil))) inR1_ok (fun _ _ _ _ _ => (g_nameR (pg_name (i := 5) sc_takings.nd rfl (by first | exact Or.inl rfl | exact Or.inr rfl)))) (fun _ _ _ _ _ => ts_nil) (fun _ _ _ _ _ => (d_plus rfl (d_xP (pv 4)) (d_tup (a_cons (d_xV (pv 5)) a_nil)))))))
    (b_one (s_ret (d_lc rfl rfl sc_takings.nd (d_xP (pv 2)) (blkOk_by (N := N_takings) (sc := defScope s_takings) (own := [("row", 4)]) (by decide +kernel)) (by decide) (fun _ _ _ _ _ => (g_nameR (pg_name (i := 4) sc_takings.nd rfl (by first | exact Or.inl rfl | exact Or.inr rfl)))) (fun _ _ _ _ _ => ts_nil) (fun _ _ _ _ _ => (d_plus rfl (d_xP (pv 4)) (d_tup (a_cons (d_sub (d_xP (pv 1)) (d_blt opc_sumX (cr_sumX rfl) (by rfl) B.z_sum bt_sum (a_cons (d_xP (pv 4)) a_nil))) a_nil)))))))))
abbrev N_is_ended : List Str := ["town", "purses"]
theorem sc_is_ended : FnScope N_is_ended ["town", "purses"] (defScope s_is_ended) := ⟨rfl, rfl, rfl, by decide +kernel, rfl, by decide +kernel, by decide +kernel⟩
theorem ok_is_ended (B : Bd K mg) : FnOk P w K mg base CX0 6 B.a_is_ended B.d_is_ended ["town", "purses"] (spF K ph_is_ended) := fn_ok (k := 5) B.F_is_ended sc_is_ended (by decide) fun cdv A outer s H E T hr => (b_one (s_ret (d_ge (d_idx rfl (fun _ _ => rfl) (d_idx rfl (fun _ _ => rfl) (d_call rfl (ok_reduced B) (hr.mono (by decide)) (by rfl) B.m_reduced B.F_reduced.kp B.b_reduced (a_cons (d_xP (pv 0)) (a_cons (d_xP (pv 1)) (a_cons d_int a_nil)))) d_int) d_int) d_int)))
abbrev N_rank : List Str := ["town", "purses", "most", "coins", "taken"]
theorem sc_rank : FnScope N_rank ["town", "purses", "most"] (defScope s_rank) := ⟨rfl, rfl, rfl, by decide +kernel, rfl, by decide +kernel, by decide +kernel⟩
theorem ok_rank (B : Bd K mg) : FnOk P w K mg base CX0 7 B.a_rank B.d_rank ["town", "purses", "most"] (spF K ph_rank) := fn_ok (k := 6) B.F_rank sc_rank (by decide) fun cdv A outer s H E T hr => (b_cons (s_forR1 PassesOwn.never rfl (by rfl) B.z_range (a_cons (d_plus rfl (d_xP (pv 2)) d_int) a_nil) (g_name (pg_name (i := 3) sc_rank.nd rfl (Or.inl rfl))) (b_one (s_if (t_not (t_tru rfl (d_blt opc_all (cr_all rfl) (by rfl) B.z_all bt_all (a_cons (d_lc rfl rfl sc_rank.nd (d_call rfl (ok_takings B) (hr.mono (by decide)) (by rfl) B.m_takings B.F_takings.kp B.b_takings (a_cons (d_idx rfl (fun _ _ => rfl) (d_xP (pv 0)) d_int) (a_cons (d_xP (pv 3)) a_nil))) (blkOk_by (N := N_rank) (sc := defScope s_rank) (own := [("taken", 4)]) (by decide +kernel)) (by decide) (fun _ _ _ _ _ => (g_nameR (pg_name (i := 4) sc_rank.nd rfl (by first | exact Or.inl rfl | exact Or.inr rfl)))) (fun _ _ _ _ _ => ts_nil) (fun _ _ _ _ _ => (d_call rfl (ok_is_ended B) (hr.mono (by decide)) (by rfl) B.m_is_ended B.F_is_ended.kp B.b_is_ended (a_cons (d_xP (pv 0)) (a_cons (d_call rfl (ok_less B) (hr.mono (by decide)) (by rfl) B.m_less B.F_less.kp B.b_less (a_cons (d_xP (pv 1)) (a_cons (d_xP (pv 4)) a_nil))) a_nil))))) a_nil)))) (b_one (s_ret (d_sub (d_xP (pv 3)) d_int))) b_nil)))
    (b_one (s_ret (d_xM (pv 2)))))
abbrev N_taking : List Str := ["town", "purses", "most", "coins", "taken", "told"]
theorem sc_taking : FnScope N_taking ["town", "purses", "most"] (defScope s_taking) := ⟨rfl, rfl, rfl, by decide +kernel, rfl, by decide +kernel, by decide +kernel⟩
theorem ok_taking (B : Bd K mg) : FnOk P w K mg base CX0 7 B.a_taking B.d_taking ["town", "purses", "most"] (spF K ph_taking) := fn_ok (k := 6) B.F_taking sc_taking (by decide) fun cdv A outer s H E T hr => (b_cons (s_forR1 PassesOwn.never rfl (by rfl) B.z_range (a_cons (d_plus rfl (d_xP (pv 2)) d_int) a_nil) (g_name (pg_name (i := 3) sc_taking.nd rfl (Or.inl rfl))) (b_one (s_for rfl PassesOwn.never rfl (d_call rfl (ok_takings B) (hr.mono (by decide)) (by rfl) B.m_takings B.F_takings.kp B.b_takings (a_cons (d_idx rfl (fun _ _ => rfl) (d_xP (pv 0)) d_int) (a_cons (d_xP (pv 3)) a_nil))) (g_name (pg_name (i := 4) sc_taking.nd rfl (Or.inl rfl))) (b_cons (s_set (i := 5) sc_taking.nd rfl (Or.inl rfl) (d_call rfl (ok_ended B) (hr.mono (by decide)) (by rfl) B.m_ended B.F_ended.kp B.b_ended (a_cons (d_xP (pv 0)) (a_cons (d_call rfl (ok_less B) (hr.mono (by decide)) (by rfl) B.m_less B.F_less.kp B.b_less (a_cons (d_xP (pv 1)) (a_cons (d_xP (pv 4)) a_nil))) a_nil))))
    (b_one (s_if (t_eq rfl (b64 hr) (d_idx rfl (fun _ _ => rfl) (d_xP (pv 5)) d_int) d_str) (b_one (s_ret (d_tup (a_cons (d_xM (pv 4)) (a_cons (d_xM (pv 5)) a_nil))))) b_nil))))))
    (b_one (s_ret d_non)))
abbrev N_accepts_taking : List Str := ["town", "purses", "value", "taken", "told", "left", "coins"]
theorem sc_accepts_taking : FnScope N_accepts_taking ["town", "purses", "value"] (defScope s_accepts_taking) := ⟨rfl, rfl, rfl, by decide +kernel, rfl, by decide +kernel, by decide +kernel⟩
theorem ok_accepts_taking (B : Bd K mg) : FnOk P w K mg base CX0 5 B.a_accepts_taking B.d_accepts_taking ["town", "purses", "value"] (spF K ph_accepts_taking) := fn_ok (k := 4) B.F_accepts_taking sc_accepts_taking (by decide) fun cdv A outer s H E T hr => (b_cons (s_if (t_w (w_or (t_not (t_tru rfl (d_call rfl (ok_is_town B) (hr.mono (by decide)) (by rfl) B.m_is_town B.F_is_town.kp B.b_is_town (a_cons (d_xP (pv 0)) a_nil)))) (w_or (t_not (t_tru rfl (d_call rfl (ok_is_purses B) (hr.mono (by decide)) (by rfl) B.m_is_purses B.F_is_purses.kp B.b_is_purses (a_cons (d_xP (pv 1)) (a_cons (d_xP (pv 0)) a_nil))))) (w_or (t_not (t_tru rfl (d_isi rfl (by rfl) B.z_isinstance bt_isinstance (by rfl) B.z_tuple bt_tuple (d_xP (pv 2))))) (w_or1 (t_ne rfl (b64 hr) (d_blt opc_len call_len_seq (by rfl) B.z_len bt_len (a_cons (d_xP (pv 2)) a_nil)) d_int)))))) (b_one (s_ret d_bl)) b_nil)
    (b_cons (s_asg (d_xV (pv 2)) (g_tup rfl rfl (pgs_cons (pg_name (i := 3) sc_accepts_taking.nd rfl (Or.inl rfl)) (pgs_cons (pg_name (i := 4) sc_accepts_taking.nd rfl (Or.inl rfl)) pgs_nil))))
    (b_cons (s_if (t_w (w_or (t_not (t_tru rfl (d_isi rfl (by rfl) B.z_isinstance bt_isinstance (by rfl) B.z_tuple bt_tuple (d_xP (pv 3))))) (w_or (t_ne rfl (b64 hr) (d_blt opc_len call_len_seq (by rfl) B.z_len bt_len (a_cons (d_xP (pv 3)) a_nil)) (d_idx rfl (fun _ _ => rfl) (d_xP (pv 0)) d_int)) (w_or1 (t_not (t_tru rfl (d_blt opc_all (cr_all rfl) (by rfl) B.z_all bt_all (a_cons (d_lc rfl rfl sc_accepts_taking.nd (d_xP (pv 3)) (blkOk_by (N := N_accepts_taking) (sc := defScope s_accepts_taking) (own := [("coins", 6)]) (by decide +kernel)) (by decide) (fun _ _ _ _ _ => (g_nameR (pg_name (i := 6) sc_accepts_taking.nd rfl (by first | exact Or.inl rfl | exact Or.inr rfl)))) (fun _ _ _ _ _ => ts_nil) (fun _ _ _ _ _ => (d_call rfl (ok_is_whole B) (hr.mono (by decide)) (by rfl) B.m_is_whole B.F_is_whole.kp B.b_is_whole (a_cons (d_xP (pv 6)) (a_cons d_int (a_cons d_int a_nil)))))) a_nil)))))))) (b_one (s_ret d_bl)) b_nil)
    (b_cons (s_set (i := 5) sc_accepts_taking.nd rfl (Or.inl rfl) (d_call rfl (ok_less B) (hr.mono (by decide)) (by rfl) B.m_less B.F_less.kp B.b_less (a_cons (d_xP (pv 1)) (a_cons (d_xP (pv 3)) a_nil))))
    (b_cons (s_if (t_w (w_or (t_not (t_tru rfl (d_isi rfl (by rfl) B.z_isinstance bt_isinstance (by rfl) B.z_tuple bt_tuple (d_xP (pv 4))))) (w_or1 (t_ne rfl (b64 hr) (d_sl rfl (d_xP (pv 4)) o_none (o_some d_int)) (d_tup (a_cons d_str a_nil)))))) (b_one (s_ret d_bl)) b_nil)
    (b_one (s_ret (d_and (d_call rfl (ok_is_purses B) (hr.mono (by decide)) (by rfl) B.m_is_purses B.F_is_purses.kp B.b_is_purses (a_cons (d_xP (pv 5)) (a_cons (d_xP (pv 0)) a_nil))) (d_one (d_call rfl (ok_accepts_end B) (hr.mono (by decide)) (by rfl) B.m_accepts_end B.F_accepts_end.kp B.b_accepts_end (a_cons (d_xP (pv 0)) (a_cons (d_xP (pv 5)) (a_cons (d_xP (pv 4)) a_nil)))))))))))))
abbrev N_bearing : List Str := ["town", "purses", "coins", "found", "taken", "told"]
theorem sc_bearing : FnScope N_bearing ["town", "purses", "coins"] (defScope s_bearing) := ⟨rfl, rfl, rfl, by decide +kernel, rfl, by decide +kernel, by decide +kernel⟩
theorem ok_bearing (B : Bd K mg) : FnOk P w K mg base CX0 7 B.a_bearing B.d_bearing ["town", "purses", "coins"] (spF K ph_bearing) := fn_ok (k := 6) B.F_bearing sc_bearing (by decide) fun cdv A outer s H E T hr => (b_cons (s_set (i := 3) sc_bearing.nd rfl (Or.inl rfl) (d_lst a_nil))
    (b_cons (s_for rfl PassesOwn.never rfl (d_call rfl (ok_takings B) (hr.mono (by decide)) (by rfl) B.m_takings B.F_takings.kp B.b_takings (a_cons (d_idx rfl (fun _ _ => rfl) (d_xP (pv 0)) d_int) (a_cons (d_xP (pv 2)) a_nil))) (g_name (pg_name (i := 4) sc_bearing.nd rfl (Or.inl rfl))) (b_cons (s_set (i := 5) sc_bearing.nd rfl (Or.inl rfl) (d_call rfl (ok_ended B) (hr.mono (by decide)) (by rfl) B.m_ended B.F_ended.kp B.b_ended (a_cons (d_xP (pv 0)) (a_cons (d_call rfl (ok_less B) (hr.mono (by decide)) (by rfl) B.m_less B.F_less.kp B.b_less (a_cons (d_xP (pv 1)) (a_cons (d_xP (pv 4)) a_nil))) a_nil))))
    (b_cons (s_if (t_eq rfl (b64 hr) (d_idx rfl (fun _ _ => rfl) (d_xP (pv 5)) d_int) d_str) (b_one (s_ret d_non)) b_nil)
    (b_one (s_app rfl (pv 3) (a_cons (d_idx rfl (fun _ _ => rfl) (d_xP (pv 5)) d_int) a_nil))))))
    (b_one (s_ret (d_ty opc_tuple call_tuple_of (by rfl) B.z_tuple bt_tuple (a_cons (d_xP (pv 3)) a_nil))))))
abbrev N_accepts_bearing : List Str := ["town", "purses", "coins", "value", "rows", "k"]
theorem sc_accepts_bearing : FnScope N_accepts_bearing ["town", "purses", "coins", "value"] (defScope s_accepts_bearing) := ⟨rfl, rfl, rfl, by decide +kernel, rfl, by decide +kernel, by decide +kernel⟩
theorem ok_accepts_bearing (B : Bd K mg) : FnOk P w K mg base CX0 4 B.a_accepts_bearing B.d_accepts_bearing ["town", "purses", "coins", "value"] (spF K ph_accepts_bearing) := fn_ok (k := 3) B.F_accepts_bearing sc_accepts_bearing (by decide) fun cdv A outer s H E T hr => (b_cons (s_if (t_w (w_or (t_not (t_tru rfl (d_call rfl (ok_is_town B) (hr.mono (by decide)) (by rfl) B.m_is_town B.F_is_town.kp B.b_is_town (a_cons (d_xP (pv 0)) a_nil)))) (w_or (t_not (t_tru rfl (d_call rfl (ok_is_purses B) (hr.mono (by decide)) (by rfl) B.m_is_purses B.F_is_purses.kp B.b_is_purses (a_cons (d_xP (pv 1)) (a_cons (d_xP (pv 0)) a_nil))))) (w_or1 (t_not (t_tru rfl (d_call rfl (ok_is_whole B) (hr.mono (by decide)) (by rfl) B.m_is_whole B.F_is_whole.kp B.b_is_whole (a_cons (d_xP (pv 2)) (a_cons d_int (a_cons (d_gint (by rfl) B.c_MOST_RANK) a_nil)))))))))) (b_one (s_ret d_bl)) b_nil)
    (b_cons (s_set (i := 4) sc_accepts_bearing.nd rfl (Or.inl rfl) (d_call rfl (ok_takings B) (hr.mono (by decide)) (by rfl) B.m_takings B.F_takings.kp B.b_takings (a_cons (d_idx rfl (fun _ _ => rfl) (d_xP (pv 0)) d_int) (a_cons (d_xP (pv 2)) a_nil))))
    (b_cons (s_if (t_w (w_or (t_not (t_tru rfl (d_isi rfl (by rfl) B.z_isinstance bt_isinstance (by rfl) B.z_tuple bt_tuple (d_xP (pv 3))))) (w_or1 (t_ne rfl (b64 hr) (d_blt opc_len call_len_seq (by rfl) B.z_len bt_len (a_cons (d_xP (pv 3)) a_nil)) (d_blt opc_len call_len_seq (by rfl) B.z_len bt_len (a_cons (d_xP (pv 4)) a_nil)))))) (b_one (s_ret d_bl)) b_nil)
    (b_cons (s_forR1 PassesOwn.never rfl (by rfl) B.z_range (a_cons (d_blt opc_len call_len_seq (by rfl) B.z_len bt_len (a_cons (d_xP (pv 4)) a_nil)) a_nil) (g_name (pg_name (i := 5) sc_accepts_bearing.nd rfl (Or.inl rfl))) (b_cons (s_if (t_w (w_or (t_not (t_tru rfl (d_call rfl (ok_is_script B) (hr.mono (by decide)) (by rfl) B.m_is_script B.F_is_script.kp B.b_is_script (a_cons (d_idx rfl (fun _ _ => rfl) (d_xP (pv 3)) (d_xP (pv 5))) (a_cons (d_xP (pv 0)) a_nil))))) (w_or1 (t_ne rfl (b64 hr) (d_blt opc_minX (cr_minX rfl) (by rfl) B.z_min bt_min (a_cons (d_idx rfl (fun _ _ => rfl) (d_xP (pv 3)) (d_xP (pv 5))) a_nil)) d_int)))) (b_one (s_ret d_bl)) b_nil)
    (b_one (s_if (t_lt (d_blt opc_minX (cr_minX rfl) (by rfl) B.z_min bt_min (a_cons (d_call rfl (ok_after B) (hr.mono (by decide)) (by rfl) B.m_after B.F_after.kp B.b_after (a_cons (d_xP (pv 0)) (a_cons (d_call rfl (ok_less B) (hr.mono (by decide)) (by rfl) B.m_less B.F_less.kp B.b_less (a_cons (d_xP (pv 1)) (a_cons (d_idx rfl (fun _ _ => rfl) (d_xP (pv 4)) (d_xP (pv 5))) a_nil))) (a_cons (d_idx rfl (fun _ _ => rfl) (d_xP (pv 3)) (d_xP (pv 5))) a_nil)))) a_nil)) d_int) (b_one (s_ret d_bl)) b_nil))))
    (b_one (s_ret d_bl))))))
abbrev N_l_state : List Str := ["script", "cells", "cell"]
theorem sc_l_state : FnScope N_l_state ["script"] (defScope s_l_state) := ⟨rfl, rfl, rfl, by decide +kernel, rfl, by decide +kernel, by decide +kernel⟩
theorem ok_l_state (B : Bd K mg) : FnOk P w K mg base CX0 1 B.a_l_state B.d_l_state ["script"] (spState K) := by
  refine B.F_l_state.ok sc_l_state (fun vs H Q E h => ?_) (fun cdv A outer s H vs Q E hr h => ?_)
  · obtain ⟨a, ns, rfl, _⟩ := h
    rfl
  obtain ⟨a, ns, rfl, hS, hlen, k⟩ := h
  refine ⟨_, pss_cons (ps_setLc (i := 1) (own := [("cell", 2)]) rfl sc_l_state.nd rfl rfl (sw_true rfl rfl rfl (by decide +kernel)) (pi_list (pe_slice sl_list (pv 0) po_none (po_some pe_int))) (blkOk_by (N := N_l_state) (sc := defScope s_l_state) (own := [("cell", 2)]) (by decide +kernel))
      (fun _ _ _ _ _ => pg_name (i := 2) sc_l_state.nd rfl (Or.inl rfl)) (fun _ _ _ _ _ => pts_nil) (fun _ _ _ _ _ => pe_callB call_abs (by rfl) B.z_abs bt_abs (pa_cons (pv 2) pa_nil)))
    (pss_cons (ps_if (pt_cmpR op_eq (pe_callB call_len_seq (by rfl) B.z_len bt_len (pa_cons (pv 1) pa_nil)) pe_int (nomark _)) (pss_one (ps_set (i := 1) sc_l_state.nd rfl (Or.inl rfl) (pe_lst (pa_cons pe_int pa_nil)))) pss_nil)
    (pss_one (ps_ret (pe_lst (pa_cons pe_int (pa_cons (pv 1) pa_nil)))))), ?_⟩
  refine ⟨_, rfl, 63, rfl, a, ns.map V.int, rfl, hS, fun p hp => ?_⟩
  have ec : cutV (ns.map V.int) none (some 63) = (ns.take 63).map V.int := by
    unfold cutV HT.sIx
    rw [List.map_take]
    simp
  rw [ec]
  have s1 : Same H (upd H p (.lst ((ns.take 63).map V.int))) := fun b o e => by
    rw [upd_ne (ne_of_none e hp)]
    exact e
  have hz : (ns.take 63).length ≤ 63 := by
    rw [List.length_take]
    omega
  refine ⟨p, rfl, ⟨_, .inl (.inl upd_same)⟩, fun q hq => ?_⟩
  have npq : p ≠ q := ne_of_none upd_same hq
  have hq0 : H q = none := by
    rw [upd_ne npq.symm] at hq
    exact hq
  let ms : List Int := (ns.take 63).map (fun i : Int => if i < 0 then -i else i)
  have hms : ms.length = (ns.take 63).length := by
    show ((ns.take 63).map _).length = _
    rw [List.length_map]
  refine lc_list (K := K) (a := p) (xs := (ns.take 63).map V.int) (fun i H' => Same H H' ∧ H' p = some (.lst ((ns.take 63).map V.int)) ∧ H' q = some (.lst ((ms.take i).map V.int))) ⟨fun b o e => ?_, ?_, ?_⟩ (fun i H' _ h => .inl (.inl h.2.1)) ?_ ?_
  · rw [upd_ne (ne_of_none e hq0)]
    exact s1 b o e
  · rw [upd_ne npq]
    exact upd_same
  · exact upd_same
  · rintro i x H' hi ⟨c1, c2, c3⟩
    have hil : i < (ns.take 63).length := by
      have := (List.getElem?_eq_some_iff.mp hi).1
      rw [List.length_map] at this
      exact this
    have hx : x = V.int ((ns.take 63)[i]) := by
      rw [List.getElem?_map, List.getElem?_eq_getElem hil] at hi
      exact (Option.some.inj hi).symm
    refine ⟨rfl, _, rfl, _, by rw [hx], ?_⟩
    refine ⟨(ms.take i).map V.int, c3, ?_, fun b o e => ?_, ?_, ?_⟩
    · rw [List.length_map, List.length_take]
      show _ < 16777216
      omega
    · rw [upd_ne (ne_of_none e hq0)]
      exact c1 b o e
    · rw [upd_ne npq]
      exact c2
    · have e1 : ms[i]? = some (if (ns.take 63)[i] < 0 then -(ns.take 63)[i] else (ns.take 63)[i]) := by
        show ((ns.take 63).map _)[i]? = _
        rw [List.getElem?_map, List.getElem?_eq_getElem hil]
        rfl
      have e2 : ms.take (i + 1) = ms.take i ++ [if (ns.take 63)[i] < 0 then -(ns.take 63)[i] else (ns.take 63)[i]] := by
        rw [List.take_succ, e1]
        rfl
      rw [upd_same, e2, List.map_append]
      rfl
  · rintro H' ⟨c1, c2, c3⟩
    rw [List.length_map, ← hms, List.take_length] at c3
    refine ⟨_, rfl, q, ms.map V.int, rfl, .inl (.inl (.inl c3)), rfl, _, rfl, ?_⟩
    have init : ∀ (H2 : Hp) (T : Addr × Addr) (cs : List Int), (if ms = [] then [0] else ms) = cs → H2 T.1 = some (.lst [.int 0, .ref T.2]) → H2 T.2 = some (.lst (cs.map V.int)) → T.1 ≠ T.2 → Tp.ti T H2 (initA ns) := fun H2 T cs e h1 h2 h3 => by
      refine ⟨h1, ?_, h3⟩
      show H2 T.2 = some (.lst ((if ms = [] then [0] else ms).map V.int))
      rw [e]
      exact h2
    refine ite2 (fun z => ?_) (fun z => ?_)
    · have z1 : ms = [] := by
        have z2 := of_decide_eq_true z
        have z3 : ((ms.map V.int).length : Int) = 0 := V.int.inj z2
        rw [List.length_map] at z3
        exact List.length_eq_zero_iff.mp (by omega)
      refine ⟨Nat.le_of_ble_eq_true rfl, fun r hr' => ?_⟩
      have nr : r ≠ q := (ne_of_none c3 hr').symm
      have sr : Same H (upd H' r (.lst [.int 0])) := fun b o e => by
        rw [upd_ne (ne_of_none (c1 b o e) hr')]
        exact c1 b o e
      refine ⟨_, rfl, Nat.le_of_ble_eq_true rfl, fun u hu => ?_⟩
      have nru : r ≠ u := ne_of_none upd_same hu
      refine k _ (u, r) (fun b o e => ?_) (init _ (u, r) [0] (by rw [if_pos z1]) upd_same ?_ nru.symm)
      · rw [upd_ne (ne_of_none (sr b o e) hu)]
        exact sr b o e
      · show upd _ u _ r = _
        rw [upd_ne nru]
        exact upd_same
    · have z1 : ms ≠ [] := fun w => z (decide_eq_true (by rw [w]; rfl))
      refine ⟨_, rfl, Nat.le_of_ble_eq_true rfl, fun u hu => ?_⟩
      have nqu : q ≠ u := ne_of_none c3 hu
      refine k _ (u, q) (fun b o e => ?_) (init _ (u, q) ms (by rw [if_neg z1]) upd_same ?_ nqu.symm)
      · rw [upd_ne (ne_of_none (c1 b o e) hu)]
        exact c1 b o e
      · show upd _ u _ q = _
        rw [upd_ne nqu]
        exact c3
abbrev N_l_take : List Str := ["state", "most", "cells", "at", "cell", "mixed"]
theorem sc_l_take : FnScope N_l_take ["state", "most"] (defScope s_l_take) := ⟨rfl, rfl, rfl, by decide +kernel, rfl, by decide +kernel, by decide +kernel⟩
theorem ok_l_take (B : Bd K mg) : FnOk P w K mg base CX0 1 B.a_l_take B.d_l_take ["state", "most"] (spF K ph_l_take) := by
  refine B.F_l_take.ok sc_l_take (fun vs H Q E h => ?_) (fun cdv A outer s H vs Q E hr h => ?_)
  · obtain ⟨T, t, ds, t', b, d, r, _, ev, _⟩ := h
    rw [r.len]
    unfold ph_l_take phTake at ev
    split at ev
    · rfl
    · cases ev
  obtain ⟨T, t, ds, t', b, d, r, ht, ev, k⟩ := h
  unfold ph_l_take phTake at ev
  split at ev
  · rename_i m
    rw [Option.map_eq_some_iff] at ev
    obtain ⟨⟨t2, x⟩, ev, e2⟩ := ev
    cases e2
    obtain ⟨v1, r1, e1, k1, v2, r2, e2, k2, k3⟩ := r
    have k3' : r2 = [] := k3
    have k1' : v1 = .ref T.1 := k1
    have k2' : v2 = .int m := k2
    subst k3' k1' k2' e2 e1
    obtain ⟨t1, t2', tn⟩ := ht
    have li : ∀ {z : Int} {H' : Hp}, SameT T H H' → Tp.ti T H' t' → x = z → Q (.int z) H' := fun {z H'} s ti e => by
      rw [← e]
      exact k H' _ s ti ⟨[], ⟨rfl, rfl⟩, List.nodup_nil, fun a m => nomatch m⟩
    refine ⟨_, pss_cons (ps_if (pt_cmpR op_lt (pv 1) pe_int (nomark _)) (pss_one (ps_ret pe_int)) pss_nil)
      (pss_cons (ps_set (i := 2) sc_l_take.nd rfl (Or.inl rfl) (pe_ix ix_list (pv 0) pe_int (fun _ _ => rfl)))
      (pss_cons (ps_set (i := 3) sc_l_take.nd rfl (Or.inl rfl) (pe_op op_mod (pe_callTy call_int1 (by rfl) B.z_int bt_int (pa_cons (pe_ix ix_list (pv 0) pe_int (fun _ _ => rfl)) pa_nil)) (pe_callB call_len_seq (by rfl) B.z_len bt_len (pa_cons (pv 2) pa_nil))))
      (pss_cons (ps_set (i := 4) sc_l_take.nd rfl (Or.inl rfl) (pe_ix ix_list (pv 2) (pv 3) (fun _ _ => rfl)))
      (pss_cons (ps_if (pt_cmpR op_ge (pv 4) pe_int (nomark _))
        (pss_cons (ps_asg (pe_op op_fdivW (pv 4) (pv 1)) (pg_sub (pv 2) (pv 3) set_list)) (pss_one (ps_ret (pe_op op_mod (pe_callTy call_int1 (by rfl) B.z_int bt_int (pa_cons (pv 4) pa_nil)) (pv 1))))) pss_nil)
      (pss_cons (ps_asg (pe_op op_add (pe_ix ix_list (pv 0) pe_int (fun _ _ => rfl)) pe_int) (pg_sub (pv 0) pe_int set_list))
      (pss_cons (ps_set (i := 5) sc_l_take.nd rfl (Or.inl rfl) (pe_op op_mod (pe_callTy call_int1 (by rfl) B.z_int bt_int (pa_cons (pe_op op_add (pe_op op_mul (pv 4) pe_int) (pe_op op_mul (pe_ix ix_list (pv 0) pe_int (fun _ _ => rfl)) pe_int)) pa_nil)) pe_int))
      (pss_cons (ps_set (i := 5) sc_l_take.nd rfl (Or.inl rfl) (pe_op op_mod (pe_callTy call_int1 (by rfl) B.z_int bt_int (pa_cons (pe_op op_add (pe_op op_mul (pv 5) pe_int) (pe_op op_mul (pe_ix ix_list (pv 0) pe_int (fun _ _ => rfl)) pe_int)) pa_nil)) pe_int))
      (pss_one (ps_ret (pe_op op_mod (pe_callTy call_int1 (by rfl) B.z_int bt_int (pa_cons (pe_op op_fdiv (pv 5) pe_int) pa_nil)) (pv 1)))))))))))
      , ?_⟩
    have mul7 : ∀ {i : Int} {j : Int}, -(2 ^ 64) < j ∧ j < 2 ^ 64 → CMul i j := fun h => .inr h
    have hT1 : H T.1 = some (.lst [.int t.at_, .ref T.2]) := t1
    have hT2 : H T.2 = some (.lst (t.cells.map V.int)) := t2'
    unfold takeA at ev
    refine ⟨_, rfl, _, _, rfl, rfl, _, rfl, ?_⟩
    by_cases hm : m < 2
    · rw [if_pos hm] at ev
      cases ev
      rw [decide_eq_true hm]
      refine iteT ?_
      exact li SameT.rf ⟨t1, t2', tn⟩ rfl
    rw [if_neg hm] at ev
    rw [decide_eq_false hm]
    refine iteF ?_
    by_cases hl : t.cells.length = 0
    · rw [if_pos hl] at ev
      cases ev
    rw [if_neg hl] at ev
    dsimp only at ev
    have hlp : (0 : Int) < (t.cells.length : Int) := by omega
    have hk0 : 0 ≤ t.at_ % (t.cells.length : Int) := Int.emod_nonneg _ (by omega)
    have hk1 : t.at_ % (t.cells.length : Int) < (t.cells.length : Int) := Int.emod_lt_of_pos _ hlp
    have at0 : L2.atI [V.int t.at_, .ref T.2] 0 = some (.int t.at_) := rfl
    have at1 : L2.atI [V.int t.at_, .ref T.2] 1 = some (.ref T.2) := rfl
    have ix2 : L2.ixN (t.cells.map V.int).length (t.at_ % (t.cells.length : Int)) = some (t.at_ % (t.cells.length : Int)).toNat := by
      unfold L2.ixN
      rw [if_pos hk0, List.length_map, if_pos hk1]
    have at2 : L2.atI (t.cells.map V.int) (t.at_ % (t.cells.length : Int)) = some (.int (t.cells.getD (t.at_ % (t.cells.length : Int)).toNat 0)) := by
      unfold L2.atI
      rw [ix2]
      show (t.cells.map V.int)[(t.at_ % (t.cells.length : Int)).toNat]? = _
      rw [List.getElem?_map, List.getD_eq_getElem?_getD]
      have : (t.at_ % (t.cells.length : Int)).toNat < t.cells.length := by omega
      rw [List.getElem?_eq_getElem this]
      rfl
    generalize hc : t.cells.getD (t.at_ % (t.cells.length : Int)).toNat 0 = c at ev at2
    have hlm : (((t.cells.map V.int).length : Nat) : Int) = (t.cells.length : Int) := by rw [List.length_map]
    refine ⟨_, rfl, T.1, _, 1, _, rfl, rfl, .inl (.inl hT1), at1, ?_⟩
    refine ⟨_, rfl, T.1, _, 0, _, rfl, rfl, .inl (.inl hT1), at0, .inl ⟨_, rfl, _, rfl, T.2, _, rfl, .inl (.inl (.inl hT2)), _, _, rfl, rfl, by rw [hlm]; exact hlp, ?_⟩⟩
    rw [hlm]
    refine ⟨_, rfl, _, rfl, T.2, _, _, _, rfl, rfl, .inl (.inl hT2), at2, ?_⟩
    refine ⟨_, rfl, _, _, rfl, rfl, _, rfl, ?_⟩
    by_cases hb : (1000000000000000000 : Int) ≤ c
    · rw [if_pos hb] at ev
      rw [decide_eq_true hb]
      refine iteT ?_
      split at ev
      · rename_i hlog
        cases ev
        have hm0 : (0 : Int) < m := by omega
        refine ⟨_, rfl, _, rfl, _, _, rfl, rfl, ⟨hm0, hlog⟩, _, rfl, _, rfl, T.2, _, _, _, rfl, rfl, hT2, ix2, ?_⟩
        refine ⟨_, rfl, .inl ⟨_, rfl, _, rfl, _, _, rfl, rfl, hm0, ?_⟩⟩
        refine li (fun b o n e => by rw [upd_ne fun z => n (.inr z)]; exact e) ⟨by rw [upd_ne tn]; exact t1, ?_, tn⟩ rfl
        rw [upd_same, List.map_set]
      · cases ev
    · rw [if_neg hb] at ev
      rw [decide_eq_false hb]
      refine iteF ?_
      split at ev
      · cases ev
      · rename_i hlo
        cases ev
        refine ⟨_, rfl, T.1, _, 0, _, rfl, rfl, .inl (.inl hT1), at0, _, _, rfl, rfl, _, rfl, T.1, _, 0, 0, rfl, rfl, hT1, rfl, ?_⟩
        have hU : ∀ {ys : List V}, upd H T.1 (.lst ys) T.1 = some (.lst ys) := upd_same
        have at3 : L2.atI ([V.int t.at_, .ref T.2].set 0 (.int (t.at_ + 1))) 0 = some (.int (t.at_ + 1)) := rfl
        refine ⟨_, rfl, _, _, rfl, rfl, .inl ⟨by omega, by omega⟩, _, rfl, T.1, _, 0, _, rfl, rfl, .inl (.inl hU), at3, _, _, rfl, rfl, mul7 (by decide), _, _, rfl, rfl, .inl ⟨_, rfl, _, _, rfl, rfl, by show (0 : Int) < 2147483647; decide, ?_⟩⟩
        refine ⟨_, rfl, _, _, rfl, rfl, mul7 (by decide), _, rfl, T.1, _, 0, _, rfl, rfl, .inl (.inl hU), at3, _, _, rfl, rfl, mul7 (by decide), _, _, rfl, rfl, .inl ⟨_, rfl, _, _, rfl, rfl, by show (0 : Int) < 1000000007; decide, ?_⟩⟩
        refine ⟨_, rfl, _, _, rfl, rfl, ⟨by decide, by decide⟩, .inl ⟨_, rfl, _, rfl, _, _, rfl, rfl, by omega, ?_⟩⟩
        refine li (fun b o n e => by rw [upd_ne fun z => n (.inl z)]; exact e) ⟨upd_same, by rw [upd_ne tn.symm]; exact t2', tn⟩ rfl
  · cases ev
abbrev N_l_pick : List Str := ["state", "row"]
theorem sc_l_pick : FnScope N_l_pick ["state", "row"] (defScope s_l_pick) := ⟨rfl, rfl, rfl, by decide +kernel, rfl, by decide +kernel, by decide +kernel⟩
theorem ok_l_pick (B : Bd K mg) : FnOk P w K mg base CX0 2 B.a_l_pick B.d_l_pick ["state", "row"] (spF K ph_l_pick) := fn_ok (k := 1) B.F_l_pick sc_l_pick (by decide) fun cdv A outer s H E T hr => (b_one (s_ret (d_idx rfl (fun _ _ => rfl) (d_xP (pv 1)) (d_call rfl (ok_l_take B) (hr.mono (by decide)) (by rfl) B.m_l_take B.F_l_take.kp B.b_l_take (a_cons (d_xP (pv 0)) (a_cons (d_blt opc_len call_len_seq (by rfl) B.z_len bt_len (a_cons (d_xP (pv 1)) a_nil)) a_nil))))))
abbrev N_l_town : List Str := ["state", "most", "more", "many", "roads", "house", "other", "turn", "one"]
theorem sc_l_town : FnScope N_l_town ["state", "most", "more"] (defScope s_l_town) := ⟨rfl, rfl, rfl, by decide +kernel, rfl, by decide +kernel, by decide +kernel⟩
theorem ok_l_town (B : Bd K mg) : FnOk P w K mg base CX0 3 B.a_l_town B.d_l_town ["state", "most", "more"] (spF K ph_l_town) := fn_ok (k := 2) B.F_l_town sc_l_town (by decide) fun cdv A outer s H E T hr => (b_cons (s_set (i := 3) sc_l_town.nd rfl (Or.inl rfl) (d_plus rfl d_int (d_call rfl (ok_l_take B) (hr.mono (by decide)) (by rfl) B.m_l_take B.F_l_take.kp B.b_l_take (a_cons (d_xP (pv 0)) (a_cons (d_xP (pv 1)) a_nil)))))
    (b_cons (s_set (i := 4) sc_l_town.nd rfl (Or.inl rfl) (d_lst a_nil))
    (b_cons (s_forR2 PassesOwn.never rfl (by rfl) B.z_range (a_cons d_int (a_cons (d_xP (pv 3)) a_nil)) (g_name (pg_name (i := 5) sc_l_town.nd rfl (Or.inl rfl))) (b_cons (s_set (i := 6) sc_l_town.nd rfl (Or.inl rfl) (d_call rfl (ok_l_pick B) (hr.mono (by decide)) (by rfl) B.m_l_pick B.F_l_pick.kp B.b_l_pick (a_cons (d_xP (pv 0)) (a_cons (d_lst (a_cons (d_sub (d_xP (pv 5)) d_int) (a_cons d_int (a_cons (d_call rfl (ok_l_take B) (hr.mono (by decide)) (by rfl) B.m_l_take B.F_l_take.kp B.b_l_take (a_cons (d_xP (pv 0)) (a_cons (d_xP (pv 5)) a_nil))) a_nil)))) a_nil))))
    (b_one (s_app rfl (pv 4) (a_cons (d_tup (a_cons (d_xV (pv 6)) (a_cons (d_xV (pv 5)) a_nil))) a_nil)))))
    (b_cons (s_forR1 PassesOwn.never rfl (by rfl) B.z_range (a_cons (d_call rfl (ok_l_take B) (hr.mono (by decide)) (by rfl) B.m_l_take B.F_l_take.kp B.b_l_take (a_cons (d_xP (pv 0)) (a_cons (d_plus rfl (d_xP (pv 2)) d_int) a_nil))) a_nil) (g_name (pg_name (i := 7) sc_l_town.nd rfl (Or.inl rfl))) (b_cons (s_par (i := 8) (j := 6) rfl sc_l_town.nd rfl rfl (by decide) rfl rfl (a_cons (d_call rfl (ok_l_take B) (hr.mono (by decide)) (by rfl) B.m_l_take B.F_l_take.kp B.b_l_take (a_cons (d_xP (pv 0)) (a_cons (d_xP (pv 3)) a_nil))) (a_cons (d_call rfl (ok_l_take B) (hr.mono (by decide)) (by rfl) B.m_l_take B.F_l_take.kp B.b_l_take (a_cons (d_xP (pv 0)) (a_cons (d_xP (pv 3)) a_nil))) a_nil)) (by rfl))
    (b_one (s_if (t_w (w_and (t_ne rfl (b64 hr) (d_xP (pv 8)) (d_xP (pv 6))) (w_and1 (t_lt (d_blt opc_len call_len_seq (by rfl) B.z_len bt_len (a_cons (d_xP (pv 4)) a_nil)) d_int)))) (b_one (s_app rfl (pv 4) (a_cons (d_tup (a_cons (d_blt opc_min2 (call_min2 rfl) (by rfl) B.z_min bt_min (a_cons (d_xP (pv 8)) (a_cons (d_xP (pv 6)) a_nil))) (a_cons (d_blt opc_max2 (call_max2 rfl) (by rfl) B.z_max bt_max (a_cons (d_xP (pv 8)) (a_cons (d_xP (pv 6)) a_nil))) a_nil))) a_nil))) b_nil))))
    (b_one (s_ret (d_tup (a_cons d_str (a_cons (d_xM (pv 3)) (a_cons (d_ty opc_tuple call_tuple_of (by rfl) B.z_tuple bt_tuple (a_cons (d_blt opc_sortX cr_srtX (by rfl) B.z_sorted bt_sorted (a_cons (d_xP (pv 4)) a_nil)) a_nil)) a_nil))))))))))
abbrev N_l_ends : List Str := ["town", "house", "found", "one", "other"]
theorem sc_l_ends : FnScope N_l_ends ["town", "house"] (defScope s_l_ends) := ⟨rfl, rfl, rfl, by decide +kernel, rfl, by decide +kernel, by decide +kernel⟩
theorem ok_l_ends (B : Bd K mg) : FnOk P w K mg base CX0 1 B.a_l_ends B.d_l_ends ["town", "house"] (spF K ph_l_ends) := fn_ok (k := 0) B.F_l_ends sc_l_ends (by decide) fun cdv A outer s H E T hr => (b_cons (s_set (i := 2) sc_l_ends.nd rfl (Or.inl rfl) (d_lst a_nil))
    (b_cons (s_for rfl PassesOwn.never rfl (d_idx rfl (fun _ _ => rfl) (d_xP (pv 0)) d_int) (g_tup rfl rfl (pgs_cons (pg_name (i := 3) sc_l_ends.nd rfl (Or.inl rfl)) (pgs_cons (pg_name (i := 4) sc_l_ends.nd rfl (Or.inl rfl)) pgs_nil))) (b_cons (s_if (t_eq rfl (b64 hr) (d_xP (pv 3)) (d_xP (pv 1))) (b_one (s_app rfl (pv 2) (a_cons (d_xV (pv 4)) a_nil))) b_nil)
    (b_one (s_if (t_eq rfl (b64 hr) (d_xP (pv 4)) (d_xP (pv 1))) (b_one (s_app rfl (pv 2) (a_cons (d_xV (pv 3)) a_nil))) b_nil))))
    (b_one (s_ret (d_xM (pv 2))))))
abbrev N_l_after : List Str := ["town", "purses", "script", "found", "one", "other"]
theorem sc_l_after : FnScope N_l_after ["town", "purses", "script"] (defScope s_l_after) := ⟨rfl, rfl, rfl, by decide +kernel, rfl, by decide +kernel, by decide +kernel⟩
theorem ok_l_after (B : Bd K mg) : FnOk P w K mg base CX0 1 B.a_l_after B.d_l_after ["town", "purses", "script"] (spF K ph_l_after) := fn_ok (k := 0) B.F_l_after sc_l_after (by decide) fun cdv A outer s H E T hr => (b_cons (s_set (i := 3) sc_l_after.nd rfl (Or.inl rfl) (d_ty opc_list call_list_of (by rfl) B.z_list bt_list (a_cons (d_xP (pv 1)) a_nil)))
    (b_cons (s_for rfl PassesOwn.never rfl (d_idx rfl (fun _ _ => rfl) (d_xP (pv 0)) d_int) (g_tup rfl rfl (pgs_cons (pg_name (i := 4) sc_l_after.nd rfl (Or.inl rfl)) (pgs_cons (pg_name (i := 5) sc_l_after.nd rfl (Or.inl rfl)) pgs_nil))) (b_cons (s_setI (pv 3) (d_xP (pv 4)) (d_plus rfl (d_sub (d_idx rfl (fun _ _ => rfl) (d_xP (pv 3)) (d_xP (pv 4))) (d_idx rfl (fun _ _ => rfl) (d_xP (pv 2)) (d_xP (pv 4)))) (d_idx rfl (fun _ _ => rfl) (d_xP (pv 2)) (d_xP (pv 5)))))
    (b_one (s_setI (pv 3) (d_xP (pv 5)) (d_plus rfl (d_sub (d_idx rfl (fun _ _ => rfl) (d_xP (pv 3)) (d_xP (pv 5))) (d_idx rfl (fun _ _ => rfl) (d_xP (pv 2)) (d_xP (pv 5)))) (d_idx rfl (fun _ _ => rfl) (d_xP (pv 2)) (d_xP (pv 4))))))))
    (b_one (s_ret (d_ty opc_tuple call_tuple_of (by rfl) B.z_tuple bt_tuple (a_cons (d_xP (pv 3)) a_nil))))))
abbrev N_l_purses : List Str := ["state", "town", "most", "house"]
theorem sc_l_purses : FnScope N_l_purses ["state", "town", "most"] (defScope s_l_purses) := ⟨rfl, rfl, rfl, by decide +kernel, rfl, by decide +kernel, by decide +kernel⟩
theorem ok_l_purses (B : Bd K mg) : FnOk P w K mg base CX0 2 B.a_l_purses B.d_l_purses ["state", "town", "most"] (spF K ph_l_purses) := fn_ok (k := 1) B.F_l_purses sc_l_purses (by decide) fun cdv A outer s H E T hr => (b_one (s_ret (d_ty opc_tuple call_tuple_of (by rfl) B.z_tuple bt_tuple (a_cons (d_lcR1 rfl sc_l_purses.nd (by rfl) B.z_range (a_cons (d_idx rfl (fun _ _ => rfl) (d_xP (pv 1)) d_int) a_nil) (blkOk_by (N := N_l_purses) (sc := defScope s_l_purses) (own := [("house", 3)]) (by decide +kernel)) (by decide) (fun _ _ _ _ _ => (g_nameR (pg_name (i := 3) sc_l_purses.nd rfl (by first | exact Or.inl rfl | exact Or.inr rfl)))) (fun _ _ _ _ _ => ts_nil) (fun _ _ _ _ _ => (d_sub (d_call rfl (ok_l_take B) (hr.mono (by decide)) (by rfl) B.m_l_take B.F_l_take.kp B.b_l_take (a_cons (d_xP (pv 0)) (a_cons (d_plus rfl (d_times rfl d_int (d_xP (pv 2))) d_int) a_nil))) (d_xP (pv 2))))) a_nil))))
abbrev N_l_fire : List Str := ["town", "purses", "bank", "burnt", "turn", "ready", "house", "other"]
theorem sc_l_fire : FnScope N_l_fire ["town", "purses", "bank"] (defScope s_l_fire) := ⟨rfl, rfl, rfl, by decide +kernel, rfl, by decide +kernel, by decide +kernel⟩
theorem ok_l_fire (B : Bd K mg) : FnOk P w K mg base CX0 2 B.a_l_fire B.d_l_fire ["town", "purses", "bank"] (spF K ph_l_fire) := fn_ok (k := 1) B.F_l_fire sc_l_fire (by decide) fun cdv A outer s H E T hr => (b_cons (s_set (i := 3) sc_l_fire.nd rfl (Or.inr rfl) (d_lst (a_cons (d_xV (pv 2)) a_nil)))
    (b_cons (s_forR1 PassesOwn.never rfl (by rfl) B.z_range (a_cons (d_idx rfl (fun _ _ => rfl) (d_xP (pv 0)) d_int) a_nil) (g_name (pg_name (i := 4) sc_l_fire.nd rfl (Or.inl rfl))) (b_cons (s_set (i := 5) sc_l_fire.nd rfl (Or.inl rfl) (d_lst a_nil))
    (b_cons (s_forR1 PassesOwn.never rfl (by rfl) B.z_range (a_cons (d_idx rfl (fun _ _ => rfl) (d_xP (pv 0)) d_int) a_nil) (g_name (pg_name (i := 6) sc_l_fire.nd rfl (Or.inl rfl))) (b_one (s_if (t_w (w_and (t_nin rfl (b65 hr) (d_xP (pv 6)) (d_xP (pv 3)) (by rfl)) (w_and1 (t_lt (d_idx rfl (fun _ _ => rfl) (d_xP (pv 1)) (d_xP (pv 6))) (d_blt opc_len call_len_seq (by rfl) B.z_len bt_len (a_cons (d_lc rfl rfl sc_l_fire.nd (d_call rfl (ok_l_ends B) (hr.mono (by decide)) (by rfl) B.m_l_ends B.F_l_ends.kp B.b_l_ends (a_cons (d_xP (pv 0)) (a_cons (d_xP (pv 6)) a_nil))) (blkOk_by (N := N_l_fire) (sc := defScope s_l_fire) (own := [("other", 7)]) (by decide +kernel)) (by decide) (fun _ _ _ _ _ => (g_nameR (pg_name (i := 7) sc_l_fire.nd rfl (by first | exact Or.inl rfl | exact Or.inr rfl)))) (fun _ _ _ _ _ => (pts_one (t_in rfl (b65 hr) (d_xP (pv 7)) (d_xP (pv 3)) (by rfl)))) (fun _ _ _ _ _ => (d_xV (pv 7)))) a_nil)))))) (b_one (s_app rfl (pv 5) (a_cons (d_xV (pv 6)) a_nil))) b_nil)))
    (b_cons (s_if (t_eq rfl (b64 hr) (d_blt opc_len call_len_seq (by rfl) B.z_len bt_len (a_cons (d_xP (pv 5)) a_nil)) d_int) (b_one s_break) b_nil)
    (b_one (s_app rfl (pv 3) (a_cons (d_idx rfl (fun _ _ => rfl) (d_xP (pv 5)) d_int) a_nil)))))))
    (b_one (s_ret (d_xM (pv 3))))))
abbrev N_l_reduced : List Str := ["town", "purses", "bank", "now", "turn", "debts", "burnt", "house"]
theorem sc_l_reduced : FnScope N_l_reduced ["town", "purses", "bank"] (defScope s_l_reduced) := ⟨rfl, rfl, rfl, by decide +kernel, rfl, by decide +kernel, by decide +kernel⟩
theorem ok_l_reduced (B : Bd K mg) : FnOk P w K mg base CX0 3 B.a_l_reduced B.d_l_reduced ["town", "purses", "bank"] (spF K ph_l_reduced) := fn_ok (k := 2) B.F_l_reduced sc_l_reduced (by decide) fun cdv A outer s H E T hr => (b_cons (s_set (i := 3) sc_l_reduced.nd rfl (Or.inr rfl) (d_ty opc_tuple call_tuple_of (by rfl) B.z_tuple bt_tuple (a_cons (d_xP (pv 1)) a_nil)))
    (b_cons (s_forR1 PassesOwn.never rfl (by rfl) B.z_range (a_cons d_int a_nil) (g_name (pg_name (i := 4) sc_l_reduced.nd rfl (Or.inl rfl))) (b_cons (s_set (i := 5) sc_l_reduced.nd rfl (Or.inr rfl) (d_lcR1 rfl sc_l_reduced.nd (by rfl) B.z_range (a_cons (d_idx rfl (fun _ _ => rfl) (d_xP (pv 0)) d_int) a_nil) (blkOk_by (N := N_l_reduced) (sc := defScope s_l_reduced) (own := [("house", 7)]) (by decide +kernel)) (by decide) (fun _ _ _ _ _ => (g_nameR (pg_name (i := 7) sc_l_reduced.nd rfl (by first | exact Or.inl rfl | exact Or.inr rfl)))) (fun _ _ _ _ _ => (pts_one (t_w (w_and (t_ne rfl (b64 hr) (d_xP (pv 7)) (d_xP (pv 2))) (w_and1 (t_lt (d_idx rfl (fun _ _ => rfl) (d_xP (pv 3)) (d_xP (pv 7))) d_int)))))) (fun _ _ _ _ _ => (d_xV (pv 7)))))
    (b_cons (s_if (t_eq rfl (b64 hr) (d_blt opc_len call_len_seq (by rfl) B.z_len bt_len (a_cons (d_xP (pv 5)) a_nil)) d_int) (b_one s_break) b_nil)
    (b_one (s_set (i := 3) sc_l_reduced.nd rfl (Or.inr rfl) (d_call rfl (ok_l_after B) (hr.mono (by decide)) (by rfl) B.m_l_after B.F_l_after.kp B.b_l_after (a_cons (d_xP (pv 0)) (a_cons (d_xP (pv 3)) (a_cons (d_ty opc_tuple call_tuple_of (by rfl) B.z_tuple bt_tuple (a_cons (d_lcR1 rfl sc_l_reduced.nd (by rfl) B.z_range (a_cons (d_idx rfl (fun _ _ => rfl) (d_xP (pv 0)) d_int) a_nil) (blkOk_by (N := N_l_reduced) (sc := defScope s_l_reduced) (own := [("house", 7)]) (by decide +kernel)) (by decide) (fun _ _ _ _ _ => (g_nameR (pg_name (i := 7) sc_l_reduced.nd rfl (by first | exact Or.inl rfl | exact Or.inr rfl)))) (fun _ _ _ _ _ => ts_nil) (fun _ _ _ _ _ => (d_if (t_eq rfl (b64 hr) (d_xP (pv 7)) (d_idx rfl (fun _ _ => rfl) (d_xP (pv 5)) d_int)) (d_neg d_int) d_int))) a_nil)) a_nil)))))))))
    (b_cons (s_forR1 PassesOwn.never rfl (by rfl) B.z_range (a_cons d_int a_nil) (g_name (pg_name (i := 4) sc_l_reduced.nd rfl (Or.inl rfl))) (b_cons (s_set (i := 6) sc_l_reduced.nd rfl (Or.inr rfl) (d_call rfl (ok_l_fire B) (hr.mono (by decide)) (by rfl) B.m_l_fire B.F_l_fire.kp B.b_l_fire (a_cons (d_xP (pv 0)) (a_cons (d_xP (pv 3)) (a_cons (d_xP (pv 2)) a_nil)))))
    (b_cons (s_if (t_eq rfl (b64 hr) (d_blt opc_len call_len_seq (by rfl) B.z_len bt_len (a_cons (d_xP (pv 6)) a_nil)) (d_idx rfl (fun _ _ => rfl) (d_xP (pv 0)) d_int)) (b_one s_break) b_nil)
    (b_one (s_set (i := 3) sc_l_reduced.nd rfl (Or.inr rfl) (d_call rfl (ok_l_after B) (hr.mono (by decide)) (by rfl) B.m_l_after B.F_l_after.kp B.b_l_after (a_cons (d_xP (pv 0)) (a_cons (d_xP (pv 3)) (a_cons (d_ty opc_tuple call_tuple_of (by rfl) B.z_tuple bt_tuple (a_cons (d_lcR1 rfl sc_l_reduced.nd (by rfl) B.z_range (a_cons (d_idx rfl (fun _ _ => rfl) (d_xP (pv 0)) d_int) a_nil) (blkOk_by (N := N_l_reduced) (sc := defScope s_l_reduced) (own := [("house", 7)]) (by decide +kernel)) (by decide) (fun _ _ _ _ _ => (g_nameR (pg_name (i := 7) sc_l_reduced.nd rfl (by first | exact Or.inl rfl | exact Or.inr rfl)))) (fun _ _ _ _ _ => ts_nil) (fun _ _ _ _ _ => (d_if (t_in rfl (b65 hr) (d_xP (pv 7)) (d_xP (pv 6)) (by rfl)) d_int d_int))) a_nil)) a_nil)))))))))
    (b_one (s_ret (d_xM (pv 3)))))))
abbrev N_l_script : List Str := ["value", "many", "number"]
theorem sc_l_script : FnScope N_l_script ["value", "many"] (defScope s_l_script) := ⟨rfl, rfl, rfl, by decide +kernel, rfl, by decide +kernel, by decide +kernel⟩
theorem ok_l_script (B : Bd K mg) : FnOk P w K mg base CX0 1 B.a_l_script B.d_l_script ["value", "many"] (spF K ph_l_script) := fn_ok (k := 0) B.F_l_script sc_l_script (by decide) fun cdv A outer s H E T hr => (b_one (s_ret (d_and (d_isi rfl (by rfl) B.z_isinstance bt_isinstance (by rfl) B.z_tuple bt_tuple (d_xP (pv 0))) (d_and (d_eq rfl (b64 hr) (d_blt opc_len call_len_seq (by rfl) B.z_len bt_len (a_cons (d_xP (pv 0)) a_nil)) (d_xP (pv 1))) (d_one (d_eq rfl (b64 hr) (d_blt opc_len call_len_seq (by rfl) B.z_len bt_len (a_cons (d_lc rfl rfl sc_l_script.nd (d_xP (pv 0)) (blkOk_by (N := N_l_script) (sc := defScope s_l_script) (own := [("number", 2)]) (by decide +kernel)) (by decide) (fun _ _ _ _ _ => (g_nameR (pg_name (i := 2) sc_l_script.nd rfl (by first | exact Or.inl rfl | exact Or.inr rfl)))) (fun _ _ _ _ _ => (pts_one (t_w (w_or (t_not (t_tru rfl (d_isi rfl (by rfl) B.z_isinstance bt_isinstance (by rfl) B.z_int bt_int (d_xP (pv 2))))) (w_or1 (t_tru rfl (d_isi rfl (by rfl) B.z_isinstance bt_isinstance (by rfl) B.z_bool bt_bool (d_xP (pv 2))))))))) (fun _ _ _ _ _ => (d_xV (pv 2)))) a_nil)) d_int))))))
abbrev N_l_against : List Str := ["town", "purses", "order", "k", "other"]
theorem sc_l_against : FnScope N_l_against ["town", "purses", "order"] (defScope s_l_against) := ⟨rfl, rfl, rfl, by decide +kernel, rfl, by decide +kernel, by decide +kernel⟩
theorem ok_l_against (B : Bd K mg) : FnOk P w K mg base CX0 2 B.a_l_against B.d_l_against ["town", "purses", "order"] (spF K ph_l_against) := fn_ok (k := 1) B.F_l_against sc_l_against (by decide) fun cdv A outer s H E T hr => (b_cons (s_if (t_w (w_or (t_not (t_tru rfl (d_call rfl (ok_l_script B) (hr.mono (by decide)) (by rfl) B.m_l_script B.F_l_script.kp B.b_l_script (a_cons (d_xP (pv 2)) (a_cons (d_idx rfl (fun _ _ => rfl) (d_xP (pv 0)) d_int) a_nil))))) (w_or1 (t_ne rfl (b64 hr) (d_blt opc_sortX cr_srtX (by rfl) B.z_sorted bt_sorted (a_cons (d_xP (pv 2)) a_nil)) (d_lstR1 rfl (by rfl) B.z_range (d_idx rfl (fun _ _ => rfl) (d_xP (pv 0)) d_int) (by rfl) B.z_list))))) (b_one (s_ret d_bl)) b_nil)
    (b_cons (s_forR1 PassesOwn.never rfl (by rfl) B.z_range (a_cons (d_blt opc_len call_len_seq (by rfl) B.z_len bt_len (a_cons (d_xP (pv 2)) a_nil)) a_nil) (g_name (pg_name (i := 3) sc_l_against.nd rfl (Or.inr rfl))) (b_one (s_if (t_ge (d_idx rfl (fun _ _ => rfl) (d_xP (pv 1)) (d_idx rfl (fun _ _ => rfl) (d_xP (pv 2)) (d_xP (pv 3)))) (d_blt opc_len call_len_seq (by rfl) B.z_len bt_len (a_cons (d_lc rfl rfl sc_l_against.nd (d_call rfl (ok_l_ends B) (hr.mono (by decide)) (by rfl) B.m_l_ends B.F_l_ends.kp B.b_l_ends (a_cons (d_xP (pv 0)) (a_cons (d_idx rfl (fun _ _ => rfl) (d_xP (pv 2)) (d_xP (pv 3))) a_nil))) (blkOk_by (N := N_l_against) (sc := defScope s_l_against) (own := [("other", 4)]) (by decide +kernel)) (by decide) (fun _ _ _ _ _ => (g_nameR (pg_name (i := 4) sc_l_against.nd rfl (by first | exact Or.inl rfl | exact Or.inr rfl)))) (fun _ _ _ _ _ => (pts_one (t_in rfl (b65 hr) (d_xP (pv 4)) (d_sl rfl (d_xP (pv 2)) o_none (o_some (d_xP (pv 3)))) (by rfl)))) (fun _ _ _ _ _ => (d_xV (pv 4)))) a_nil))) (b_one (s_ret d_bl)) b_nil)))
    (b_one (s_ret d_bl))))
abbrev N_l_end_right : List Str := ["town", "purses", "value", "behind"]
theorem sc_l_end_right : FnScope N_l_end_right ["town", "purses", "value"] (defScope s_l_end_right) := ⟨rfl, rfl, rfl, by decide +kernel, rfl, by decide +kernel, by decide +kernel⟩
theorem ok_l_end_right (B : Bd K mg) : FnOk P w K mg base CX0 3 B.a_l_end_right B.d_l_end_right ["town", "purses", "value"] (spF K ph_l_end_right) := fn_ok (k := 2) B.F_l_end_right sc_l_end_right (by decide) fun cdv A outer s H E T hr => (b_cons (s_if (t_w (w_or (t_not (t_tru rfl (d_isi rfl (by rfl) B.z_isinstance bt_isinstance (by rfl) B.z_tuple bt_tuple (d_xP (pv 2))))) (w_or (t_lt (d_blt opc_len call_len_seq (by rfl) B.z_len bt_len (a_cons (d_xP (pv 2)) a_nil)) d_int) (w_or (t_not (t_tru rfl (d_call rfl (ok_l_script B) (hr.mono (by decide)) (by rfl) B.m_l_script B.F_l_script.kp B.b_l_script (a_cons (d_idx rfl (fun _ _ => rfl) (d_xP (pv 2)) d_int) (a_cons (d_idx rfl (fun _ _ => rfl) (d_xP (pv 0)) d_int) a_nil))))) (w_or1 (t_ne rfl (b64 hr) (d_idx rfl (fun _ _ => rfl) (d_blt opc_sortX cr_srtX (by rfl) B.z_sorted bt_sorted (a_cons (d_idx rfl (fun _ _ => rfl) (d_xP (pv 2)) d_int) a_nil)) d_int) d_int)))))) (b_one (s_ret d_bl)) b_nil)
    (b_cons (s_set (i := 3) sc_l_end_right.nd rfl (Or.inl rfl) (d_call rfl (ok_l_after B) (hr.mono (by decide)) (by rfl) B.m_l_after B.F_l_after.kp B.b_l_after (a_cons (d_xP (pv 0)) (a_cons (d_xP (pv 1)) (a_cons (d_idx rfl (fun _ _ => rfl) (d_xP (pv 2)) d_int) a_nil)))))
    (b_cons (s_if (t_eq rfl (b64 hr) (d_idx rfl (fun _ _ => rfl) (d_xP (pv 2)) d_int) d_str) (b_one (s_ret (d_and (d_eq rfl (b64 hr) (d_blt opc_len call_len_seq (by rfl) B.z_len bt_len (a_cons (d_xP (pv 2)) a_nil)) d_int) (d_one (d_ge (d_idx rfl (fun _ _ => rfl) (d_blt opc_sortX cr_srtX (by rfl) B.z_sorted bt_sorted (a_cons (d_xP (pv 3)) a_nil)) d_int) d_int))))) b_nil)
    (b_one (s_ret (d_and (d_eq rfl (b64 hr) (d_idx rfl (fun _ _ => rfl) (d_xP (pv 2)) d_int) d_str) (d_and (d_eq rfl (b64 hr) (d_blt opc_len call_len_seq (by rfl) B.z_len bt_len (a_cons (d_xP (pv 2)) a_nil)) d_int) (d_one (d_call rfl (ok_l_against B) (hr.mono (by decide)) (by rfl) B.m_l_against B.F_l_against.kp B.b_l_against (a_cons (d_xP (pv 0)) (a_cons (d_xP (pv 3)) (a_cons (d_idx rfl (fun _ _ => rfl) (d_xP (pv 2)) d_int) a_nil))))))))))))
abbrev N_l_takings : List Str := ["many", "coins", "rows", "k", "longer", "row", "number"]
theorem sc_l_takings : FnScope N_l_takings ["many", "coins"] (defScope s_l_takings) := ⟨rfl, rfl, rfl, by decide +kernel, rfl, by decide +kernel, by decide +kernel⟩
theorem ok_l_takings (B : Bd K mg) : FnOk P w K mg base CX0 1 B.a_l_takings B.d_l_takings ["many", "coins"] (spF K ph_l_takings) := fn_ok (k := 0) B.F_l_takings sc_l_takings (by decide) fun cdv A outer s H E T hr => (b_cons (s_set (i := 2) sc_l_takings.nd rfl (Or.inl rfl) (d_lst (a_cons (d_tup a_nil) a_nil)))
    (b_cons (s_forR1 PassesOwn.never rfl (by rfl) B.z_range (a_cons (d_xP (pv 0)) a_nil) (g_name (pg_name (i := 3) sc_l_takings.nd rfl (Or.inl rfl))) (b_cons (s_set (i := 4) sc_l_takings.nd rfl (Or.inl rfl) (d_lst a_nil))
    (b_cons (s_for rfl PassesOwn.never rfl (d_xF (pv 2)) (g_name (pg_name (i := 5) sc_l_takings.nd rfl (Or.inr rfl))) (b_one (s_set (i := 4) sc_l_takings.nd rfl (Or.inl rfl) (d_plus rfl (d_xP (pv 4)) (d_lcR1 rfl sc_l_takings.nd (by rfl) B.z_range (a_cons (d_plus rfl (d_xP (pv 1)) d_int) a_nil) (blkOk_by (N := N_l_takings) (sc := defScope s_l_takings) (own := [("number", 6)]) (by decide +kernel)) (by decide) (fun _ _ _ _ _ => (g_nameR (pg_name (i := 6) sc_l_takings.nd rfl (by first | exact Or.inl rfl | exact Or.inr rfl)))) (fun _ _ _ _ _ => (pts_one (t_le (d_plus rfl (d_blt opc_sumX (cr_sumX rfl) (by rfl) B.z_sum bt_sum (a_cons (d_xP (pv 5)) a_nil)) (d_xP (pv 6))) (d_xP (pv 1))))) (fun _ _ _ _ _ => (d_plus rfl (d_xP (pv 5)) (d_tup (a_cons (d_xV (pv 6)) a_nil)))))))))
    (b_one (s_set (i := 2) sc_l_takings.nd rfl (Or.inl rfl) (d_xM (pv 4)))))))
    (b_one (s_ret (d_lc rfl rfl sc_l_takings.nd (d_xP (pv 2)) (blkOk_by (N := N_l_takings) (sc := defScope s_l_takings) (own := [("row", 5)]) (by decide +kernel)) (by decide) (fun _ _ _ _ _ => (g_nameR (pg_name (i := 5) sc_l_takings.nd rfl (by first | exact Or.inl rfl | exact Or.inr rfl)))) (fun _ _ _ _ _ => (pts_one (t_eq rfl (b64 hr) (d_blt opc_sumX (cr_sumX rfl) (by rfl) B.z_sum bt_sum (a_cons (d_xP (pv 5)) a_nil)) (d_xP (pv 1))))) (fun _ _ _ _ _ => (d_xV (pv 5))))))))
abbrev N_l_rank : List Str := ["town", "purses", "most", "coins", "row", "k"]
theorem sc_l_rank : FnScope N_l_rank ["town", "purses", "most"] (defScope s_l_rank) := ⟨rfl, rfl, rfl, by decide +kernel, rfl, by decide +kernel, by decide +kernel⟩
theorem ok_l_rank (B : Bd K mg) : FnOk P w K mg base CX0 4 B.a_l_rank B.d_l_rank ["town", "purses", "most"] (spF K ph_l_rank) := fn_ok (k := 3) B.F_l_rank sc_l_rank (by decide) fun cdv A outer s H E T hr => (b_cons (s_forR1 PassesOwn.never rfl (by rfl) B.z_range (a_cons (d_plus rfl (d_xP (pv 2)) d_int) a_nil) (g_name (pg_name (i := 3) sc_l_rank.nd rfl (Or.inl rfl))) (b_one (s_for rfl PassesOwn.never rfl (d_call rfl (ok_l_takings B) (hr.mono (by decide)) (by rfl) B.m_l_takings B.F_l_takings.kp B.b_l_takings (a_cons (d_idx rfl (fun _ _ => rfl) (d_xP (pv 0)) d_int) (a_cons (d_xP (pv 3)) a_nil))) (g_name (pg_name (i := 4) sc_l_rank.nd rfl (Or.inr rfl))) (b_one (s_if (t_lt (d_idx rfl (fun _ _ => rfl) (d_call rfl (ok_l_reduced B) (hr.mono (by decide)) (by rfl) B.m_l_reduced B.F_l_reduced.kp B.b_l_reduced (a_cons (d_xP (pv 0)) (a_cons (d_ty opc_tuple call_tuple_of (by rfl) B.z_tuple bt_tuple (a_cons (d_lcR1 rfl sc_l_rank.nd (by rfl) B.z_range (a_cons (d_idx rfl (fun _ _ => rfl) (d_xP (pv 0)) d_int) a_nil) (blkOk_by (N := N_l_rank) (sc := defScope s_l_rank) (own := [("k", 5)]) (by decide +kernel)) (by decide) (fun _ _ _ _ _ => (g_nameR (pg_name (i := 5) sc_l_rank.nd rfl (by first | exact Or.inl rfl | exact Or.inr rfl)))) (fun _ _ _ _ _ => ts_nil) (fun _ _ _ _ _ => (d_sub (d_idx rfl (fun _ _ => rfl) (d_xP (pv 1)) (d_xP (pv 5))) (d_idx rfl (fun _ _ => rfl) (d_xP (pv 4)) (d_xP (pv 5)))))) a_nil)) (a_cons d_int a_nil)))) d_int) d_int) (b_one (s_ret (d_sub (d_xP (pv 3)) d_int))) b_nil)))))
    (b_one (s_ret (d_xM (pv 2)))))
abbrev N_l_taking_right : List Str := ["town", "purses", "value", "left", "coins", "k"]
theorem sc_l_taking_right : FnScope N_l_taking_right ["town", "purses", "value"] (defScope s_l_taking_right) := ⟨rfl, rfl, rfl, by decide +kernel, rfl, by decide +kernel, by decide +kernel⟩
theorem ok_l_taking_right (B : Bd K mg) : FnOk P w K mg base CX0 4 B.a_l_taking_right B.d_l_taking_right ["town", "purses", "value"] (spF K ph_l_taking_right) := fn_ok (k := 3) B.F_l_taking_right sc_l_taking_right (by decide) fun cdv A outer s H E T hr => (b_cons (s_if (t_w (w_or (t_not (t_tru rfl (d_isi rfl (by rfl) B.z_isinstance bt_isinstance (by rfl) B.z_tuple bt_tuple (d_xP (pv 2))))) (w_or (t_ne rfl (b64 hr) (d_blt opc_len call_len_seq (by rfl) B.z_len bt_len (a_cons (d_xP (pv 2)) a_nil)) d_int) (w_or (t_not (t_tru rfl (d_isi rfl (by rfl) B.z_isinstance bt_isinstance (by rfl) B.z_tuple bt_tuple (d_idx rfl (fun _ _ => rfl) (d_xP (pv 2)) d_int)))) (w_or1 (t_ne rfl (b64 hr) (d_blt opc_len call_len_seq (by rfl) B.z_len bt_len (a_cons (d_idx rfl (fun _ _ => rfl) (d_xP (pv 2)) d_int) a_nil)) (d_idx rfl (fun _ _ => rfl) (d_xP (pv 0)) d_int))))))) (b_one (s_ret d_bl)) b_nil)
    (b_cons (s_if (t_w (w_or (t_not (t_tru rfl (d_call rfl (ok_l_script B) (hr.mono (by decide)) (by rfl) B.m_l_script B.F_l_script.kp B.b_l_script (a_cons (d_idx rfl (fun _ _ => rfl) (d_xP (pv 2)) d_int) (a_cons (d_idx rfl (fun _ _ => rfl) (d_xP (pv 0)) d_int) a_nil))))) (w_or1 (t_gt (d_blt opc_len call_len_seq (by rfl) B.z_len bt_len (a_cons (d_lc rfl rfl sc_l_taking_right.nd (d_idx rfl (fun _ _ => rfl) (d_xP (pv 2)) d_int) (blkOk_by (N := N_l_taking_right) (sc := defScope s_l_taking_right) (own := [("coins", 4)]) (by decide +kernel)) (by decide) (fun _ _ _ _ _ => (g_nameR (pg_name (i := 4) sc_l_taking_right.nd rfl (by first | exact Or.inl rfl | exact Or.inr rfl)))) (fun _ _ _ _ _ => (pts_one (t_w (w_or (t_lt (d_xP (pv 4)) d_int) (w_or1 (t_gt (d_xP (pv 4)) d_int)))))) (fun _ _ _ _ _ => (d_xV (pv 4)))) a_nil)) d_int)))) (b_one (s_ret d_bl)) b_nil)
    (b_cons (s_set (i := 3) sc_l_taking_right.nd rfl (Or.inl rfl) (d_ty opc_tuple call_tuple_of (by rfl) B.z_tuple bt_tuple (a_cons (d_lcR1 rfl sc_l_taking_right.nd (by rfl) B.z_range (a_cons (d_idx rfl (fun _ _ => rfl) (d_xP (pv 0)) d_int) a_nil) (blkOk_by (N := N_l_taking_right) (sc := defScope s_l_taking_right) (own := [("k", 5)]) (by decide +kernel)) (by decide) (fun _ _ _ _ _ => (g_nameR (pg_name (i := 5) sc_l_taking_right.nd rfl (by first | exact Or.inl rfl | exact Or.inr rfl)))) (fun _ _ _ _ _ => ts_nil) (fun _ _ _ _ _ => (d_sub (d_idx rfl (fun _ _ => rfl) (d_xP (pv 1)) (d_xP (pv 5))) (d_idx rfl (fun _ _ => rfl) (d_idx rfl (fun _ _ => rfl) (d_xP (pv 2)) d_int) (d_xP (pv 5)))))) a_nil)))
    (b_cons (s_if (t_w (w_or (t_gt (d_blt opc_len call_len_seq (by rfl) B.z_len bt_len (a_cons (d_lc rfl rfl sc_l_taking_right.nd (d_xP (pv 3)) (blkOk_by (N := N_l_taking_right) (sc := defScope s_l_taking_right) (own := [("coins", 4)]) (by decide +kernel)) (by decide) (fun _ _ _ _ _ => (g_nameR (pg_name (i := 4) sc_l_taking_right.nd rfl (by first | exact Or.inl rfl | exact Or.inr rfl)))) (fun _ _ _ _ _ => (pts_one (t_gt (d_blt opc_abs call_abs (by rfl) B.z_abs bt_abs (a_cons (d_xP (pv 4)) a_nil)) d_int))) (fun _ _ _ _ _ => (d_xV (pv 4)))) a_nil)) d_int) (w_or (t_not (t_tru rfl (d_isi rfl (by rfl) B.z_isinstance bt_isinstance (by rfl) B.z_tuple bt_tuple (d_idx rfl (fun _ _ => rfl) (d_xP (pv 2)) d_int)))) (w_or1 (t_ne rfl (b64 hr) (d_sl rfl (d_idx rfl (fun _ _ => rfl) (d_xP (pv 2)) d_int) o_none (o_some d_int)) (d_tup (a_cons d_str a_nil))))))) (b_one (s_ret d_bl)) b_nil)
    (b_one (s_ret (d_call rfl (ok_l_end_right B) (hr.mono (by decide)) (by rfl) B.m_l_end_right B.F_l_end_right.kp B.b_l_end_right (a_cons (d_xP (pv 0)) (a_cons (d_xP (pv 3)) (a_cons (d_idx rfl (fun _ _ => rfl) (d_xP (pv 2)) d_int) a_nil))))))))))
abbrev N_l_bent : List Str := ["state", "town", "value", "at", "row", "paper", "number"]
theorem sc_l_bent : FnScope N_l_bent ["state", "town", "value"] (defScope s_l_bent) := ⟨rfl, rfl, rfl, by decide +kernel, rfl, by decide +kernel, by decide +kernel⟩
theorem ok_l_bent (B : Bd K mg) : FnOk P w K mg base CX0 3 B.a_l_bent B.d_l_bent ["state", "town", "value"] (spF K ph_l_bent) := fn_ok (k := 2) B.F_l_bent sc_l_bent (by decide) fun cdv A outer s H E T hr => (b_cons (s_set (i := 3) sc_l_bent.nd rfl (Or.inl rfl) (d_call rfl (ok_l_take B) (hr.mono (by decide)) (by rfl) B.m_l_take B.F_l_take.kp B.b_l_take (a_cons (d_xP (pv 0)) (a_cons (d_idx rfl (fun _ _ => rfl) (d_xP (pv 1)) d_int) a_nil))))
    (b_cons (s_asg (d_xV (pv 2)) (g_tup rfl rfl (pgs_cons (pg_name (i := 4) sc_l_bent.nd rfl (Or.inl rfl)) (pgs_cons (pg_name (i := 5) sc_l_bent.nd rfl (Or.inl rfl)) pgs_nil))))
    (b_one (s_ret (d_call rfl (ok_l_pick B) (hr.mono (by decide)) (by rfl) B.m_l_pick B.F_l_pick.kp B.b_l_pick (a_cons (d_xP (pv 0)) (a_cons (d_lst (a_cons (d_tup (a_cons (d_plus rfl (d_plus rfl (d_sl rfl (d_xP (pv 4)) o_none (o_some (d_xP (pv 3)))) (d_tup (a_cons (d_plus rfl (d_idx rfl (fun _ _ => rfl) (d_xP (pv 4)) (d_xP (pv 3))) d_int) a_nil))) (d_sl rfl (d_xP (pv 4)) (o_some (d_plus rfl (d_xP (pv 3)) d_int)) o_none)) (a_cons (d_xV (pv 5)) a_nil))) (a_cons (d_tup (a_cons (d_plus rfl (d_plus rfl (d_sl rfl (d_xP (pv 4)) o_none (o_some (d_xP (pv 3)))) (d_tup (a_cons (d_call rfl (ok_l_pick B) (hr.mono (by decide)) (by rfl) B.m_l_pick B.F_l_pick.kp B.b_l_pick (a_cons (d_xP (pv 0)) (a_cons (d_lst (a_cons (d_neg d_int) (a_cons d_non (a_cons d_bl (a_cons d_int a_nil))))) a_nil))) a_nil))) (d_sl rfl (d_xP (pv 4)) (o_some (d_plus rfl (d_xP (pv 3)) d_int)) o_none)) (a_cons (d_xV (pv 5)) a_nil))) (a_cons (d_tup (a_cons (d_xV (pv 4)) (a_cons (d_sl rfl (d_xP (pv 5)) o_none (o_some d_int)) a_nil))) (a_cons (d_tup (a_cons (d_xV (pv 4)) (a_cons (d_plus rfl (d_tup (a_cons d_str a_nil)) (d_sl rfl (d_xP (pv 5)) (o_some d_int) o_none)) a_nil))) (a_cons (d_tup (a_cons (d_xV (pv 4)) (a_cons d_non a_nil))) (a_cons (d_tup (a_cons (d_ty opc_list call_list_of (by rfl) B.z_list bt_list (a_cons (d_xP (pv 4)) a_nil)) (a_cons (d_xV (pv 5)) a_nil))) (a_cons (d_tup (a_cons (d_xV (pv 4)) a_nil)) (a_cons (d_plus rfl (d_xP (pv 2)) (d_tup (a_cons d_int a_nil))) (a_cons d_non (a_cons (d_tup (a_cons (d_xV (pv 4)) (a_cons (d_plus rfl (d_sl rfl (d_xP (pv 5)) o_none (o_some d_int)) (d_tup (a_cons (d_rev rfl (d_idx rfl (fun _ _ => rfl) (d_xP (pv 5)) d_int)) a_nil))) a_nil))) (a_cons (d_tup (a_cons (d_xV (pv 4)) (a_cons (d_tup (a_cons d_str (a_cons (d_ty opc_tuple call_tuple_of (by rfl) B.z_tuple bt_tuple (a_cons (d_lc rfl rfl sc_l_bent.nd (d_idx rfl (fun _ _ => rfl) (d_xP (pv 5)) d_int) (blkOk_by (N := N_l_bent) (sc := defScope s_l_bent) (own := [("number", 6)]) (by decide +kernel)) (by decide) (fun _ _ _ _ _ => (g_nameR (pg_name (i := 6) sc_l_bent.nd rfl (by first | exact Or.inl rfl | exact Or.inr rfl)))) (fun _ _ _ _ _ => ts_nil) (fun _ _ _ _ _ => (d_plus rfl (d_xP (pv 6)) d_int))) a_nil)) (a_cons (d_idx rfl (fun _ _ => rfl) (d_xP (pv 5)) d_int) a_nil)))) a_nil))) (a_cons (d_tup (a_cons (d_plus rfl (d_xP (pv 4)) (d_tup (a_cons d_int a_nil))) (a_cons (d_xV (pv 5)) a_nil))) (a_cons d_int a_nil)))))))))))))) a_nil)))))))
abbrev N_l_bearing_right : List Str := ["town", "purses", "coins", "value", "rows", "k", "j"]
theorem sc_l_bearing_right : FnScope N_l_bearing_right ["town", "purses", "coins", "value"] (defScope s_l_bearing_right) := ⟨rfl, rfl, rfl, by decide +kernel, rfl, by decide +kernel, by decide +kernel⟩
theorem ok_l_bearing_right (B : Bd K mg) : FnOk P w K mg base CX0 2 B.a_l_bearing_right B.d_l_bearing_right ["town", "purses", "coins", "value"] (spF K ph_l_bearing_right) := fn_ok (k := 1) B.F_l_bearing_right sc_l_bearing_right (by decide) fun cdv A outer s H E T hr => (b_cons (s_set (i := 4) sc_l_bearing_right.nd rfl (Or.inr rfl) (d_call rfl (ok_l_takings B) (hr.mono (by decide)) (by rfl) B.m_l_takings B.F_l_takings.kp B.b_l_takings (a_cons (d_idx rfl (fun _ _ => rfl) (d_xP (pv 0)) d_int) (a_cons (d_xP (pv 2)) a_nil))))
    (b_cons (s_if (t_w (w_or (t_not (t_tru rfl (d_isi rfl (by rfl) B.z_isinstance bt_isinstance (by rfl) B.z_tuple bt_tuple (d_xP (pv 3))))) (w_or1 (t_ne rfl (b64 hr) (d_blt opc_len call_len_seq (by rfl) B.z_len bt_len (a_cons (d_xP (pv 3)) a_nil)) (d_blt opc_len call_len_seq (by rfl) B.z_len bt_len (a_cons (d_xP (pv 4)) a_nil)))))) (b_one (s_ret d_bl)) b_nil)
    (b_cons (s_forR1 PassesOwn.never rfl (by rfl) B.z_range (a_cons (d_blt opc_len call_len_seq (by rfl) B.z_len bt_len (a_cons (d_xP (pv 4)) a_nil)) a_nil) (g_name (pg_name (i := 5) sc_l_bearing_right.nd rfl (Or.inr rfl))) (b_cons (s_if (t_w (w_or (t_not (t_tru rfl (d_call rfl (ok_l_script B) (hr.mono (by decide)) (by rfl) B.m_l_script B.F_l_script.kp B.b_l_script (a_cons (d_idx rfl (fun _ _ => rfl) (d_xP (pv 3)) (d_xP (pv 5))) (a_cons (d_idx rfl (fun _ _ => rfl) (d_xP (pv 0)) d_int) a_nil))))) (w_or1 (t_ne rfl (b64 hr) (d_idx rfl (fun _ _ => rfl) (d_blt opc_sortX cr_srtX (by rfl) B.z_sorted bt_sorted (a_cons (d_idx rfl (fun _ _ => rfl) (d_xP (pv 3)) (d_xP (pv 5))) a_nil)) d_int) d_int)))) (b_one (s_ret d_bl)) b_nil)
    (b_one (s_if (t_lt (d_idx rfl (fun _ _ => rfl) (d_blt opc_sortX cr_srtX (by rfl) B.z_sorted bt_sorted (a_cons (d_call rfl (ok_l_after B) (hr.mono (by decide)) (by rfl) B.m_l_after B.F_l_after.kp B.b_l_after (a_cons (d_xP (pv 0)) (a_cons (d_ty opc_tuple call_tuple_of (by rfl) B.z_tuple bt_tuple (a_cons (d_lcR1 rfl sc_l_bearing_right.nd (by rfl) B.z_range (a_cons (d_idx rfl (fun _ _ => rfl) (d_xP (pv 0)) d_int) a_nil) (blkOk_by (N := N_l_bearing_right) (sc := defScope s_l_bearing_right) (own := [("j", 6)]) (by decide +kernel)) (by decide) (fun _ _ _ _ _ => (g_nameR (pg_name (i := 6) sc_l_bearing_right.nd rfl (by first | exact Or.inl rfl | exact Or.inr rfl)))) (fun _ _ _ _ _ => ts_nil) (fun _ _ _ _ _ => (d_sub (d_idx rfl (fun _ _ => rfl) (d_xP (pv 1)) (d_xP (pv 6))) (d_idx rfl (fun _ _ => rfl) (d_idx rfl (fun _ _ => rfl) (d_xP (pv 4)) (d_xP (pv 5))) (d_xP (pv 6)))))) a_nil)) (a_cons (d_idx rfl (fun _ _ => rfl) (d_xP (pv 3)) (d_xP (pv 5))) a_nil)))) a_nil)) d_int) d_int) (b_one (s_ret d_bl)) b_nil))))
    (b_one (s_ret d_bl)))))
abbrev N_l_bears : List Str := ["state", "town", "purses", "due", "most", "coins", "told", "at", "row", "mark", "rows", "bent", "answer", "number", "k"]
theorem sc_l_bears : FnScope N_l_bears ["state", "town", "purses", "due", "most"] (defScope s_l_bears) := ⟨rfl, rfl, rfl, by decide +kernel, rfl, by decide +kernel, by decide +kernel⟩
theorem ok_l_bears (B : Bd K mg) : FnOk P w K mg base CX0 8 B.a_l_bears B.d_l_bears ["state", "town", "purses", "due", "most"] (spF K ph_l_bears) := fn_ok (k := 7) B.F_l_bears sc_l_bears (by decide) fun cdv A outer s H E T hr => (b_cons (s_forR1 PassesOwn.never rfl (by rfl) B.z_range (a_cons (d_plus rfl (d_xP (pv 4)) d_int) a_nil) (g_name (pg_name (i := 5) sc_l_bears.nd rfl (Or.inl rfl))) (b_cons (s_set (i := 6) sc_l_bears.nd rfl (Or.inr rfl) (d_call rfl (ok_bearing B) (hr.mono (by decide)) (by rfl) B.m_bearing B.F_bearing.kp B.b_bearing (a_cons (d_xP (pv 1)) (a_cons (d_xP (pv 2)) (a_cons (d_xP (pv 5)) a_nil)))))
    (b_cons (s_if (t_ne rfl (b64 hr) (d_isN (d_xP (pv 6)) d_non) (d_gt (d_xP (pv 5)) (d_xP (pv 3)))) (b_one (s_ret d_bl)) b_nil)
    (b_one (s_if (t_nisN (d_xP (pv 6)) d_non) (b_cons (s_if (t_w (w_or (t_not (t_tru rfl (d_call rfl (ok_l_bearing_right B) (hr.mono (by decide)) (by rfl) B.m_l_bearing_right B.F_l_bearing_right.kp B.b_l_bearing_right (a_cons (d_xP (pv 1)) (a_cons (d_xP (pv 2)) (a_cons (d_xP (pv 5)) (a_cons (d_xP (pv 6)) a_nil))))))) (w_or1 (t_nis (d_call rfl (ok_accepts_bearing B) (hr.mono (by decide)) (by rfl) B.m_accepts_bearing B.F_accepts_bearing.kp B.b_accepts_bearing (a_cons (d_xP (pv 1)) (a_cons (d_xP (pv 2)) (a_cons (d_xP (pv 5)) (a_cons (d_xP (pv 6)) a_nil))))) d_bl)))) (b_one (s_ret d_bl)) b_nil)
    (b_cons (s_set (i := 7) sc_l_bears.nd rfl (Or.inr rfl) (d_call rfl (ok_l_take B) (hr.mono (by decide)) (by rfl) B.m_l_take B.F_l_take.kp B.b_l_take (a_cons (d_xP (pv 0)) (a_cons (d_blt opc_len call_len_seq (by rfl) B.z_len bt_len (a_cons (d_xP (pv 6)) a_nil)) a_nil))))
    (b_cons (s_set (i := 8) sc_l_bears.nd rfl (Or.inl rfl) (d_ty opc_tuple call_tuple_of (by rfl) B.z_tuple bt_tuple (a_cons (d_lc rfl rfl sc_l_bears.nd (d_idx rfl (fun _ _ => rfl) (d_xP (pv 6)) (d_xP (pv 7))) (blkOk_by (N := N_l_bears) (sc := defScope s_l_bears) (own := [("number", 13)]) (by decide +kernel)) (by decide) (fun _ _ _ _ _ => (g_nameR (pg_name (i := 13) sc_l_bears.nd rfl (by first | exact Or.inl rfl | exact Or.inr rfl)))) (fun _ _ _ _ _ => ts_nil) (fun _ _ _ _ _ => (d_plus rfl (d_xP (pv 13)) d_int))) a_nil)))
    (b_cons (s_set (i := 9) sc_l_bears.nd rfl (Or.inl rfl) (d_ty opc_tuple call_tuple_of (by rfl) B.z_tuple bt_tuple (a_cons (d_lcR1 rfl sc_l_bears.nd (by rfl) B.z_range (a_cons (d_idx rfl (fun _ _ => rfl) (d_xP (pv 1)) d_int) a_nil) (blkOk_by (N := N_l_bears) (sc := defScope s_l_bears) (own := [("k", 14)]) (by decide +kernel)) (by decide) (fun _ _ _ _ _ => (g_nameR (pg_name (i := 14) sc_l_bears.nd rfl (by first | exact Or.inl rfl | exact Or.inr rfl)))) (fun _ _ _ _ _ => ts_nil) (fun _ _ _ _ _ => (d_if (t_eq rfl (b64 hr) (d_xP (pv 14)) d_int) d_int d_int))) a_nil)))
    (b_cons (s_set (i := 10) sc_l_bears.nd rfl (Or.inl rfl) (d_lst (a_cons (d_xV (pv 8)) (a_cons (d_xV (pv 9)) (a_cons (d_times rfl (d_tup (a_cons d_int a_nil)) (d_idx rfl (fun _ _ => rfl) (d_xP (pv 1)) d_int)) (a_cons d_non (a_cons (d_ty opc_list call_list_of (by rfl) B.z_list bt_list (a_cons (d_idx rfl (fun _ _ => rfl) (d_xP (pv 6)) (d_xP (pv 7))) a_nil)) (a_cons (d_sl rfl (d_idx rfl (fun _ _ => rfl) (d_xP (pv 6)) (d_xP (pv 7))) (o_some d_int) o_none) (a_cons (d_idx rfl (fun _ _ => rfl) (d_xP (pv 6)) (d_sub (d_xP (pv 7)) d_int)) a_nil)))))))))
    (b_cons (s_for rfl PassesOwn.never rfl (d_plus rfl (d_lc rfl rfl sc_l_bears.nd (d_xF (pv 10)) (blkOk_by (N := N_l_bears) (sc := defScope s_l_bears) (own := [("row", 8)]) (by decide +kernel)) (by decide) (fun _ _ _ _ _ => (g_nameR (pg_name (i := 8) sc_l_bears.nd rfl (by first | exact Or.inl rfl | exact Or.inr rfl)))) (fun _ _ _ _ _ => ts_nil) (fun _ _ _ _ _ => (d_plus rfl (d_plus rfl (d_sl rfl (d_xP (pv 6)) o_none (o_some (d_xP (pv 7)))) (d_tup (a_cons (d_xV (pv 8)) a_nil))) (d_sl rfl (d_xP (pv 6)) (o_some (d_plus rfl (d_xP (pv 7)) d_int)) o_none)))) (d_lst (a_cons (d_sl rfl (d_xP (pv 6)) (o_some d_int) o_none) (a_cons (d_plus rfl (d_xP (pv 6)) (d_sl rfl (d_xP (pv 6)) o_none (o_some d_int))) (a_cons (d_ty opc_list call_list_of (by rfl) B.z_list bt_list (a_cons (d_xP (pv 6)) a_nil)) (a_cons d_non (a_cons (d_rev rfl (d_xP (pv 6))) a_nil))))))) (g_name (pg_name (i := 11) sc_l_bears.nd rfl (Or.inl rfl))) (b_cons (s_set (i := 12) sc_l_bears.nd rfl (Or.inl rfl) (d_call rfl (ok_accepts_bearing B) (hr.mono (by decide)) (by rfl) B.m_accepts_bearing B.F_accepts_bearing.kp B.b_accepts_bearing (a_cons (d_xP (pv 1)) (a_cons (d_xP (pv 2)) (a_cons (d_xP (pv 5)) (a_cons (d_xP (pv 11)) a_nil))))))
    (b_one (s_if (t_w (w_or (t_not (t_tru rfl (d_isi rfl (by rfl) B.z_isinstance bt_isinstance (by rfl) B.z_bool bt_bool (d_xP (pv 12))))) (w_or1 (t_ne rfl (b64 hr) (d_xP (pv 12)) (d_call rfl (ok_l_bearing_right B) (hr.mono (by decide)) (by rfl) B.m_l_bearing_right B.F_l_bearing_right.kp B.b_l_bearing_right (a_cons (d_xP (pv 1)) (a_cons (d_xP (pv 2)) (a_cons (d_xP (pv 5)) (a_cons (d_xP (pv 11)) a_nil))))))))) (b_one (s_ret d_bl)) b_nil))))
    (b_one (s_if (t_nis (d_call rfl (ok_accepts_bearing B) (hr.mono (by decide)) (by rfl) B.m_accepts_bearing B.F_accepts_bearing.kp B.b_accepts_bearing (a_cons (d_xP (pv 1)) (a_cons (d_xP (pv 2)) (a_cons (d_call rfl (ok_l_pick B) (hr.mono (by decide)) (by rfl) B.m_l_pick B.F_l_pick.kp B.b_l_pick (a_cons (d_xP (pv 0)) (a_cons (d_lst (a_cons d_int (a_cons (d_neg d_int) (a_cons d_non (a_cons d_bl a_nil))))) a_nil))) (a_cons (d_xP (pv 6)) a_nil))))) d_bl) (b_one (s_ret d_bl)) b_nil)))))))) b_nil)))))
    (b_one (s_ret (d_and (d_is (d_call rfl (ok_accepts_bearing B) (hr.mono (by decide)) (by rfl) B.m_accepts_bearing B.F_accepts_bearing.kp B.b_accepts_bearing (a_cons (d_xP (pv 1)) (a_cons (d_xP (pv 2)) (a_cons d_int (a_cons d_non a_nil))))) d_bl) (d_one (d_is (d_call rfl (ok_accepts_bearing B) (hr.mono (by decide)) (by rfl) B.m_accepts_bearing B.F_accepts_bearing.kp B.b_accepts_bearing (a_cons d_non (a_cons (d_xP (pv 2)) (a_cons d_int (a_cons (d_tup (a_cons (d_tup (a_cons d_int a_nil)) a_nil)) a_nil))))) d_bl))))))
abbrev N_law : List Str := ["script", "state", "town", "many", "coins", "purses", "at", "most", "due", "told", "great", "turn", "bent", "answer", "k"]
theorem sc_law : FnScope N_law ["script"] (defScope s_law) := ⟨rfl, rfl, rfl, by decide +kernel, rfl, by decide +kernel, by decide +kernel⟩
theorem ok_law {f : Addr} {fd : FuncData} (F : L2.Fun K "law" "law" s_law f fd) (B : Bd K mg) : FnOk P w K mg base CX0 9 f fd ["script"] (spLaw K) := by
  refine F.ok (k := 8) sc_law (fun vs H Q E h => ?_) (fun cdv A outer s H vs Q E hr h => ?_)
  · obtain ⟨a, ns, rfl, _⟩ := h
    rfl
  obtain ⟨a, ns, rfl, hS, hlen, k⟩ := h
  refine ⟨_, pss_cons (ps_set (i := 1) sc_law.nd rfl (by first | exact Or.inl rfl | exact Or.inr rfl) (pe_call (ok_l_state B) (hr.mono (by decide)) (by rfl) B.m_l_state B.F_l_state.kp B.b_l_state .nil pass0 (pa_cons (pv 0) pa_nil)))
    (b_X (bd := bd_law) fun T => (b_cons (s_if (t_ne rfl (b64 hr) (d_gint (by rfl) B.c_MOST_RANK) d_int) (b_one (s_ret d_bl)) b_nil)
    (b_cons (s_set (i := 2) sc_law.nd rfl (Or.inl rfl) (d_call rfl (ok_l_town B) (hr.mono (by decide)) (by rfl) B.m_l_town B.F_l_town.kp B.b_l_town (a_cons (d_xP (pv 1)) (a_cons d_int (a_cons d_int a_nil)))))
    (b_cons (s_set (i := 3) sc_law.nd rfl (Or.inl rfl) (d_idx rfl (fun _ _ => rfl) (d_xP (pv 2)) d_int))
    (b_cons (s_set (i := 4) sc_law.nd rfl (Or.inl rfl) (d_call rfl (ok_l_take B) (hr.mono (by decide)) (by rfl) B.m_l_take B.F_l_take.kp B.b_l_take (a_cons (d_xP (pv 1)) (a_cons d_int a_nil))))
    (b_cons (s_if (t_ne rfl (b64 hr) (d_call rfl (ok_takings B) (hr.mono (by decide)) (by rfl) B.m_takings B.F_takings.kp B.b_takings (a_cons (d_xP (pv 3)) (a_cons (d_xP (pv 4)) a_nil))) (d_call rfl (ok_l_takings B) (hr.mono (by decide)) (by rfl) B.m_l_takings B.F_l_takings.kp B.b_l_takings (a_cons (d_xP (pv 3)) (a_cons (d_xP (pv 4)) a_nil)))) (b_one (s_ret d_bl)) b_nil)
    (b_cons (s_set (i := 5) sc_law.nd rfl (Or.inl rfl) (d_call rfl (ok_l_purses B) (hr.mono (by decide)) (by rfl) B.m_l_purses B.F_l_purses.kp B.b_l_purses (a_cons (d_xP (pv 1)) (a_cons (d_xP (pv 2)) (a_cons d_int a_nil)))))
    (b_cons (s_set (i := 6) sc_law.nd rfl (Or.inr rfl) (d_call rfl (ok_l_take B) (hr.mono (by decide)) (by rfl) B.m_l_take B.F_l_take.kp B.b_l_take (a_cons (d_xP (pv 1)) (a_cons (d_xP (pv 3)) a_nil))))
    (b_cons (s_set (i := 5) sc_law.nd rfl (Or.inl rfl) (d_plus rfl (d_plus rfl (d_sl rfl (d_xP (pv 5)) o_none (o_some (d_xP (pv 6)))) (d_tup (a_cons (d_sub (d_sub (d_plus rfl (d_idx rfl (fun _ _ => rfl) (d_xP (pv 5)) (d_xP (pv 6))) (d_call rfl (ok_l_take B) (hr.mono (by decide)) (by rfl) B.m_l_take B.F_l_take.kp B.b_l_take (a_cons (d_xP (pv 1)) (a_cons d_int a_nil)))) d_int) (d_blt opc_sumX (cr_sumX rfl) (by rfl) B.z_sum bt_sum (a_cons (d_xP (pv 5)) a_nil))) a_nil))) (d_sl rfl (d_xP (pv 5)) (o_some (d_plus rfl (d_xP (pv 6)) d_int)) o_none)))
    (b_cons (s_set (i := 7) sc_law.nd rfl (Or.inl rfl) (d_call rfl (ok_l_take B) (hr.mono (by decide)) (by rfl) B.m_l_take B.F_l_take.kp B.b_l_take (a_cons (d_xP (pv 1)) (a_cons d_int a_nil))))
    (b_cons (s_set (i := 8) sc_law.nd rfl (Or.inl rfl) (d_call rfl (ok_l_rank B) (hr.mono (by decide)) (by rfl) B.m_l_rank B.F_l_rank.kp B.b_l_rank (a_cons (d_xP (pv 2)) (a_cons (d_xP (pv 5)) (a_cons (d_xP (pv 7)) a_nil)))))
    (b_cons (s_if (t_ne rfl (b64 hr) (d_call rfl (ok_rank B) (hr.mono (by decide)) (by rfl) B.m_rank B.F_rank.kp B.b_rank (a_cons (d_xP (pv 2)) (a_cons (d_xP (pv 5)) (a_cons (d_xP (pv 7)) a_nil)))) (d_xP (pv 8))) (b_one (s_ret d_bl)) b_nil)
    (b_cons (s_if (t_not (t_tru rfl (d_call rfl (ok_l_bears B) (hr.mono (by decide)) (by rfl) B.m_l_bears B.F_l_bears.kp B.b_l_bears (a_cons (d_xP (pv 1)) (a_cons (d_xP (pv 2)) (a_cons (d_xP (pv 5)) (a_cons (d_xP (pv 8)) (a_cons (d_xP (pv 7)) a_nil)))))))) (b_one (s_ret d_bl)) b_nil)
    (b_cons (s_set (i := 9) sc_law.nd rfl (Or.inl rfl) (d_call rfl (ok_taking B) (hr.mono (by decide)) (by rfl) B.m_taking B.F_taking.kp B.b_taking (a_cons (d_xP (pv 2)) (a_cons (d_xP (pv 5)) (a_cons (d_xP (pv 7)) a_nil)))))
    (b_cons (s_if (t_ne rfl (b64 hr) (d_isN (d_xP (pv 9)) d_non) (d_eq rfl (b64 hr) (d_xP (pv 8)) (d_xP (pv 7)))) (b_one (s_ret d_bl)) b_nil)
    (b_cons (s_if (t_isN (d_xP (pv 9)) d_non) (b_cons (s_set (i := 10) sc_law.nd rfl (Or.inl rfl) (d_ty opc_tuple call_tuple_of (by rfl) B.z_tuple bt_tuple (a_cons (d_lcR1 rfl sc_law.nd (by rfl) B.z_range (a_cons (d_xP (pv 3)) a_nil) (blkOk_by (N := N_law) (sc := defScope s_law) (own := [("k", 14)]) (by decide +kernel)) (by decide) (fun _ _ _ _ _ => (g_nameR (pg_name (i := 14) sc_law.nd rfl (by first | exact Or.inl rfl | exact Or.inr rfl)))) (fun _ _ _ _ _ => ts_nil) (fun _ _ _ _ _ => (d_if (t_ne rfl (b64 hr) (d_xP (pv 14)) (d_xP (pv 6))) d_int d_int))) a_nil)))
    (b_one (s_set (i := 9) sc_law.nd rfl (Or.inl rfl) (d_tup (a_cons (d_xV (pv 10)) (a_cons d_non a_nil)))))) (b_one (s_if (t_w (w_or (t_ne rfl (b64 hr) (d_blt opc_sumX (cr_sumX rfl) (by rfl) B.z_sum bt_sum (a_cons (d_idx rfl (fun _ _ => rfl) (d_xP (pv 9)) d_int) a_nil)) (d_plus rfl (d_xP (pv 8)) d_int)) (w_or (t_not (t_tru rfl (d_call rfl (ok_l_taking_right B) (hr.mono (by decide)) (by rfl) B.m_l_taking_right B.F_l_taking_right.kp B.b_l_taking_right (a_cons (d_xP (pv 2)) (a_cons (d_xP (pv 5)) (a_cons (d_xP (pv 9)) a_nil)))))) (w_or1 (t_nis (d_call rfl (ok_accepts_taking B) (hr.mono (by decide)) (by rfl) B.m_accepts_taking B.F_accepts_taking.kp B.b_accepts_taking (a_cons (d_xP (pv 2)) (a_cons (d_xP (pv 5)) (a_cons (d_xP (pv 9)) a_nil)))) d_bl))))) (b_one (s_ret d_bl)) b_nil)))
    (b_cons (s_if (t_nisN (d_idx rfl (fun _ _ => rfl) (d_xP (pv 9)) d_int) d_non) (b_one (s_forR1 PassesOwn.never rfl (by rfl) B.z_range (a_cons d_int a_nil) (g_name (pg_name (i := 11) sc_law.nd rfl (Or.inl rfl))) (b_cons (s_set (i := 12) sc_law.nd rfl (Or.inl rfl) (d_call rfl (ok_l_bent B) (hr.mono (by decide)) (by rfl) B.m_l_bent B.F_l_bent.kp B.b_l_bent (a_cons (d_xP (pv 1)) (a_cons (d_xP (pv 2)) (a_cons (d_xP (pv 9)) a_nil)))))
    (b_cons (s_set (i := 13) sc_law.nd rfl (Or.inl rfl) (d_call rfl (ok_accepts_taking B) (hr.mono (by decide)) (by rfl) B.m_accepts_taking B.F_accepts_taking.kp B.b_accepts_taking (a_cons (d_xP (pv 2)) (a_cons (d_xP (pv 5)) (a_cons (d_xP (pv 12)) a_nil)))))
    (b_one (s_if (t_w (w_or (t_not (t_tru rfl (d_isi rfl (by rfl) B.z_isinstance bt_isinstance (by rfl) B.z_bool bt_bool (d_xP (pv 13))))) (w_or1 (t_ne rfl (b64 hr) (d_xP (pv 13)) (d_call rfl (ok_l_taking_right B) (hr.mono (by decide)) (by rfl) B.m_l_taking_right B.F_l_taking_right.kp B.b_l_taking_right (a_cons (d_xP (pv 2)) (a_cons (d_xP (pv 5)) (a_cons (d_xP (pv 12)) a_nil)))))))) (b_one (s_ret d_bl)) b_nil)))))) b_nil)
    (b_one (s_ret (d_and (d_is (d_call rfl (ok_accepts_taking B) (hr.mono (by decide)) (by rfl) B.m_accepts_taking B.F_accepts_taking.kp B.b_accepts_taking (a_cons d_non (a_cons (d_xP (pv 5)) (a_cons (d_xP (pv 9)) a_nil)))) d_bl) (d_one (d_is (d_call rfl (ok_accepts_taking B) (hr.mono (by decide)) (by rfl) B.m_accepts_taking B.F_accepts_taking.kp B.b_accepts_taking (a_cons (d_xP (pv 2)) (a_cons (d_ty opc_list call_list_of (by rfl) B.z_list bt_list (a_cons (d_xP (pv 5)) a_nil)) (a_cons (d_xP (pv 9)) a_nil)))) d_bl)))))))))))))))))))))), ?_⟩
  refine ⟨_, rfl, a, ns, rfl, hS, hlen, fun H' T s ti => ?_⟩
  obtain ⟨t', e', b, ev⟩ := law_value ns hlen
  exact law_rest (i := 1) ti rfl ev k
end
theorem all_mk {l : PySem.W.OpenLaw} {w : World} {K : PySem.W.Frag} {h : Heap} {mg : Str → Option Value} {fa : Addr} (X : K.In h) (G : h.Ns mainGlobals mg) (hfa : mg "law" = some (.ref fa))
    {f1 : Addr} {od1 an1 : Option Addr} {sl1 : Array (Option Value)} {oc1 kV1 dc1 pm1 cd1 ct1 : Value}
    {f2 : Addr} {od2 an2 : Option Addr} {sl2 : Array (Option Value)} {oc2 kV2 dc2 pm2 cd2 ct2 : Value}
    {f3 : Addr} {od3 an3 : Option Addr} {sl3 : Array (Option Value)} {oc3 kV3 dc3 pm3 cd3 ct3 : Value}
    {f4 : Addr} {od4 an4 : Option Addr} {sl4 : Array (Option Value)} {oc4 kV4 dc4 pm4 cd4 ct4 : Value}
    {f5 : Addr} {od5 an5 : Option Addr} {sl5 : Array (Option Value)} {oc5 kV5 dc5 pm5 cd5 ct5 : Value}
    {f6 : Addr} {od6 an6 : Option Addr} {sl6 : Array (Option Value)} {oc6 kV6 dc6 pm6 cd6 ct6 : Value}
    {f7 : Addr} {od7 an7 : Option Addr} {sl7 : Array (Option Value)} {oc7 kV7 dc7 pm7 cd7 ct7 : Value}
    {f8 : Addr} {od8 an8 : Option Addr} {sl8 : Array (Option Value)} {oc8 kV8 dc8 pm8 cd8 ct8 : Value}
    {f9 : Addr} {od9 an9 : Option Addr} {sl9 : Array (Option Value)} {oc9 kV9 dc9 pm9 cd9 ct9 : Value}
    {f10 : Addr} {od10 an10 : Option Addr} {sl10 : Array (Option Value)} {oc10 kV10 dc10 pm10 cd10 ct10 : Value}
    {f11 : Addr} {od11 an11 : Option Addr} {sl11 : Array (Option Value)} {oc11 kV11 dc11 pm11 cd11 ct11 : Value}
    {f12 : Addr} {od12 an12 : Option Addr} {sl12 : Array (Option Value)} {oc12 kV12 dc12 pm12 cd12 ct12 : Value}
    {f13 : Addr} {od13 an13 : Option Addr} {sl13 : Array (Option Value)} {oc13 kV13 dc13 pm13 cd13 ct13 : Value}
    {f14 : Addr} {od14 an14 : Option Addr} {sl14 : Array (Option Value)} {oc14 kV14 dc14 pm14 cd14 ct14 : Value}
    {f15 : Addr} {od15 an15 : Option Addr} {sl15 : Array (Option Value)} {oc15 kV15 dc15 pm15 cd15 ct15 : Value}
    {f16 : Addr} {od16 an16 : Option Addr} {sl16 : Array (Option Value)} {oc16 kV16 dc16 pm16 cd16 ct16 : Value}
    {f17 : Addr} {od17 an17 : Option Addr} {sl17 : Array (Option Value)} {oc17 kV17 dc17 pm17 cd17 ct17 : Value}
    {f18 : Addr} {od18 an18 : Option Addr} {sl18 : Array (Option Value)} {oc18 kV18 dc18 pm18 cd18 ct18 : Value}
    {f19 : Addr} {od19 an19 : Option Addr} {sl19 : Array (Option Value)} {oc19 kV19 dc19 pm19 cd19 ct19 : Value}
    {f20 : Addr} {od20 an20 : Option Addr} {sl20 : Array (Option Value)} {oc20 kV20 dc20 pm20 cd20 ct20 : Value}
    {f21 : Addr} {od21 an21 : Option Addr} {sl21 : Array (Option Value)} {oc21 kV21 dc21 pm21 cd21 ct21 : Value}
    {f22 : Addr} {od22 an22 : Option Addr} {sl22 : Array (Option Value)} {oc22 kV22 dc22 pm22 cd22 ct22 : Value}
    {f23 : Addr} {od23 an23 : Option Addr} {sl23 : Array (Option Value)} {oc23 kV23 dc23 pm23 cd23 ct23 : Value}
    {f24 : Addr} {od24 an24 : Option Addr} {sl24 : Array (Option Value)} {oc24 kV24 dc24 pm24 cd24 ct24 : Value}
    {f25 : Addr} {od25 an25 : Option Addr} {sl25 : Array (Option Value)} {oc25 kV25 dc25 pm25 cd25 ct25 : Value}
    {f26 : Addr} {od26 an26 : Option Addr} {sl26 : Array (Option Value)} {oc26 kV26 dc26 pm26 cd26 ct26 : Value}
    {f27 : Addr} {od27 an27 : Option Addr} {sl27 : Array (Option Value)} {oc27 kV27 dc27 pm27 cd27 ct27 : Value}
    {f28 : Addr} {od28 an28 : Option Addr} {sl28 : Array (Option Value)} {oc28 kV28 dc28 pm28 cd28 ct28 : Value}
    {f29 : Addr} {od29 an29 : Option Addr} {sl29 : Array (Option Value)} {oc29 kV29 dc29 pm29 cd29 ct29 : Value}
    {f30 : Addr} {od30 an30 : Option Addr} {sl30 : Array (Option Value)} {oc30 kV30 dc30 pm30 cd30 ct30 : Value}
    {f31 : Addr} {od31 an31 : Option Addr} {sl31 : Array (Option Value)} {oc31 kV31 dc31 pm31 cd31 ct31 : Value}
    {f32 : Addr} {od32 an32 : Option Addr} {sl32 : Array (Option Value)} {oc32 kV32 dc32 pm32 cd32 ct32 : Value}
    {f33 : Addr} {od33 an33 : Option Addr} {sl33 : Array (Option Value)} {oc33 kV33 dc33 pm33 cd33 ct33 : Value}
    {f34 : Addr} {od34 an34 : Option Addr} {sl34 : Array (Option Value)} {oc34 kV34 dc34 pm34 cd34 ct34 : Value}
    {f35 : Addr} {od35 an35 : Option Addr} {sl35 : Array (Option Value)} {oc35 kV35 dc35 pm35 cd35 ct35 : Value}
    {f36 : Addr} {od36 an36 : Option Addr} {sl36 : Array (Option Value)} {oc36 kV36 dc36 pm36 cd36 ct36 : Value}
    {f37 : Addr} {od37 an37 : Option Addr} {sl37 : Array (Option Value)} {oc37 kV37 dc37 pm37 cd37 ct37 : Value}
    {f38 : Addr} {od38 an38 : Option Addr} {sl38 : Array (Option Value)} {oc38 kV38 dc38 pm38 cd38 ct38 : Value}
    {f39 : Addr} {od39 an39 : Option Addr} {sl39 : Array (Option Value)} {oc39 kV39 dc39 pm39 cd39 ct39 : Value}
    {f40 : Addr} {od40 an40 : Option Addr} {sl40 : Array (Option Value)} {oc40 kV40 dc40 pm40 cd40 ct40 : Value}
    {f41 : Addr} {od41 an41 : Option Addr} {sl41 : Array (Option Value)} {oc41 kV41 dc41 pm41 cd41 ct41 : Value}
    {f42 : Addr} {od42 an42 : Option Addr} {sl42 : Array (Option Value)} {oc42 kV42 dc42 pm42 cd42 ct42 : Value}
    {f43 : Addr} {od43 an43 : Option Addr} {sl43 : Array (Option Value)} {oc43 kV43 dc43 pm43 cd43 ct43 : Value}
    {f44 : Addr} {od44 an44 : Option Addr} {sl44 : Array (Option Value)} {oc44 kV44 dc44 pm44 cd44 ct44 : Value}
    {f45 : Addr} {od45 an45 : Option Addr} {sl45 : Array (Option Value)} {oc45 kV45 dc45 pm45 cd45 ct45 : Value}
    {f46 : Addr} {od46 an46 : Option Addr} {sl46 : Array (Option Value)} {oc46 kV46 dc46 pm46 cd46 ct46 : Value}
    {f47 : Addr} {od47 an47 : Option Addr} {sl47 : Array (Option Value)} {oc47 kV47 dc47 pm47 cd47 ct47 : Value}
    {f48 : Addr} {od48 an48 : Option Addr} {sl48 : Array (Option Value)} {oc48 kV48 dc48 pm48 cd48 ct48 : Value}
    {f49 : Addr} {od49 an49 : Option Addr} {sl49 : Array (Option Value)} {oc49 kV49 dc49 pm49 cd49 ct49 : Value}
    {f50 : Addr} {od50 an50 : Option Addr} {sl50 : Array (Option Value)} {oc50 kV50 dc50 pm50 cd50 ct50 : Value}
    {f51 : Addr} {od51 an51 : Option Addr} {sl51 : Array (Option Value)} {oc51 kV51 dc51 pm51 cd51 ct51 : Value}
    {f52 : Addr} {od52 an52 : Option Addr} {sl52 : Array (Option Value)} {oc52 kV52 dc52 pm52 cd52 ct52 : Value}
    {u_MOST_COINS : Tok}
    {u_MOST_HOUSES : Tok}
    {u_MOST_RANK : Tok}
    {u_MOST_ROADS : Tok}
    (a1 : PySem.W.nsIn K mainGlobals "is_whole" = some (some (.ref f1)))
    (l1 : K.lookup f1 = some ⟨oc1, od1, .func (PySem.W.fnOf "is_whole" "is_whole" (defArgs s_is_whole) (defBody s_is_whole) (defScope s_is_whole) .none kV1 dc1 pm1 an1 cd1 ct1), sl1⟩)
    (c1 : PySem.W.codeIn K cd1 "is_whole" = true)
    (k1 : PySem.W.keepIn K (.ref f1) = true)
    (a2 : PySem.W.nsIn K mainGlobals "is_number" = some (some (.ref f2)))
    (l2 : K.lookup f2 = some ⟨oc2, od2, .func (PySem.W.fnOf "is_number" "is_number" (defArgs s_is_number) (defBody s_is_number) (defScope s_is_number) .none kV2 dc2 pm2 an2 cd2 ct2), sl2⟩)
    (c2 : PySem.W.codeIn K cd2 "is_number" = true)
    (k2 : PySem.W.keepIn K (.ref f2) = true)
    (a3 : PySem.W.nsIn K mainGlobals "is_road" = some (some (.ref f3)))
    (l3 : K.lookup f3 = some ⟨oc3, od3, .func (PySem.W.fnOf "is_road" "is_road" (defArgs s_is_road) (defBody s_is_road) (defScope s_is_road) .none kV3 dc3 pm3 an3 cd3 ct3), sl3⟩)
    (c3 : PySem.W.codeIn K cd3 "is_road" = true)
    (k3 : PySem.W.keepIn K (.ref f3) = true)
    (a4 : PySem.W.nsIn K mainGlobals "reached" = some (some (.ref f4)))
    (l4 : K.lookup f4 = some ⟨oc4, od4, .func (PySem.W.fnOf "reached" "reached" (defArgs s_reached) (defBody s_reached) (defScope s_reached) .none kV4 dc4 pm4 an4 cd4 ct4), sl4⟩)
    (c4 : PySem.W.codeIn K cd4 "reached" = true)
    (k4 : PySem.W.keepIn K (.ref f4) = true)
    (a5 : PySem.W.nsIn K mainGlobals "is_town" = some (some (.ref f5)))
    (l5 : K.lookup f5 = some ⟨oc5, od5, .func (PySem.W.fnOf "is_town" "is_town" (defArgs s_is_town) (defBody s_is_town) (defScope s_is_town) .none kV5 dc5 pm5 an5 cd5 ct5), sl5⟩)
    (c5 : PySem.W.codeIn K cd5 "is_town" = true)
    (k5 : PySem.W.keepIn K (.ref f5) = true)
    (a6 : PySem.W.nsIn K mainGlobals "is_row" = some (some (.ref f6)))
    (l6 : K.lookup f6 = some ⟨oc6, od6, .func (PySem.W.fnOf "is_row" "is_row" (defArgs s_is_row) (defBody s_is_row) (defScope s_is_row) .none kV6 dc6 pm6 an6 cd6 ct6), sl6⟩)
    (c6 : PySem.W.codeIn K cd6 "is_row" = true)
    (k6 : PySem.W.keepIn K (.ref f6) = true)
    (a7 : PySem.W.nsIn K mainGlobals "is_purses" = some (some (.ref f7)))
    (l7 : K.lookup f7 = some ⟨oc7, od7, .func (PySem.W.fnOf "is_purses" "is_purses" (defArgs s_is_purses) (defBody s_is_purses) (defScope s_is_purses) .none kV7 dc7 pm7 an7 cd7 ct7), sl7⟩)
    (c7 : PySem.W.codeIn K cd7 "is_purses" = true)
    (k7 : PySem.W.keepIn K (.ref f7) = true)
    (a8 : PySem.W.nsIn K mainGlobals "is_order" = some (some (.ref f8)))
    (l8 : K.lookup f8 = some ⟨oc8, od8, .func (PySem.W.fnOf "is_order" "is_order" (defArgs s_is_order) (defBody s_is_order) (defScope s_is_order) .none kV8 dc8 pm8 an8 cd8 ct8), sl8⟩)
    (c8 : PySem.W.codeIn K cd8 "is_order" = true)
    (k8 : PySem.W.keepIn K (.ref f8) = true)
    (a9 : PySem.W.nsIn K mainGlobals "roads_at" = some (some (.ref f9)))
    (l9 : K.lookup f9 = some ⟨oc9, od9, .func (PySem.W.fnOf "roads_at" "roads_at" (defArgs s_roads_at) (defBody s_roads_at) (defScope s_roads_at) .none kV9 dc9 pm9 an9 cd9 ct9), sl9⟩)
    (c9 : PySem.W.codeIn K cd9 "roads_at" = true)
    (k9 : PySem.W.keepIn K (.ref f9) = true)
    (a10 : PySem.W.nsIn K mainGlobals "roads_into" = some (some (.ref f10)))
    (l10 : K.lookup f10 = some ⟨oc10, od10, .func (PySem.W.fnOf "roads_into" "roads_into" (defArgs s_roads_into) (defBody s_roads_into) (defScope s_roads_into) .none kV10 dc10 pm10 an10 cd10 ct10), sl10⟩)
    (c10 : PySem.W.codeIn K cd10 "roads_into" = true)
    (k10 : PySem.W.keepIn K (.ref f10) = true)
    (a11 : PySem.W.nsIn K mainGlobals "matrix" = some (some (.ref f11)))
    (l11 : K.lookup f11 = some ⟨oc11, od11, .func (PySem.W.fnOf "matrix" "matrix" (defArgs s_matrix) (defBody s_matrix) (defScope s_matrix) .none kV11 dc11 pm11 an11 cd11 ct11), sl11⟩)
    (c11 : PySem.W.codeIn K cd11 "matrix" = true)
    (k11 : PySem.W.keepIn K (.ref f11) = true)
    (a12 : PySem.W.nsIn K mainGlobals "after" = some (some (.ref f12)))
    (l12 : K.lookup f12 = some ⟨oc12, od12, .func (PySem.W.fnOf "after" "after" (defArgs s_after) (defBody s_after) (defScope s_after) .none kV12 dc12 pm12 an12 cd12 ct12), sl12⟩)
    (c12 : PySem.W.codeIn K cd12 "after" = true)
    (k12 : PySem.W.keepIn K (.ref f12) = true)
    (a13 : PySem.W.nsIn K mainGlobals "lend_together" = some (some (.ref f13)))
    (l13 : K.lookup f13 = some ⟨oc13, od13, .func (PySem.W.fnOf "lend_together" "lend_together" (defArgs s_lend_together) (defBody s_lend_together) (defScope s_lend_together) .none kV13 dc13 pm13 an13 cd13 ct13), sl13⟩)
    (c13 : PySem.W.codeIn K cd13 "lend_together" = true)
    (k13 : PySem.W.keepIn K (.ref f13) = true)
    (a14 : PySem.W.nsIn K mainGlobals "plain" = some (some (.ref f14)))
    (l14 : K.lookup f14 = some ⟨oc14, od14, .func (PySem.W.fnOf "plain" "plain" (defArgs s_plain) (defBody s_plain) (defScope s_plain) .none kV14 dc14 pm14 an14 cd14 ct14), sl14⟩)
    (c14 : PySem.W.codeIn K cd14 "plain" = true)
    (k14 : PySem.W.keepIn K (.ref f14) = true)
    (a15 : PySem.W.nsIn K mainGlobals "joined" = some (some (.ref f15)))
    (l15 : K.lookup f15 = some ⟨oc15, od15, .func (PySem.W.fnOf "joined" "joined" (defArgs s_joined) (defBody s_joined) (defScope s_joined) .none kV15 dc15 pm15 an15 cd15 ct15), sl15⟩)
    (c15 : PySem.W.codeIn K cd15 "joined" = true)
    (k15 : PySem.W.keepIn K (.ref f15) = true)
    (a16 : PySem.W.nsIn K mainGlobals "less" = some (some (.ref f16)))
    (l16 : K.lookup f16 = some ⟨oc16, od16, .func (PySem.W.fnOf "less" "less" (defArgs s_less) (defBody s_less) (defScope s_less) .none kV16 dc16 pm16 an16 cd16 ct16), sl16⟩)
    (c16 : PySem.W.codeIn K cd16 "less" = true)
    (k16 : PySem.W.keepIn K (.ref f16) = true)
    (a17 : PySem.W.nsIn K mainGlobals "solved" = some (some (.ref f17)))
    (l17 : K.lookup f17 = some ⟨oc17, od17, .func (PySem.W.fnOf "solved" "solved" (defArgs s_solved) (defBody s_solved) (defScope s_solved) .none kV17 dc17 pm17 an17 cd17 ct17), sl17⟩)
    (c17 : PySem.W.codeIn K cd17 "solved" = true)
    (k17 : PySem.W.keepIn K (.ref f17) = true)
    (a18 : PySem.W.nsIn K mainGlobals "fire" = some (some (.ref f18)))
    (l18 : K.lookup f18 = some ⟨oc18, od18, .func (PySem.W.fnOf "fire" "fire" (defArgs s_fire) (defBody s_fire) (defScope s_fire) .none kV18 dc18 pm18 an18 cd18 ct18), sl18⟩)
    (c18 : PySem.W.codeIn K cd18 "fire" = true)
    (k18 : PySem.W.keepIn K (.ref f18) = true)
    (a19 : PySem.W.nsIn K mainGlobals "standing" = some (some (.ref f19)))
    (l19 : K.lookup f19 = some ⟨oc19, od19, .func (PySem.W.fnOf "standing" "standing" (defArgs s_standing) (defBody s_standing) (defScope s_standing) .none kV19 dc19 pm19 an19 cd19 ct19), sl19⟩)
    (c19 : PySem.W.codeIn K cd19 "standing" = true)
    (k19 : PySem.W.keepIn K (.ref f19) = true)
    (a20 : PySem.W.nsIn K mainGlobals "first_script" = some (some (.ref f20)))
    (l20 : K.lookup f20 = some ⟨oc20, od20, .func (PySem.W.fnOf "first_script" "first_script" (defArgs s_first_script) (defBody s_first_script) (defScope s_first_script) .none kV20 dc20 pm20 an20 cd20 ct20), sl20⟩)
    (c20 : PySem.W.codeIn K cd20 "first_script" = true)
    (k20 : PySem.W.keepIn K (.ref f20) = true)
    (a21 : PySem.W.nsIn K mainGlobals "debtor" = some (some (.ref f21)))
    (l21 : K.lookup f21 = some ⟨oc21, od21, .func (PySem.W.fnOf "debtor" "debtor" (defArgs s_debtor) (defBody s_debtor) (defScope s_debtor) .none kV21 dc21 pm21 an21 cd21 ct21), sl21⟩)
    (c21 : PySem.W.codeIn K cd21 "debtor" = true)
    (k21 : PySem.W.keepIn K (.ref f21) = true)
    (a22 : PySem.W.nsIn K mainGlobals "reduced" = some (some (.ref f22)))
    (l22 : K.lookup f22 = some ⟨oc22, od22, .func (PySem.W.fnOf "reduced" "reduced" (defArgs s_reduced) (defBody s_reduced) (defScope s_reduced) .none kV22 dc22 pm22 an22 cd22 ct22), sl22⟩)
    (c22 : PySem.W.codeIn K cd22 "reduced" = true)
    (k22 : PySem.W.keepIn K (.ref f22) = true)
    (a23 : PySem.W.nsIn K mainGlobals "is_script" = some (some (.ref f23)))
    (l23 : K.lookup f23 = some ⟨oc23, od23, .func (PySem.W.fnOf "is_script" "is_script" (defArgs s_is_script) (defBody s_is_script) (defScope s_is_script) .none kV23 dc23 pm23 an23 cd23 ct23), sl23⟩)
    (c23 : PySem.W.codeIn K cd23 "is_script" = true)
    (k23 : PySem.W.keepIn K (.ref f23) = true)
    (a24 : PySem.W.nsIn K mainGlobals "ended" = some (some (.ref f24)))
    (l24 : K.lookup f24 = some ⟨oc24, od24, .func (PySem.W.fnOf "ended" "ended" (defArgs s_ended) (defBody s_ended) (defScope s_ended) .none kV24 dc24 pm24 an24 cd24 ct24), sl24⟩)
    (c24 : PySem.W.codeIn K cd24 "ended" = true)
    (k24 : PySem.W.keepIn K (.ref f24) = true)
    (a25 : PySem.W.nsIn K mainGlobals "stands_against" = some (some (.ref f25)))
    (l25 : K.lookup f25 = some ⟨oc25, od25, .func (PySem.W.fnOf "stands_against" "stands_against" (defArgs s_stands_against) (defBody s_stands_against) (defScope s_stands_against) .none kV25 dc25 pm25 an25 cd25 ct25), sl25⟩)
    (c25 : PySem.W.codeIn K cd25 "stands_against" = true)
    (k25 : PySem.W.keepIn K (.ref f25) = true)
    (a26 : PySem.W.nsIn K mainGlobals "accepts_end" = some (some (.ref f26)))
    (l26 : K.lookup f26 = some ⟨oc26, od26, .func (PySem.W.fnOf "accepts_end" "accepts_end" (defArgs s_accepts_end) (defBody s_accepts_end) (defScope s_accepts_end) .none kV26 dc26 pm26 an26 cd26 ct26), sl26⟩)
    (c26 : PySem.W.codeIn K cd26 "accepts_end" = true)
    (k26 : PySem.W.keepIn K (.ref f26) = true)
    (a27 : PySem.W.nsIn K mainGlobals "takings" = some (some (.ref f27)))
    (l27 : K.lookup f27 = some ⟨oc27, od27, .func (PySem.W.fnOf "takings" "takings" (defArgs s_takings) (defBody s_takings) (defScope s_takings) .none kV27 dc27 pm27 an27 cd27 ct27), sl27⟩)
    (c27 : PySem.W.codeIn K cd27 "takings" = true)
    (k27 : PySem.W.keepIn K (.ref f27) = true)
    (a28 : PySem.W.nsIn K mainGlobals "is_ended" = some (some (.ref f28)))
    (l28 : K.lookup f28 = some ⟨oc28, od28, .func (PySem.W.fnOf "is_ended" "is_ended" (defArgs s_is_ended) (defBody s_is_ended) (defScope s_is_ended) .none kV28 dc28 pm28 an28 cd28 ct28), sl28⟩)
    (c28 : PySem.W.codeIn K cd28 "is_ended" = true)
    (k28 : PySem.W.keepIn K (.ref f28) = true)
    (a29 : PySem.W.nsIn K mainGlobals "rank" = some (some (.ref f29)))
    (l29 : K.lookup f29 = some ⟨oc29, od29, .func (PySem.W.fnOf "rank" "rank" (defArgs s_rank) (defBody s_rank) (defScope s_rank) .none kV29 dc29 pm29 an29 cd29 ct29), sl29⟩)
    (c29 : PySem.W.codeIn K cd29 "rank" = true)
    (k29 : PySem.W.keepIn K (.ref f29) = true)
    (a30 : PySem.W.nsIn K mainGlobals "taking" = some (some (.ref f30)))
    (l30 : K.lookup f30 = some ⟨oc30, od30, .func (PySem.W.fnOf "taking" "taking" (defArgs s_taking) (defBody s_taking) (defScope s_taking) .none kV30 dc30 pm30 an30 cd30 ct30), sl30⟩)
    (c30 : PySem.W.codeIn K cd30 "taking" = true)
    (k30 : PySem.W.keepIn K (.ref f30) = true)
    (a31 : PySem.W.nsIn K mainGlobals "accepts_taking" = some (some (.ref f31)))
    (l31 : K.lookup f31 = some ⟨oc31, od31, .func (PySem.W.fnOf "accepts_taking" "accepts_taking" (defArgs s_accepts_taking) (defBody s_accepts_taking) (defScope s_accepts_taking) .none kV31 dc31 pm31 an31 cd31 ct31), sl31⟩)
    (c31 : PySem.W.codeIn K cd31 "accepts_taking" = true)
    (k31 : PySem.W.keepIn K (.ref f31) = true)
    (a32 : PySem.W.nsIn K mainGlobals "bearing" = some (some (.ref f32)))
    (l32 : K.lookup f32 = some ⟨oc32, od32, .func (PySem.W.fnOf "bearing" "bearing" (defArgs s_bearing) (defBody s_bearing) (defScope s_bearing) .none kV32 dc32 pm32 an32 cd32 ct32), sl32⟩)
    (c32 : PySem.W.codeIn K cd32 "bearing" = true)
    (k32 : PySem.W.keepIn K (.ref f32) = true)
    (a33 : PySem.W.nsIn K mainGlobals "accepts_bearing" = some (some (.ref f33)))
    (l33 : K.lookup f33 = some ⟨oc33, od33, .func (PySem.W.fnOf "accepts_bearing" "accepts_bearing" (defArgs s_accepts_bearing) (defBody s_accepts_bearing) (defScope s_accepts_bearing) .none kV33 dc33 pm33 an33 cd33 ct33), sl33⟩)
    (c33 : PySem.W.codeIn K cd33 "accepts_bearing" = true)
    (k33 : PySem.W.keepIn K (.ref f33) = true)
    (a34 : PySem.W.nsIn K mainGlobals "_law_state" = some (some (.ref f34)))
    (l34 : K.lookup f34 = some ⟨oc34, od34, .func (PySem.W.fnOf "_law_state" "_law_state" (defArgs s_l_state) (defBody s_l_state) (defScope s_l_state) .none kV34 dc34 pm34 an34 cd34 ct34), sl34⟩)
    (c34 : PySem.W.codeIn K cd34 "_law_state" = true)
    (k34 : PySem.W.keepIn K (.ref f34) = true)
    (a35 : PySem.W.nsIn K mainGlobals "_law_take" = some (some (.ref f35)))
    (l35 : K.lookup f35 = some ⟨oc35, od35, .func (PySem.W.fnOf "_law_take" "_law_take" (defArgs s_l_take) (defBody s_l_take) (defScope s_l_take) .none kV35 dc35 pm35 an35 cd35 ct35), sl35⟩)
    (c35 : PySem.W.codeIn K cd35 "_law_take" = true)
    (k35 : PySem.W.keepIn K (.ref f35) = true)
    (a36 : PySem.W.nsIn K mainGlobals "_law_pick" = some (some (.ref f36)))
    (l36 : K.lookup f36 = some ⟨oc36, od36, .func (PySem.W.fnOf "_law_pick" "_law_pick" (defArgs s_l_pick) (defBody s_l_pick) (defScope s_l_pick) .none kV36 dc36 pm36 an36 cd36 ct36), sl36⟩)
    (c36 : PySem.W.codeIn K cd36 "_law_pick" = true)
    (k36 : PySem.W.keepIn K (.ref f36) = true)
    (a37 : PySem.W.nsIn K mainGlobals "_law_town" = some (some (.ref f37)))
    (l37 : K.lookup f37 = some ⟨oc37, od37, .func (PySem.W.fnOf "_law_town" "_law_town" (defArgs s_l_town) (defBody s_l_town) (defScope s_l_town) .none kV37 dc37 pm37 an37 cd37 ct37), sl37⟩)
    (c37 : PySem.W.codeIn K cd37 "_law_town" = true)
    (k37 : PySem.W.keepIn K (.ref f37) = true)
    (a38 : PySem.W.nsIn K mainGlobals "_law_ends" = some (some (.ref f38)))
    (l38 : K.lookup f38 = some ⟨oc38, od38, .func (PySem.W.fnOf "_law_ends" "_law_ends" (defArgs s_l_ends) (defBody s_l_ends) (defScope s_l_ends) .none kV38 dc38 pm38 an38 cd38 ct38), sl38⟩)
    (c38 : PySem.W.codeIn K cd38 "_law_ends" = true)
    (k38 : PySem.W.keepIn K (.ref f38) = true)
    (a39 : PySem.W.nsIn K mainGlobals "_law_after" = some (some (.ref f39)))
    (l39 : K.lookup f39 = some ⟨oc39, od39, .func (PySem.W.fnOf "_law_after" "_law_after" (defArgs s_l_after) (defBody s_l_after) (defScope s_l_after) .none kV39 dc39 pm39 an39 cd39 ct39), sl39⟩)
    (c39 : PySem.W.codeIn K cd39 "_law_after" = true)
    (k39 : PySem.W.keepIn K (.ref f39) = true)
    (a40 : PySem.W.nsIn K mainGlobals "_law_purses" = some (some (.ref f40)))
    (l40 : K.lookup f40 = some ⟨oc40, od40, .func (PySem.W.fnOf "_law_purses" "_law_purses" (defArgs s_l_purses) (defBody s_l_purses) (defScope s_l_purses) .none kV40 dc40 pm40 an40 cd40 ct40), sl40⟩)
    (c40 : PySem.W.codeIn K cd40 "_law_purses" = true)
    (k40 : PySem.W.keepIn K (.ref f40) = true)
    (a41 : PySem.W.nsIn K mainGlobals "_law_fire" = some (some (.ref f41)))
    (l41 : K.lookup f41 = some ⟨oc41, od41, .func (PySem.W.fnOf "_law_fire" "_law_fire" (defArgs s_l_fire) (defBody s_l_fire) (defScope s_l_fire) .none kV41 dc41 pm41 an41 cd41 ct41), sl41⟩)
    (c41 : PySem.W.codeIn K cd41 "_law_fire" = true)
    (k41 : PySem.W.keepIn K (.ref f41) = true)
    (a42 : PySem.W.nsIn K mainGlobals "_law_reduced" = some (some (.ref f42)))
    (l42 : K.lookup f42 = some ⟨oc42, od42, .func (PySem.W.fnOf "_law_reduced" "_law_reduced" (defArgs s_l_reduced) (defBody s_l_reduced) (defScope s_l_reduced) .none kV42 dc42 pm42 an42 cd42 ct42), sl42⟩)
    (c42 : PySem.W.codeIn K cd42 "_law_reduced" = true)
    (k42 : PySem.W.keepIn K (.ref f42) = true)
    (a43 : PySem.W.nsIn K mainGlobals "_law_script" = some (some (.ref f43)))
    (l43 : K.lookup f43 = some ⟨oc43, od43, .func (PySem.W.fnOf "_law_script" "_law_script" (defArgs s_l_script) (defBody s_l_script) (defScope s_l_script) .none kV43 dc43 pm43 an43 cd43 ct43), sl43⟩)
    (c43 : PySem.W.codeIn K cd43 "_law_script" = true)
    (k43 : PySem.W.keepIn K (.ref f43) = true)
    (a44 : PySem.W.nsIn K mainGlobals "_law_against" = some (some (.ref f44)))
    (l44 : K.lookup f44 = some ⟨oc44, od44, .func (PySem.W.fnOf "_law_against" "_law_against" (defArgs s_l_against) (defBody s_l_against) (defScope s_l_against) .none kV44 dc44 pm44 an44 cd44 ct44), sl44⟩)
    (c44 : PySem.W.codeIn K cd44 "_law_against" = true)
    (k44 : PySem.W.keepIn K (.ref f44) = true)
    (a45 : PySem.W.nsIn K mainGlobals "_law_end_right" = some (some (.ref f45)))
    (l45 : K.lookup f45 = some ⟨oc45, od45, .func (PySem.W.fnOf "_law_end_right" "_law_end_right" (defArgs s_l_end_right) (defBody s_l_end_right) (defScope s_l_end_right) .none kV45 dc45 pm45 an45 cd45 ct45), sl45⟩)
    (c45 : PySem.W.codeIn K cd45 "_law_end_right" = true)
    (k45 : PySem.W.keepIn K (.ref f45) = true)
    (a46 : PySem.W.nsIn K mainGlobals "_law_takings" = some (some (.ref f46)))
    (l46 : K.lookup f46 = some ⟨oc46, od46, .func (PySem.W.fnOf "_law_takings" "_law_takings" (defArgs s_l_takings) (defBody s_l_takings) (defScope s_l_takings) .none kV46 dc46 pm46 an46 cd46 ct46), sl46⟩)
    (c46 : PySem.W.codeIn K cd46 "_law_takings" = true)
    (k46 : PySem.W.keepIn K (.ref f46) = true)
    (a47 : PySem.W.nsIn K mainGlobals "_law_rank" = some (some (.ref f47)))
    (l47 : K.lookup f47 = some ⟨oc47, od47, .func (PySem.W.fnOf "_law_rank" "_law_rank" (defArgs s_l_rank) (defBody s_l_rank) (defScope s_l_rank) .none kV47 dc47 pm47 an47 cd47 ct47), sl47⟩)
    (c47 : PySem.W.codeIn K cd47 "_law_rank" = true)
    (k47 : PySem.W.keepIn K (.ref f47) = true)
    (a48 : PySem.W.nsIn K mainGlobals "_law_taking_right" = some (some (.ref f48)))
    (l48 : K.lookup f48 = some ⟨oc48, od48, .func (PySem.W.fnOf "_law_taking_right" "_law_taking_right" (defArgs s_l_taking_right) (defBody s_l_taking_right) (defScope s_l_taking_right) .none kV48 dc48 pm48 an48 cd48 ct48), sl48⟩)
    (c48 : PySem.W.codeIn K cd48 "_law_taking_right" = true)
    (k48 : PySem.W.keepIn K (.ref f48) = true)
    (a49 : PySem.W.nsIn K mainGlobals "_law_bent" = some (some (.ref f49)))
    (l49 : K.lookup f49 = some ⟨oc49, od49, .func (PySem.W.fnOf "_law_bent" "_law_bent" (defArgs s_l_bent) (defBody s_l_bent) (defScope s_l_bent) .none kV49 dc49 pm49 an49 cd49 ct49), sl49⟩)
    (c49 : PySem.W.codeIn K cd49 "_law_bent" = true)
    (k49 : PySem.W.keepIn K (.ref f49) = true)
    (a50 : PySem.W.nsIn K mainGlobals "_law_bearing_right" = some (some (.ref f50)))
    (l50 : K.lookup f50 = some ⟨oc50, od50, .func (PySem.W.fnOf "_law_bearing_right" "_law_bearing_right" (defArgs s_l_bearing_right) (defBody s_l_bearing_right) (defScope s_l_bearing_right) .none kV50 dc50 pm50 an50 cd50 ct50), sl50⟩)
    (c50 : PySem.W.codeIn K cd50 "_law_bearing_right" = true)
    (k50 : PySem.W.keepIn K (.ref f50) = true)
    (a51 : PySem.W.nsIn K mainGlobals "_law_bears" = some (some (.ref f51)))
    (l51 : K.lookup f51 = some ⟨oc51, od51, .func (PySem.W.fnOf "_law_bears" "_law_bears" (defArgs s_l_bears) (defBody s_l_bears) (defScope s_l_bears) .none kV51 dc51 pm51 an51 cd51 ct51), sl51⟩)
    (c51 : PySem.W.codeIn K cd51 "_law_bears" = true)
    (k51 : PySem.W.keepIn K (.ref f51) = true)
    (a52 : PySem.W.nsIn K mainGlobals "law" = some (some (.ref f52)))
    (l52 : K.lookup f52 = some ⟨oc52, od52, .func (PySem.W.fnOf "law" "law" (defArgs s_law) (defBody s_law) (defScope s_law) .none kV52 dc52 pm52 an52 cd52 ct52), sl52⟩)
    (c52 : PySem.W.codeIn K cd52 "law" = true)
    (k52 : PySem.W.keepIn K (.ref f52) = true)
    (z_isinstance : PySem.W.nsIn K mainGlobals "isinstance" = some none)
    (z_int : PySem.W.nsIn K mainGlobals "int" = some none)
    (z_bool : PySem.W.nsIn K mainGlobals "bool" = some none)
    (z_tuple : PySem.W.nsIn K mainGlobals "tuple" = some none)
    (z_len : PySem.W.nsIn K mainGlobals "len" = some none)
    (z_range : PySem.W.nsIn K mainGlobals "range" = some none)
    (z_sorted : PySem.W.nsIn K mainGlobals "sorted" = some none)
    (z_all : PySem.W.nsIn K mainGlobals "all" = some none)
    (z_list : PySem.W.nsIn K mainGlobals "list" = some none)
    (z_abs : PySem.W.nsIn K mainGlobals "abs" = some none)
    (z_sum : PySem.W.nsIn K mainGlobals "sum" = some none)
    (z_min : PySem.W.nsIn K mainGlobals "min" = some none)
    (z_max : PySem.W.nsIn K mainGlobals "max" = some none)
    (c_MOST_COINS : PySem.W.nsIn K mainGlobals "MOST_COINS" = some (some (.int 999 u_MOST_COINS)))
    (c_MOST_HOUSES : PySem.W.nsIn K mainGlobals "MOST_HOUSES" = some (some (.int 20 u_MOST_HOUSES)))
    (c_MOST_RANK : PySem.W.nsIn K mainGlobals "MOST_RANK" = some (some (.int 3 u_MOST_RANK)))
    (c_MOST_ROADS : PySem.W.nsIn K mainGlobals "MOST_ROADS" = some (some (.int 60 u_MOST_ROADS))) :
    ∃ fd : FuncData, (∀ (s : Shared) (v : Value), BindsTo s fd ⟨[v], []⟩ [("script", v)]) ∧ ∀ base : Heap, K.In base → base.Ns mainGlobals mg → FnOk l.prog w K mg base CX0 9 fa fd ["script"] (Fw.spLaw K) := by
  have e := hfa.symm.trans (PySem.W.mg_of X G a52)
  cases e
  have F1 := fun_mk (st := s_is_whole) l1 c1 k1
  have b1 := F1.binds (ps := ["value", "low", "high"]) fun _ _ _ _ _ _ us hl => match us, hl with | [_, _, _], _ => rfl
  have F2 := fun_mk (st := s_is_number) l2 c2 k2
  have b2 := F2.binds (ps := ["value"]) fun _ _ _ _ _ _ us hl => match us, hl with | [_], _ => rfl
  have F3 := fun_mk (st := s_is_road) l3 c3 k3
  have b3 := F3.binds (ps := ["value", "many"]) fun _ _ _ _ _ _ us hl => match us, hl with | [_, _], _ => rfl
  have F4 := fun_mk (st := s_reached) l4 c4 k4
  have b4 := F4.binds (ps := ["many", "roads", "house"]) fun _ _ _ _ _ _ us hl => match us, hl with | [_, _, _], _ => rfl
  have F5 := fun_mk (st := s_is_town) l5 c5 k5
  have b5 := F5.binds (ps := ["value"]) fun _ _ _ _ _ _ us hl => match us, hl with | [_], _ => rfl
  have F6 := fun_mk (st := s_is_row) l6 c6 k6
  have b6 := F6.binds (ps := ["value", "many"]) fun _ _ _ _ _ _ us hl => match us, hl with | [_, _], _ => rfl
  have F7 := fun_mk (st := s_is_purses) l7 c7 k7
  have b7 := F7.binds (ps := ["value", "town"]) fun _ _ _ _ _ _ us hl => match us, hl with | [_, _], _ => rfl
  have F8 := fun_mk (st := s_is_order) l8 c8 k8
  have b8 := F8.binds (ps := ["value", "town"]) fun _ _ _ _ _ _ us hl => match us, hl with | [_, _], _ => rfl
  have F9 := fun_mk (st := s_roads_at) l9 c9 k9
  have b9 := F9.binds (ps := ["town", "house"]) fun _ _ _ _ _ _ us hl => match us, hl with | [_, _], _ => rfl
  have F10 := fun_mk (st := s_roads_into) l10 c10 k10
  have b10 := F10.binds (ps := ["town", "house", "lot"]) fun _ _ _ _ _ _ us hl => match us, hl with | [_, _, _], _ => rfl
  have F11 := fun_mk (st := s_matrix) l11 c11 k11
  have b11 := F11.binds (ps := ["town"]) fun _ _ _ _ _ _ us hl => match us, hl with | [_], _ => rfl
  have F12 := fun_mk (st := s_after) l12 c12 k12
  have b12 := F12.binds (ps := ["town", "purses", "script"]) fun _ _ _ _ _ _ us hl => match us, hl with | [_, _, _], _ => rfl
  have F13 := fun_mk (st := s_lend_together) l13 c13 k13
  have b13 := F13.binds (ps := ["town", "purses", "lot"]) fun _ _ _ _ _ _ us hl => match us, hl with | [_, _, _], _ => rfl
  have F14 := fun_mk (st := s_plain) l14 c14 k14
  have b14 := F14.binds (ps := ["script"]) fun _ _ _ _ _ _ us hl => match us, hl with | [_], _ => rfl
  have F15 := fun_mk (st := s_joined) l15 c15 k15
  have b15 := F15.binds (ps := ["one", "other"]) fun _ _ _ _ _ _ us hl => match us, hl with | [_, _], _ => rfl
  have F16 := fun_mk (st := s_less) l16 c16 k16
  have b16 := F16.binds (ps := ["one", "other"]) fun _ _ _ _ _ _ us hl => match us, hl with | [_, _], _ => rfl
  have F17 := fun_mk (st := s_solved) l17 c17 k17
  have b17 := F17.binds (ps := ["rows", "column"]) fun _ _ _ _ _ _ us hl => match us, hl with | [_, _], _ => rfl
  have F18 := fun_mk (st := s_fire) l18 c18 k18
  have b18 := F18.binds (ps := ["town", "purses", "bank"]) fun _ _ _ _ _ _ us hl => match us, hl with | [_, _, _], _ => rfl
  have F19 := fun_mk (st := s_standing) l19 c19 k19
  have b19 := F19.binds (ps := ["town", "purses", "bank"]) fun _ _ _ _ _ _ us hl => match us, hl with | [_, _, _], _ => rfl
  have F20 := fun_mk (st := s_first_script) l20 c20 k20
  have b20 := F20.binds (ps := ["town", "purses", "bank"]) fun _ _ _ _ _ _ us hl => match us, hl with | [_, _, _], _ => rfl
  have F21 := fun_mk (st := s_debtor) l21 c21 k21
  have b21 := F21.binds (ps := ["purses", "bank"]) fun _ _ _ _ _ _ us hl => match us, hl with | [_, _], _ => rfl
  have F22 := fun_mk (st := s_reduced) l22 c22 k22
  have b22 := F22.binds (ps := ["town", "purses", "bank"]) fun _ _ _ _ _ _ us hl => match us, hl with | [_, _, _], _ => rfl
  have F23 := fun_mk (st := s_is_script) l23 c23 k23
  have b23 := F23.binds (ps := ["value", "town"]) fun _ _ _ _ _ _ us hl => match us, hl with | [_, _], _ => rfl
  have F24 := fun_mk (st := s_ended) l24 c24 k24
  have b24 := F24.binds (ps := ["town", "purses"]) fun _ _ _ _ _ _ us hl => match us, hl with | [_, _], _ => rfl
  have F25 := fun_mk (st := s_stands_against) l25 c25 k25
  have b25 := F25.binds (ps := ["town", "purses", "order"]) fun _ _ _ _ _ _ us hl => match us, hl with | [_, _, _], _ => rfl
  have F26 := fun_mk (st := s_accepts_end) l26 c26 k26
  have b26 := F26.binds (ps := ["town", "purses", "value"]) fun _ _ _ _ _ _ us hl => match us, hl with | [_, _, _], _ => rfl
  have F27 := fun_mk (st := s_takings) l27 c27 k27
  have b27 := F27.binds (ps := ["many", "coins"]) fun _ _ _ _ _ _ us hl => match us, hl with | [_, _], _ => rfl
  have F28 := fun_mk (st := s_is_ended) l28 c28 k28
  have b28 := F28.binds (ps := ["town", "purses"]) fun _ _ _ _ _ _ us hl => match us, hl with | [_, _], _ => rfl
  have F29 := fun_mk (st := s_rank) l29 c29 k29
  have b29 := F29.binds (ps := ["town", "purses", "most"]) fun _ _ _ _ _ _ us hl => match us, hl with | [_, _, _], _ => rfl
  have F30 := fun_mk (st := s_taking) l30 c30 k30
  have b30 := F30.binds (ps := ["town", "purses", "most"]) fun _ _ _ _ _ _ us hl => match us, hl with | [_, _, _], _ => rfl
  have F31 := fun_mk (st := s_accepts_taking) l31 c31 k31
  have b31 := F31.binds (ps := ["town", "purses", "value"]) fun _ _ _ _ _ _ us hl => match us, hl with | [_, _, _], _ => rfl
  have F32 := fun_mk (st := s_bearing) l32 c32 k32
  have b32 := F32.binds (ps := ["town", "purses", "coins"]) fun _ _ _ _ _ _ us hl => match us, hl with | [_, _, _], _ => rfl
  have F33 := fun_mk (st := s_accepts_bearing) l33 c33 k33
  have b33 := F33.binds (ps := ["town", "purses", "coins", "value"]) fun _ _ _ _ _ _ us hl => match us, hl with | [_, _, _, _], _ => rfl
  have F34 := fun_mk (st := s_l_state) l34 c34 k34
  have b34 := F34.binds (ps := ["script"]) fun _ _ _ _ _ _ us hl => match us, hl with | [_], _ => rfl
  have F35 := fun_mk (st := s_l_take) l35 c35 k35
  have b35 := F35.binds (ps := ["state", "most"]) fun _ _ _ _ _ _ us hl => match us, hl with | [_, _], _ => rfl
  have F36 := fun_mk (st := s_l_pick) l36 c36 k36
  have b36 := F36.binds (ps := ["state", "row"]) fun _ _ _ _ _ _ us hl => match us, hl with | [_, _], _ => rfl
  have F37 := fun_mk (st := s_l_town) l37 c37 k37
  have b37 := F37.binds (ps := ["state", "most", "more"]) fun _ _ _ _ _ _ us hl => match us, hl with | [_, _, _], _ => rfl
  have F38 := fun_mk (st := s_l_ends) l38 c38 k38
  have b38 := F38.binds (ps := ["town", "house"]) fun _ _ _ _ _ _ us hl => match us, hl with | [_, _], _ => rfl
  have F39 := fun_mk (st := s_l_after) l39 c39 k39
  have b39 := F39.binds (ps := ["town", "purses", "script"]) fun _ _ _ _ _ _ us hl => match us, hl with | [_, _, _], _ => rfl
  have F40 := fun_mk (st := s_l_purses) l40 c40 k40
  have b40 := F40.binds (ps := ["state", "town", "most"]) fun _ _ _ _ _ _ us hl => match us, hl with | [_, _, _], _ => rfl
  have F41 := fun_mk (st := s_l_fire) l41 c41 k41
  have b41 := F41.binds (ps := ["town", "purses", "bank"]) fun _ _ _ _ _ _ us hl => match us, hl with | [_, _, _], _ => rfl
  have F42 := fun_mk (st := s_l_reduced) l42 c42 k42
  have b42 := F42.binds (ps := ["town", "purses", "bank"]) fun _ _ _ _ _ _ us hl => match us, hl with | [_, _, _], _ => rfl
  have F43 := fun_mk (st := s_l_script) l43 c43 k43
  have b43 := F43.binds (ps := ["value", "many"]) fun _ _ _ _ _ _ us hl => match us, hl with | [_, _], _ => rfl
  have F44 := fun_mk (st := s_l_against) l44 c44 k44
  have b44 := F44.binds (ps := ["town", "purses", "order"]) fun _ _ _ _ _ _ us hl => match us, hl with | [_, _, _], _ => rfl
  have F45 := fun_mk (st := s_l_end_right) l45 c45 k45
  have b45 := F45.binds (ps := ["town", "purses", "value"]) fun _ _ _ _ _ _ us hl => match us, hl with | [_, _, _], _ => rfl
  have F46 := fun_mk (st := s_l_takings) l46 c46 k46
  have b46 := F46.binds (ps := ["many", "coins"]) fun _ _ _ _ _ _ us hl => match us, hl with | [_, _], _ => rfl
  have F47 := fun_mk (st := s_l_rank) l47 c47 k47
  have b47 := F47.binds (ps := ["town", "purses", "most"]) fun _ _ _ _ _ _ us hl => match us, hl with | [_, _, _], _ => rfl
  have F48 := fun_mk (st := s_l_taking_right) l48 c48 k48
  have b48 := F48.binds (ps := ["town", "purses", "value"]) fun _ _ _ _ _ _ us hl => match us, hl with | [_, _, _], _ => rfl
  have F49 := fun_mk (st := s_l_bent) l49 c49 k49
  have b49 := F49.binds (ps := ["state", "town", "value"]) fun _ _ _ _ _ _ us hl => match us, hl with | [_, _, _], _ => rfl
  have F50 := fun_mk (st := s_l_bearing_right) l50 c50 k50
  have b50 := F50.binds (ps := ["town", "purses", "coins", "value"]) fun _ _ _ _ _ _ us hl => match us, hl with | [_, _, _, _], _ => rfl
  have F51 := fun_mk (st := s_l_bears) l51 c51 k51
  have b51 := F51.binds (ps := ["state", "town", "purses", "due", "most"]) fun _ _ _ _ _ _ us hl => match us, hl with | [_, _, _, _, _], _ => rfl
  have B : Bd K mg := ⟨f1, _, F1, PySem.W.mg_of X G a1, b1, f2, _, F2, PySem.W.mg_of X G a2, b2, f3, _, F3, PySem.W.mg_of X G a3, b3, f4, _, F4, PySem.W.mg_of X G a4, b4, f5, _, F5, PySem.W.mg_of X G a5, b5, f6, _, F6, PySem.W.mg_of X G a6, b6, f7, _, F7, PySem.W.mg_of X G a7, b7, f8, _, F8, PySem.W.mg_of X G a8, b8, f9, _, F9, PySem.W.mg_of X G a9, b9, f10, _, F10, PySem.W.mg_of X G a10, b10, f11, _, F11, PySem.W.mg_of X G a11, b11, f12, _, F12, PySem.W.mg_of X G a12, b12, f13, _, F13, PySem.W.mg_of X G a13, b13, f14, _, F14, PySem.W.mg_of X G a14, b14, f15, _, F15, PySem.W.mg_of X G a15, b15, f16, _, F16, PySem.W.mg_of X G a16, b16, f17, _, F17, PySem.W.mg_of X G a17, b17, f18, _, F18, PySem.W.mg_of X G a18, b18, f19, _, F19, PySem.W.mg_of X G a19, b19, f20, _, F20, PySem.W.mg_of X G a20, b20, f21, _, F21, PySem.W.mg_of X G a21, b21, f22, _, F22, PySem.W.mg_of X G a22, b22, f23, _, F23, PySem.W.mg_of X G a23, b23, f24, _, F24, PySem.W.mg_of X G a24, b24, f25, _, F25, PySem.W.mg_of X G a25, b25, f26, _, F26, PySem.W.mg_of X G a26, b26, f27, _, F27, PySem.W.mg_of X G a27, b27, f28, _, F28, PySem.W.mg_of X G a28, b28, f29, _, F29, PySem.W.mg_of X G a29, b29, f30, _, F30, PySem.W.mg_of X G a30, b30, f31, _, F31, PySem.W.mg_of X G a31, b31, f32, _, F32, PySem.W.mg_of X G a32, b32, f33, _, F33, PySem.W.mg_of X G a33, b33, f34, _, F34, PySem.W.mg_of X G a34, b34, f35, _, F35, PySem.W.mg_of X G a35, b35, f36, _, F36, PySem.W.mg_of X G a36, b36, f37, _, F37, PySem.W.mg_of X G a37, b37, f38, _, F38, PySem.W.mg_of X G a38, b38, f39, _, F39, PySem.W.mg_of X G a39, b39, f40, _, F40, PySem.W.mg_of X G a40, b40, f41, _, F41, PySem.W.mg_of X G a41, b41, f42, _, F42, PySem.W.mg_of X G a42, b42, f43, _, F43, PySem.W.mg_of X G a43, b43, f44, _, F44, PySem.W.mg_of X G a44, b44, f45, _, F45, PySem.W.mg_of X G a45, b45, f46, _, F46, PySem.W.mg_of X G a46, b46, f47, _, F47, PySem.W.mg_of X G a47, b47, f48, _, F48, PySem.W.mg_of X G a48, b48, f49, _, F49, PySem.W.mg_of X G a49, b49, f50, _, F50, PySem.W.mg_of X G a50, b50, f51, _, F51, PySem.W.mg_of X G a51, b51, PySem.W.mg_none_of X G z_isinstance, PySem.W.mg_none_of X G z_int, PySem.W.mg_none_of X G z_bool, PySem.W.mg_none_of X G z_tuple, PySem.W.mg_none_of X G z_len, PySem.W.mg_none_of X G z_range, PySem.W.mg_none_of X G z_sorted, PySem.W.mg_none_of X G z_all, PySem.W.mg_none_of X G z_list, PySem.W.mg_none_of X G z_abs, PySem.W.mg_none_of X G z_sum, PySem.W.mg_none_of X G z_min, PySem.W.mg_none_of X G z_max, ⟨_, PySem.W.mg_of X G c_MOST_COINS⟩, ⟨_, PySem.W.mg_of X G c_MOST_HOUSES⟩, ⟨_, PySem.W.mg_of X G c_MOST_RANK⟩, ⟨_, PySem.W.mg_of X G c_MOST_ROADS⟩⟩
  exact ⟨PySem.W.fnOf "law" "law" (defArgs s_law) (defBody s_law) (defScope s_law) .none kV52 dc52 pm52 an52 cd52 ct52, fun s v => .of_eq rfl, fun base _ _ => ok_law (fun_mk (st := s_law) l52 c52 k52) B⟩
theorem walk {l : PySem.W.OpenLaw} {q : Program} {loose : List Str} {XP : (Str → Option Value) → Heap → Prop} {YP : World → Heap → Prop} {d : DefRec} {K : Params → PySem.W.Frag} (hn : l.most = some 63) (hdf : d.params.defaults = [])
    (hY : ∀ (w : World) (h : Heap), YP w h → (K w.params).In h)
    (F : ∀ (w : World) (mg : Str → Option Value) (fa : Addr) (h : Heap), (K w.params).In h → h.Ns mainGlobals mg → mg d.name = some (.ref fa) →
      ∃ fd : FuncData, (∀ (s : Shared) (u : Value), BindsTo s fd ⟨[u], []⟩ [("script", u)]) ∧ ∀ base : Heap, (K w.params).In base → base.Ns mainGlobals mg → FnOk l.prog w (K w.params) mg base CX0 9 fa fd ["script"] (Fw.spLaw (K w.params))) :
    PySem.W.WalkO q loose XP YP l.row.toRowW d [] (fun f vs => PySem.call f vs) :=
  L2.walk_of (n := 63) (k := 9) (x := "script") (CX := fun _ => CX0) (sp := fun w => Fw.spLaw (K w.params)) hn (by decide) hdf ⟨rfl, by decide, by decide⟩ hY F (fun _ _ a ns hl _ hS => ⟨a, ns, rfl, hS, hl, fun _ => rfl⟩) fun _ _ _ _ _ z => z
end Lw
open PySem PySem.W PyProof.Rows in
set_option maxRecDepth 100000 in
set_option maxHeartbeats 0 in
theorem PySem.Challenge.cw_debtless_k15_whole_ranks_holds : PySem.Challenge.rw_debtless_k15_whole_ranks.Holds := by
  w_on; o_law; k_head; (case hw => w_witness2)
  k_fill
  refine Lw.walk (l := PySem.Challenge.rw_debtless_k15_whole_ranks) rfl rfl (fun w h Y => PySem.W.kIn_of Y) ?F
  case F =>
    intro w mg fa h KX G hmg
    refine' Lw.all_mk KX G hmg ?a1 ?l1 ?c1 ?k1 ?a2 ?l2 ?c2 ?k2 ?a3 ?l3 ?c3 ?k3 ?a4 ?l4 ?c4 ?k4 ?a5 ?l5 ?c5 ?k5 ?a6 ?l6 ?c6 ?k6 ?a7 ?l7 ?c7 ?k7 ?a8 ?l8 ?c8 ?k8 ?a9 ?l9 ?c9 ?k9 ?a10 ?l10 ?c10 ?k10 ?a11 ?l11 ?c11 ?k11 ?a12 ?l12 ?c12 ?k12 ?a13 ?l13 ?c13 ?k13 ?a14 ?l14 ?c14 ?k14 ?a15 ?l15 ?c15 ?k15 ?a16 ?l16 ?c16 ?k16 ?a17 ?l17 ?c17 ?k17 ?a18 ?l18 ?c18 ?k18 ?a19 ?l19 ?c19 ?k19 ?a20 ?l20 ?c20 ?k20 ?a21 ?l21 ?c21 ?k21 ?a22 ?l22 ?c22 ?k22 ?a23 ?l23 ?c23 ?k23 ?a24 ?l24 ?c24 ?k24 ?a25 ?l25 ?c25 ?k25 ?a26 ?l26 ?c26 ?k26 ?a27 ?l27 ?c27 ?k27 ?a28 ?l28 ?c28 ?k28 ?a29 ?l29 ?c29 ?k29 ?a30 ?l30 ?c30 ?k30 ?a31 ?l31 ?c31 ?k31 ?a32 ?l32 ?c32 ?k32 ?a33 ?l33 ?c33 ?k33 ?a34 ?l34 ?c34 ?k34 ?a35 ?l35 ?c35 ?k35 ?a36 ?l36 ?c36 ?k36 ?a37 ?l37 ?c37 ?k37 ?a38 ?l38 ?c38 ?k38 ?a39 ?l39 ?c39 ?k39 ?a40 ?l40 ?c40 ?k40 ?a41 ?l41 ?c41 ?k41 ?a42 ?l42 ?c42 ?k42 ?a43 ?l43 ?c43 ?k43 ?a44 ?l44 ?c44 ?k44 ?a45 ?l45 ?c45 ?k45 ?a46 ?l46 ?c46 ?k46 ?a47 ?l47 ?c47 ?k47 ?a48 ?l48 ?c48 ?k48 ?a49 ?l49 ?c49 ?k49 ?a50 ?l50 ?c50 ?k50 ?a51 ?l51 ?c51 ?k51 ?a52 ?l52 ?c52 ?k52 ?z_isinstance ?z_int ?z_bool ?z_tuple ?z_len ?z_range ?z_sorted ?z_all ?z_list ?z_abs ?z_sum ?z_min ?z_max ?c_MOST_COINS ?c_MOST_HOUSES ?c_MOST_RANK ?c_MOST_ROADS
    (case a1 => k_is)
    (case l1 => k_is)
    (case c1 => k_is)
    (case k1 => k_is)
    (case a2 => k_is)
    (case l2 => k_is)
    (case c2 => k_is)
    (case k2 => k_is)
    (case a3 => k_is)
    (case l3 => k_is)
    (case c3 => k_is)
    (case k3 => k_is)
    (case a4 => k_is)
    (case l4 => k_is)
    (case c4 => k_is)
    (case k4 => k_is)
    (case a5 => k_is)
    (case l5 => k_is)
    (case c5 => k_is)
    (case k5 => k_is)
    (case a6 => k_is)
    (case l6 => k_is)
    (case c6 => k_is)
    (case k6 => k_is)
    (case a7 => k_is)
    (case l7 => k_is)
    (case c7 => k_is)
    (case k7 => k_is)
    (case a8 => k_is)
    (case l8 => k_is)
    (case c8 => k_is)
    (case k8 => k_is)
    (case a9 => k_is)
    (case l9 => k_is)
    (case c9 => k_is)
    (case k9 => k_is)
    (case a10 => k_is)
    (case l10 => k_is)
    (case c10 => k_is)
    (case k10 => k_is)
    (case a11 => k_is)
    (case l11 => k_is)
    (case c11 => k_is)
    (case k11 => k_is)
    (case a12 => k_is)
    (case l12 => k_is)
    (case c12 => k_is)
    (case k12 => k_is)
    (case a13 => k_is)
    (case l13 => k_is)
    (case c13 => k_is)
    (case k13 => k_is)
    (case a14 => k_is)
    (case l14 => k_is)
    (case c14 => k_is)
    (case k14 => k_is)
    (case a15 => k_is)
    (case l15 => k_is)
    (case c15 => k_is)
    (case k15 => k_is)
    (case a16 => k_is)
    (case l16 => k_is)
    (case c16 => k_is)
    (case k16 => k_is)
    (case a17 => k_is)
    (case l17 => k_is)
    (case c17 => k_is)
    (case k17 => k_is)
    (case a18 => k_is)
    (case l18 => k_is)
    (case c18 => k_is)
    (case k18 => k_is)
    (case a19 => k_is)
    (case l19 => k_is)
    (case c19 => k_is)
    (case k19 => k_is)
    (case a20 => k_is)
    (case l20 => k_is)
    (case c20 => k_is)
    (case k20 => k_is)
    (case a21 => k_is)
    (case l21 => k_is)
    (case c21 => k_is)
    (case k21 => k_is)
    (case a22 => k_is)
    (case l22 => k_is)
    (case c22 => k_is)
    (case k22 => k_is)
    (case a23 => k_is)
    (case l23 => k_is)
    (case c23 => k_is)
    (case k23 => k_is)
    (case a24 => k_is)
    (case l24 => k_is)
    (case c24 => k_is)
    (case k24 => k_is)
    (case a25 => k_is)
    (case l25 => k_is)
    (case c25 => k_is)
    (case k25 => k_is)
    (case a26 => k_is)
    (case l26 => k_is)
    (case c26 => k_is)
    (case k26 => k_is)
    (case a27 => k_is)
    (case l27 => k_is)
    (case c27 => k_is)
    (case k27 => k_is)
    (case a28 => k_is)
    (case l28 => k_is)
    (case c28 => k_is)
    (case k28 => k_is)
    (case a29 => k_is)
    (case l29 => k_is)
    (case c29 => k_is)
    (case k29 => k_is)
    (case a30 => k_is)
    (case l30 => k_is)
    (case c30 => k_is)
    (case k30 => k_is)
    (case a31 => k_is)
    (case l31 => k_is)
    (case c31 => k_is)
    (case k31 => k_is)
    (case a32 => k_is)
    (case l32 => k_is)
    (case c32 => k_is)
    (case k32 => k_is)
    (case a33 => k_is)
    (case l33 => k_is)
    (case c33 => k_is)
    (case k33 => k_is)
    (case a34 => k_is)
    (case l34 => k_is)
    (case c34 => k_is)
    (case k34 => k_is)
    (case a35 => k_is)
    (case l35 => k_is)
    (case c35 => k_is)
    (case k35 => k_is)
    (case a36 => k_is)
    (case l36 => k_is)
    (case c36 => k_is)
    (case k36 => k_is)
    (case a37 => k_is)
    (case l37 => k_is)
    (case c37 => k_is)
    (case k37 => k_is)
    (case a38 => k_is)
    (case l38 => k_is)
    (case c38 => k_is)
    (case k38 => k_is)
    (case a39 => k_is)
    (case l39 => k_is)
    (case c39 => k_is)
    (case k39 => k_is)
    (case a40 => k_is)
    (case l40 => k_is)
    (case c40 => k_is)
    (case k40 => k_is)
    (case a41 => k_is)
    (case l41 => k_is)
    (case c41 => k_is)
    (case k41 => k_is)
    (case a42 => k_is)
    (case l42 => k_is)
    (case c42 => k_is)
    (case k42 => k_is)
    (case a43 => k_is)
    (case l43 => k_is)
    (case c43 => k_is)
    (case k43 => k_is)
    (case a44 => k_is)
    (case l44 => k_is)
    (case c44 => k_is)
    (case k44 => k_is)
    (case a45 => k_is)
    (case l45 => k_is)
    (case c45 => k_is)
    (case k45 => k_is)
    (case a46 => k_is)
    (case l46 => k_is)
    (case c46 => k_is)
    (case k46 => k_is)
    (case a47 => k_is)
    (case l47 => k_is)
    (case c47 => k_is)
    (case k47 => k_is)
    (case a48 => k_is)
    (case l48 => k_is)
    (case c48 => k_is)
    (case k48 => k_is)
    (case a49 => k_is)
    (case l49 => k_is)
    (case c49 => k_is)
    (case k49 => k_is)
    (case a50 => k_is)
    (case l50 => k_is)
    (case c50 => k_is)
    (case k50 => k_is)
    (case a51 => k_is)
    (case l51 => k_is)
    (case c51 => k_is)
    (case k51 => k_is)
    (case a52 => k_is)
    (case l52 => k_is)
    (case c52 => k_is)
    (case k52 => k_is)
    (case z_isinstance => k_is)
    (case z_int => k_is)
    (case z_bool => k_is)
    (case z_tuple => k_is)
    (case z_len => k_is)
    (case z_range => k_is)
    (case z_sorted => k_is)
    (case z_all => k_is)
    (case z_list => k_is)
    (case z_abs => k_is)
    (case z_sum => k_is)
    (case z_min => k_is)
    (case z_max => k_is)
    (case c_MOST_COINS => k_is)
    (case c_MOST_HOUSES => k_is)
    (case c_MOST_RANK => k_is)
    (case c_MOST_ROADS => k_is)
