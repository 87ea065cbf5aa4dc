import PyProof.Rows.All
import Wide.All
import OpenK.AllK
import Wide.FinOn
import HandS.ForMost
import HandS.Walk
import HandS.Exc
import HandS.ExcOwn
import HandS.TryOnly
import HandS.WordsExc
import HandS.Defaults
import HandS.HeadHook1
import HandS.TupAny
import HandS.Style
import HandS.Zip
import HandS.IsInst
import HandS.StrMore
import HandS.HeadEnd
import HandS.TupMul
import HandS.Small
import HandS.Deep
import HandS.Wide
import HandS.TupLe
import PyProof.NeData
import PyProof.EqKinds
import PyProof.DictUpdate
import KE.KRevSl
import PyProof.EnumIter
import HandS.HeadHook2
import HandS.HeadHook3
import PyProof.EnumMake
import PyProof.EnumStmt
import HandS.RaiseMore
import PySem.Challenge.RW_styleamid_k07_kinds_by_hand
import Lean
import HandS.Ends
import HandS.More
import HandS.Words
import HandS.Head0
import HandS.Head1
import HandS.Head2
import KE.KStateDown
import PyProof.ReprLen
set_option Elab.async false
set_option linter.all false
set_option maxRecDepth 100000
set_option maxHeartbeats 4000000
/-! Mn: a small language of values, stores and results over the hand layer; what a mirror of a Python text is worth. -/
namespace Mn
open PySem PySem.Spec PyProof.Rows L2

/-! ### values, stores, results -/
inductive D where
  | non
  | bl (b : Bool)
  | int (i : Int)
  | str (x : Str)
  | tup (ds : List D)
  | fls (ds : List D)
  | ref (n : Nat)
mutual
def D.beq : D → D → Bool
  | .non, .non => true
  | .bl a, .bl b => a == b
  | .int a, .int b => decide (a = b)
  | .str a, .str b => decide (a = b)
  | .tup a, .tup b => D.beqs a b
  | .fls a, .fls b => D.beqs a b
  | .ref a, .ref b => decide (a = b)
  | _, _ => false
def D.beqs : List D → List D → Bool
  | [], [] => true
  | a :: r, b :: s => D.beq a b && D.beqs r s
  | _, _ => false
end
mutual
theorem D.beq_eq : ∀ {a b : D}, D.beq a b = true → a = b
  | .non, b, h => by cases b <;> first | rfl | cases h
  | .bl x, b, h => by
    cases b with
    | bl y => exact congrArg D.bl (eq_of_beq h)
    | _ => cases h
  | .int x, b, h => by
    cases b with
    | int y => exact congrArg D.int (of_decide_eq_true h)
    | _ => cases h
  | .str x, b, h => by
    cases b with
    | str y => exact congrArg D.str (of_decide_eq_true h)
    | _ => cases h
  | .tup x, b, h => by
    cases b with
    | tup y => exact congrArg D.tup (D.beqs_eq h)
    | _ => cases h
  | .fls x, b, h => by
    cases b with
    | fls y => exact congrArg D.fls (D.beqs_eq h)
    | _ => cases h
  | .ref x, b, h => by
    cases b with
    | ref y => exact congrArg D.ref (of_decide_eq_true h)
    | _ => cases h
theorem D.beqs_eq : ∀ {a b : List D}, D.beqs a b = true → a = b
  | [], b, h => by
    cases b with
    | nil => rfl
    | cons _ _ => cases h
  | x :: r, b, h => by
    cases b with
    | nil => cases h
    | cons y s =>
      have h : (D.beq x y && D.beqs r s) = true := h
      rw [Bool.and_eq_true] at h
      rw [D.beq_eq h.1, D.beqs_eq h.2]
end
mutual
theorem D.beq_refl : ∀ a : D, D.beq a a = true
  | .non => rfl
  | .bl x => by show (x == x) = true; cases x <;> rfl
  | .int x => decide_eq_true rfl
  | .str x => decide_eq_true rfl
  | .tup x => D.beqs_refl x
  | .fls x => D.beqs_refl x
  | .ref x => decide_eq_true rfl
theorem D.beqs_refl : ∀ a : List D, D.beqs a a = true
  | [] => rfl
  | x :: r => by
    show (D.beq x x && D.beqs r r) = true
    rw [D.beq_refl x, D.beqs_refl r]
    rfl
end
instance : DecidableEq D := fun a b => decidable_of_iff (D.beq a b = true) ⟨D.beq_eq, fun h => h ▸ D.beq_refl a⟩
inductive Ob where
  | lst (ds : List D)
  | dct (kvs : List (Key × D))
  | ins (c : Str) (fs : List (Str × D))
  deriving DecidableEq
abbrev Sto := List Ob
abbrev En := List (Option D)
inductive Res (α : Type) where
  | ok (a : α) (S : Sto)
  | exc (c : Nat) (n : Option Nat) (S : Sto)
  | bad
def Res.bind {α β : Type} (r : Res α) (k : α → Sto → Res β) : Res β := match r with
  | .ok a S => k a S
  | .exc c n S => .exc c n S
  | .bad => .bad
inductive RS where
  | nx (ρ : En) (S : Sto)
  | rt (d : D) (S : Sto)
  | bk (ρ : En) (S : Sto)
  | ct (ρ : En) (S : Sto)
  | ex (c : Nat) (n : Option Nat) (ρ : En) (S : Sto)
  | bad
abbrev M := En → Sto → Res D
abbrev MA := En → Sto → Res (List D)
abbrev MT := En → Sto → Res Bool
abbrev MS := En → Sto → RS
abbrev F := List D → Sto → Res D

/-! ### what stands for what -/
structure Mo (H H' : Hp) : Prop where
  tup : ∀ b xs, H b = some (.tup xs) → H' b = some (.tup xs)
  frz : ∀ b o u, H b = some (.frz o u) → H' b = some (.frz o u)
theorem Mo.refl (H : Hp) : Mo H H := ⟨fun _ _ h => h, fun _ _ _ h => h⟩
theorem Mo.trans {H H1 H2 : Hp} (a : Mo H H1) (b : Mo H1 H2) : Mo H H2 := ⟨fun c xs h => b.tup c xs (a.tup c xs h), fun c o u h => b.frz c o u (a.frz c o u h)⟩
theorem Mo.new {H : Hp} {p : Addr} {o : HO} (h : H p = none) : Mo H (upd H p o) :=
  ⟨fun b xs e => by rw [upd_ne (ne_of_none e h)]; exact e, fun b ob u e => by rw [upd_ne (ne_of_none e h)]; exact e⟩
theorem Mo.put {H : Hp} {p : Addr} {o u : HO} (h : H p = some u) (h1 : ∀ xs, u ≠ .tup xs) (h2 : ∀ ob v, u ≠ .frz ob v) : Mo H (upd H p o) := by
  refine ⟨fun b xs e => ?_, fun b ob v e => ?_⟩
  · have n : b ≠ p := fun z => by
      rw [z, h] at e
      exact h1 xs (Option.some.inj e)
    rw [upd_ne n]
    exact e
  · have n : b ≠ p := fun z => by
      rw [z, h] at e
      exact h2 ob v (Option.some.inj e)
    rw [upd_ne n]
    exact e
section
variable {K : PySem.W.Frag} {H H' : Hp} {a : Addr} {xs : List V}
theorem Mo.sqT (m : Mo H H') (h : SqT K H a xs) : SqT K H' a xs := by
  rcases h with (h | ⟨o, h⟩) | h
  · exact .inl (.inl (m.tup _ _ h))
  · exact .inl (.inr ⟨o, m.frz _ _ _ h⟩)
  · exact .inr h
/-- a list that nobody can write -/
def FzL (K : PySem.W.Frag) (H : Hp) (a : Addr) (xs : List V) : Prop :=
  (∃ o, H a = some (.frz o (.lst xs))) ∨ ∃ (o : Obj) (its : Array Value) (n : Nat), K.lookup a = some o ∧ o.cls = .type "list" ∧ o.dict = none ∧ o.data = .seq its n ∧ its.size ≤ sizeLine ∧ Vals xs its.toList
theorem FzL.sq (h : FzL K H a xs) : SqL K H a xs := by
  rcases h with ⟨o, h⟩ | h
  · exact .inl (.inr ⟨o, h⟩)
  · exact .inr h
theorem Mo.fzL (m : Mo H H') (h : FzL K H a xs) : FzL K H' a xs := by
  rcases h with ⟨o, h⟩ | h
  · exact .inl ⟨o, m.frz _ _ _ h⟩
  · exact .inr h
end
mutual
def RD (K : PySem.W.Frag) (io : List Addr) (H : Hp) : D → V → Prop
  | .non, v => v = .non
  | .bl b, v => v = .bl b
  | .int i, v => v = .int i
  | .str x, v => v = .str x
  | .tup ds, v => ∃ a xs, v = .ref a ∧ SqT K H a xs ∧ RDs K io H ds xs
  | .fls ds, v => ∃ a xs, v = .ref a ∧ FzL K H a xs ∧ RDs K io H ds xs
  | .ref n, v => ∃ a, v = .ref a ∧ io[n]? = some a
def RDs (K : PySem.W.Frag) (io : List Addr) (H : Hp) : List D → List V → Prop
  | [], vs => vs = []
  | d :: ds, vs => ∃ v r, vs = v :: r ∧ RD K io H d v ∧ RDs K io H ds r
end
theorem pre_get {α : Type} {l l' : List α} (h : l <+: l') {n : Nat} {a : α} (e : l[n]? = some a) : l'[n]? = some a := by
  obtain ⟨t, rfl⟩ := h
  rw [List.getElem?_append_left (List.getElem?_eq_some_iff.mp e).1]
  exact e
section
variable {K : PySem.W.Frag} {io io' : List Addr} {H H' : Hp}
mutual
theorem RD.mono (p : io <+: io') (m : Mo H H') : ∀ {d : D} {v : V}, RD K io H d v → RD K io' H' d v
  | .non, _, h => h
  | .bl _, _, h => h
  | .int _, _, h => h
  | .str _, _, h => h
  | .tup _, _, ⟨a, xs, e, q, r⟩ => ⟨a, xs, e, m.sqT q, RDs.mono p m r⟩
  | .fls _, _, ⟨a, xs, e, q, r⟩ => ⟨a, xs, e, m.fzL q, RDs.mono p m r⟩
  | .ref _, _, ⟨a, e, q⟩ => ⟨a, e, pre_get p q⟩
theorem RDs.mono (p : io <+: io') (m : Mo H H') : ∀ {ds : List D} {vs : List V}, RDs K io H ds vs → RDs K io' H' ds vs
  | [], _, h => h
  | _ :: _, _, ⟨v, r, e, h1, h2⟩ => ⟨v, r, e, RD.mono p m h1, RDs.mono p m h2⟩
end
theorem RDs.length : ∀ {ds : List D} {vs : List V}, RDs K io H ds vs → vs.length = ds.length
  | [], _, h => by
    have h : _ = [] := h
    subst h
    rfl
  | _ :: _, _, ⟨v, r, e, _, h2⟩ => by
    subst e
    exact congrArg Nat.succ (RDs.length h2)
theorem RDs.get : ∀ {ds : List D} {vs : List V} {i : Nat} {d : D}, RDs K io H ds vs → ds[i]? = some d → ∃ v, vs[i]? = some v ∧ RD K io H d v
  | [], _, _, _, _, e => by simp at e
  | _ :: _, _, 0, _, ⟨v, r, e, h1, _⟩, q => by
    subst e
    have q : some _ = some _ := q
    injection q with q
    rw [← q]
    exact ⟨v, rfl, h1⟩
  | _ :: _, _, i + 1, _, ⟨v, r, e, _, h2⟩, q => by
    subst e
    obtain ⟨w, q1, q2⟩ := RDs.get (i := i) h2 (by simpa using q)
    exact ⟨w, by simpa using q1, q2⟩
theorem RDs.back : ∀ {ds : List D} {vs : List V} {i : Nat} {v : V}, RDs K io H ds vs → vs[i]? = some v → ∃ d, ds[i]? = some d ∧ RD K io H d v
  | [], _, _, _, h, e => by
    have h : _ = [] := h
    subst h
    simp at e
  | d :: _, _, 0, _, ⟨v, r, e, h1, _⟩, q => by
    subst e
    have q : some _ = some _ := q
    injection q with q
    rw [← q]
    exact ⟨d, rfl, h1⟩
  | _ :: _, _, i + 1, _, ⟨v, r, e, _, h2⟩, q => by
    subst e
    obtain ⟨w, q1, q2⟩ := RDs.back (i := i) h2 (by simpa using q)
    exact ⟨w, by simpa using q1, q2⟩
theorem RDs.append : ∀ {ds es : List D} {vs ws : List V}, RDs K io H ds vs → RDs K io H es ws → RDs K io H (ds ++ es) (vs ++ ws)
  | [], _, _, _, h, h' => by
    have h : _ = [] := h
    subst h
    exact h'
  | _ :: _, _, _, _, ⟨v, r, e, h1, h2⟩, h' => by
    subst e
    exact ⟨v, _, rfl, h1, RDs.append h2 h'⟩
theorem RDs.one {d : D} {v : V} (h : RD K io H d v) : RDs K io H [d] [v] := ⟨v, [], rfl, h, rfl⟩
theorem RDs.two {d e : D} {v w : V} (h : RD K io H d v) (h' : RD K io H e w) : RDs K io H [d, e] [v, w] := ⟨v, [w], rfl, h, RDs.one h'⟩
theorem RDs.drop : ∀ {ds : List D} {vs : List V} (n : Nat), RDs K io H ds vs → RDs K io H (ds.drop n) (vs.drop n)
  | _, _, 0, h => h
  | [], _, _ + 1, h => by
    have h : _ = [] := h
    subst h
    rfl
  | _ :: _, _, n + 1, ⟨v, r, e, _, h2⟩ => by
    subst e
    exact RDs.drop n h2
theorem RDs.take : ∀ {ds : List D} {vs : List V} (n : Nat), RDs K io H ds vs → RDs K io H (ds.take n) (vs.take n)
  | _, _, 0, _ => rfl
  | [], _, _ + 1, h => by
    have h : _ = [] := h
    subst h
    rfl
  | _ :: _, _, n + 1, ⟨v, r, e, h1, h2⟩ => by
    subst e
    exact ⟨v, _, rfl, h1, RDs.take n h2⟩
theorem RDs.reverse : ∀ {ds : List D} {vs : List V}, RDs K io H ds vs → RDs K io H ds.reverse vs.reverse
  | [], _, h => by
    have h : _ = [] := h
    subst h
    rfl
  | _ :: _, _, ⟨v, r, e, h1, h2⟩ => by
    subst e
    rw [List.reverse_cons, List.reverse_cons]
    exact RDs.append (RDs.reverse h2) (RDs.one h1)
theorem RDs.set {d : D} {v : V} (h : RD K io H d v) : ∀ {ds : List D} {vs : List V} (n : Nat), RDs K io H ds vs → RDs K io H (ds.set n d) (vs.set n v)
  | [], _, _, q => by
    have q : _ = [] := q
    subst q
    rfl
  | _ :: _, _, 0, ⟨w, r, e, _, h2⟩ => by
    subst e
    exact ⟨v, r, rfl, h, h2⟩
  | _ :: _, _, n + 1, ⟨w, r, e, h1, h2⟩ => by
    subst e
    exact ⟨w, _, rfl, h1, RDs.set h n h2⟩
theorem RDs.cons {d : D} {v : V} {ds : List D} {vs : List V} (h : RD K io H d v) (h' : RDs K io H ds vs) : RDs K io H (d :: ds) (v :: vs) := ⟨v, vs, rfl, h, h'⟩
theorem RDs.ints : ∀ {ns : List Int} {vs : List V}, RDs K io H (ns.map D.int) vs → vs = ns.map V.int
  | [], _, h => h
  | _ :: _, _, ⟨v, r, e, h1, h2⟩ => by
    subst e
    have h1 : v = _ := h1
    subst h1
    exact congrArg _ (RDs.ints h2)
theorem RDs.bls : ∀ {ns : List Bool} {vs : List V}, RDs K io H (ns.map D.bl) vs → vs = ns.map V.bl
  | [], _, h => h
  | _ :: _, _, ⟨v, r, e, h1, h2⟩ => by
    subst e
    have h1 : v = _ := h1
    subst h1
    exact congrArg _ (RDs.bls h2)
theorem RDs.strs : ∀ {ns : List Str} {vs : List V}, RDs K io H (ns.map D.str) vs → vs = ns.map V.str
  | [], _, h => h
  | _ :: _, _, ⟨v, r, e, h1, h2⟩ => by
    subst e
    have h1 : v = _ := h1
    subst h1
    exact congrArg _ (RDs.strs h2)
theorem RDs.of_ints : ∀ (ns : List Int), RDs K io H (ns.map D.int) (ns.map V.int)
  | [] => rfl
  | _ :: ns => ⟨_, _, rfl, rfl, RDs.of_ints ns⟩
theorem RDs.of_strs : ∀ (ns : List Str), RDs K io H (ns.map D.str) (ns.map V.str)
  | [] => rfl
  | _ :: ns => ⟨_, _, rfl, rfl, RDs.of_strs ns⟩
end
/-- keys and values -/
def RKs (K : PySem.W.Frag) (io : List Addr) (H : Hp) : List (Key × D) → List (Key × V) → Prop
  | [], ws => ws = []
  | (k, d) :: r, ws => ∃ v t, ws = (k, v) :: t ∧ RD K io H d v ∧ RKs K io H r t
theorem RKs.mono {K : PySem.W.Frag} {io io' : List Addr} {H H' : Hp} (p : io <+: io') (m : Mo H H') : ∀ {ds : List (Key × D)} {vs : List (Key × V)}, RKs K io H ds vs → RKs K io' H' ds vs
  | [], _, h => h
  | _ :: _, _, ⟨v, r, e, h1, h2⟩ => ⟨v, r, e, RD.mono p m h1, RKs.mono p m h2⟩
/-- attributes and values -/
def RFs (K : PySem.W.Frag) (io : List Addr) (H : Hp) : List (Str × D) → List (Str × V) → Prop
  | [], ws => ws = []
  | (k, d) :: r, ws => ∃ v t, ws = (k, v) :: t ∧ RD K io H d v ∧ RFs K io H r t
theorem RFs.mono {K : PySem.W.Frag} {io io' : List Addr} {H H' : Hp} (p : io <+: io') (m : Mo H H') : ∀ {ds : List (Str × D)} {vs : List (Str × V)}, RFs K io H ds vs → RFs K io' H' ds vs
  | [], _, h => h
  | _ :: _, _, ⟨v, r, e, h1, h2⟩ => ⟨v, r, e, RD.mono p m h1, RFs.mono p m h2⟩
theorem RFs.length {K : PySem.W.Frag} {io : List Addr} {H : Hp} : ∀ {ds : List (Str × D)} {vs : List (Str × V)}, RFs K io H ds vs → vs.length = ds.length
  | [], _, h => by
    have h : _ = [] := h
    subst h
    rfl
  | _ :: _, _, ⟨v, r, e, _, h2⟩ => by
    subst e
    exact congrArg Nat.succ (RFs.length h2)
theorem RFs.look {K : PySem.W.Frag} {io : List Addr} {H : Hp} {f : Str} : ∀ {ds : List (Str × D)} {vs : List (Str × V)}, RFs K io H ds vs → (∀ d, ds.lookup f = some d → ∃ v, vs.lookup f = some v ∧ RD K io H d v) ∧ (ds.lookup f = none → vs.lookup f = none)
  | [], _, h => by
    have h : _ = [] := h
    subst h
    exact ⟨fun d e => (by cases e), fun _ => rfl⟩
  | (k, d) :: r, _, ⟨v, t, e, h1, h2⟩ => by
    subst e
    have ih := RFs.look (f := f) h2
    simp only [List.lookup]
    cases h : (f == k) with
    | true => exact ⟨fun d1 e => (by cases e; exact ⟨v, rfl, h1⟩), fun e => (by cases e)⟩
    | false => exact ih
/-- the attribute f is set -/
def putFD (f : Str) (d : D) : List (Str × D) → List (Str × D)
  | [] => [(f, d)]
  | (g, x) :: r => if g = f then (g, d) :: r else (g, x) :: putFD f d r
theorem RFs.put {K : PySem.W.Frag} {io : List Addr} {H : Hp} {f : Str} {d : D} {v : V} (h : RD K io H d v) : ∀ {ds : List (Str × D)} {vs : List (Str × V)}, RFs K io H ds vs → RFs K io H (putFD f d ds) (putF f v vs)
  | [], _, q => by
    have q : _ = [] := q
    subst q
    exact ⟨v, [], rfl, h, rfl⟩
  | (k, x) :: r, _, ⟨w, t, e, h1, h2⟩ => by
    subst e
    show RFs K io H (if k = f then (k, d) :: r else (k, x) :: putFD f d r) (if k = f then (k, v) :: t else (k, w) :: putF f v t)
    by_cases z : k = f
    · rw [if_pos z, if_pos z]
      exact ⟨v, t, rfl, h, h2⟩
    · rw [if_neg z, if_neg z]
      exact ⟨w, _, rfl, h1, RFs.put h h2⟩
def ObR (K : PySem.W.Frag) (io : List Addr) (H : Hp) (a : Addr) : Ob → Prop
  | .lst ds => ∃ xs, H a = some (.lst xs) ∧ RDs K io H ds xs
  | .dct kvs => ∃ ws, H a = some (.dK ws) ∧ RKs K io H kvs ws
  | .ins c fs => ∃ dx ws, H a = some (.ins (He.ga K c) dx ws) ∧ RFs K io H fs ws
structure Rep (K : PySem.W.Frag) (io : List Addr) (S : Sto) (H : Hp) : Prop where
  len : io.length = S.length
  nd : ∀ (i j : Nat) (a : Addr), io[i]? = some a → io[j]? = some a → i = j
  ob : ∀ (n : Nat) (o : Ob) (a : Addr), S[n]? = some o → io[n]? = some a → ObR K io H a o
section
variable {K : PySem.W.Frag} {io io' : List Addr} {H H' : Hp} {S : Sto}
theorem ObR.there {a : Addr} {o : Ob} (h : ObR K io H a o) : ∃ u, H a = some u ∧ (∀ xs, u ≠ .tup xs) ∧ ∀ ob v, u ≠ .frz ob v := by
  cases o with
  | lst ds =>
    obtain ⟨xs, e, _⟩ := h
    exact ⟨_, e, (fun _ z => by cases z), (fun _ _ z => by cases z)⟩
  | dct kvs =>
    obtain ⟨xs, e, _⟩ := h
    exact ⟨_, e, (fun _ z => by cases z), (fun _ _ z => by cases z)⟩
  | ins c fs =>
    obtain ⟨dx, xs, e, _⟩ := h
    exact ⟨_, e, (fun _ z => by cases z), (fun _ _ z => by cases z)⟩
theorem ObR.keep {a : Addr} {o : Ob} (h : ObR K io H a o) (p : io <+: io') (m : Mo H H') (e : H' a = H a) : ObR K io' H' a o := by
  cases o with
  | lst ds =>
    obtain ⟨xs, q, r⟩ := h
    exact ⟨xs, e.trans q, r.mono p m⟩
  | dct kvs =>
    obtain ⟨xs, q, r⟩ := h
    exact ⟨xs, e.trans q, r.mono p m⟩
  | ins c fs =>
    obtain ⟨dx, xs, q, r⟩ := h
    exact ⟨dx, xs, e.trans q, r.mono p m⟩
theorem Rep.at_ (R : Rep K io S H) {n : Nat} {o : Ob} (h : S[n]? = some o) : ∃ a, io[n]? = some a ∧ ObR K io H a o := by
  have hn : n < io.length := by
    rw [R.len]
    exact (List.getElem?_eq_some_iff.mp h).1
  exact ⟨io[n], by simp [hn], R.ob n o _ h (by simp [hn])⟩
/-- something new that no place of the store is -/
theorem Rep.tup (R : Rep K io S H) {p : Addr} {o : HO} (h : H p = none) : Rep K io S (upd H p o) := by
  refine ⟨R.len, R.nd, fun n ob a e1 e2 => ?_⟩
  have q := R.ob n ob a e1 e2
  obtain ⟨u, hu, _⟩ := q.there
  exact q.keep (List.prefix_rfl) (Mo.new h) (upd_ne (ne_of_none hu h))
/-- a new object of the store -/
theorem Rep.new (R : Rep K io S H) {p : Addr} {o : HO} {ob : Ob} (h : H p = none) (ho : ObR K (io ++ [p]) (upd H p o) p ob) : Rep K (io ++ [p]) (S ++ [ob]) (upd H p o) := by
  have np : ∀ n a, io[n]? = some a → a ≠ p := fun n a e z => by
    have hn : n < S.length := by
      rw [← R.len]
      exact (List.getElem?_eq_some_iff.mp e).1
    obtain ⟨u, hu, _⟩ := (R.ob n _ a (List.getElem?_eq_getElem hn) e).there
    rw [z, h] at hu
    cases hu
  have sp : ∀ {n a}, (io ++ [p])[n]? = some a → (io[n]? = some a) ∨ (n = io.length ∧ a = p) := fun {n a} e => by
    by_cases hn : n < io.length
    · rw [List.getElem?_append_left hn] at e
      exact .inl e
    · rw [List.getElem?_append_right (by omega)] at e
      have hz : n - io.length = 0 := by
        have := (List.getElem?_eq_some_iff.mp e).1
        simp at this
        omega
      rw [hz] at e
      exact .inr ⟨by omega, by simpa using e.symm⟩
  refine ⟨by rw [List.length_append, List.length_append, R.len]; rfl, fun i j a e1 e2 => ?_, fun n o' a e1 e2 => ?_⟩
  · rcases sp e1 with q1 | ⟨q1, z1⟩
    · rcases sp e2 with q2 | ⟨q2, z2⟩
      · exact R.nd i j a q1 q2
      · exact absurd z2 (np i a q1)
    · rcases sp e2 with q2 | ⟨q2, z2⟩
      · exact absurd z1 (np j a q2)
      · omega
  · rcases sp e2 with q | ⟨q, z⟩
    · have hn : n < S.length := by
        rw [← R.len]
        exact (List.getElem?_eq_some_iff.mp q).1
      rw [List.getElem?_append_left hn] at e1
      exact (R.ob n o' a e1 q).keep (List.prefix_append _ _) (Mo.new h) (upd_ne (np n a q))
    · rw [List.getElem?_append_right (by rw [q, R.len]; exact Nat.le_refl _)] at e1
      have hz : n - S.length = 0 := by rw [q, R.len]; omega
      rw [hz] at e1
      have eo : ob = o' := by simpa using e1
      rw [z, ← eo]
      exact ho
/-- an object of the store is written -/
theorem Rep.put (R : Rep K io S H) {n : Nat} {a : Addr} {o : HO} {ob u : Ob} (hs : S[n]? = some u) (ha : io[n]? = some a) (ho : Mo H (upd H a o) → ObR K io (upd H a o) a ob) : Mo H (upd H a o) ∧ Rep K io (S.set n ob) (upd H a o) := by
  obtain ⟨x, hx, x1, x2⟩ := (R.ob n u a hs ha).there
  have m : Mo H (upd H a o) := Mo.put hx x1 x2
  refine ⟨m, by rw [List.length_set]; exact R.len, R.nd, fun j o' b e1 e2 => ?_⟩
  by_cases hj : n = j
  · subst hj
    have hn := (List.getElem?_eq_some_iff.mp hs).1
    rw [List.getElem?_set_self hn] at e1
    have eo : ob = o' := Option.some.inj e1
    have eb : a = b := by
      rw [ha] at e2
      exact Option.some.inj e2
    rw [← eo, ← eb]
    exact ho m
  · rw [List.getElem?_set_ne hj] at e1
    have hb : b ≠ a := fun z => hj (R.nd n j a ha (z ▸ e2))
    exact (R.ob j o' b e1 e2).keep (List.prefix_rfl) m (upd_ne hb)
end
def RE (K : PySem.W.Frag) (io : List Addr) (H : Hp) (ρ : En) (σ : L2.St) : Prop :=
  ρ.length = σ.length ∧ ∀ (i : Nat) (d : D), ρ[i]? = some (some d) → ∃ v, σ[i]? = some (some v) ∧ RD K io H d v
theorem RE.mono {K : PySem.W.Frag} {io io' : List Addr} {H H' : Hp} {ρ : En} {σ : L2.St} (p : io <+: io') (m : Mo H H') (h : RE K io H ρ σ) : RE K io' H' ρ σ :=
  ⟨h.1, fun i d e => let ⟨v, q, r⟩ := h.2 i d e; ⟨v, q, r.mono p m⟩⟩
theorem RE.set {K : PySem.W.Frag} {io : List Addr} {H : Hp} {ρ : En} {σ : L2.St} {d : D} {v : V} (i : Nat) (h : RE K io H ρ σ) (r : RD K io H d v) : RE K io H (ρ.set i (some d)) (σ.set i (some v)) := by
  refine ⟨by rw [List.length_set, List.length_set]; exact h.1, fun j e q => ?_⟩
  by_cases hj : i = j
  · subst hj
    by_cases hi : i < ρ.length
    · rw [List.getElem?_set_self hi] at q
      cases q
      exact ⟨v, List.getElem?_set_self (by rw [← h.1]; exact hi), r⟩
    · rw [List.getElem?_eq_none (by rw [List.length_set]; omega)] at q
      cases q
  · rw [List.getElem?_set_ne hj] at q
    rw [List.getElem?_set_ne hj]
    exact h.2 j e q

/-! ### what is wanted behind a result -/
structure Cn where
  cl : Nat → Value
  W : WX
/-- rel: what the result stands for -/
def Po {α β : Type} (K : PySem.W.Frag) (rel : List Addr → Hp → α → β → Prop) (cl : Nat → Value) (W : Value → Option Addr → Hp → Prop) (io : List Addr) (H : Hp) (r : Res α) (Q : β → Hp → Prop) : Prop := match r with
  | .ok a S => ∀ io' H' b, io <+: io' → Mo H H' → Rep K io' S H' → rel io' H' a b → Q b H'
  | .exc c n S => ∀ io' H' (e : Option Addr), io <+: io' → Mo H H' → Rep K io' S H' → (match n with | some n => ∃ a, e = some a ∧ io'[n]? = some a | none => e = none) → W (cl c) e H'
  | .bad => False
section
variable {α β : Type} {K : PySem.W.Frag} {rel : List Addr → Hp → α → β → Prop} {cl : Nat → Value} {W : Value → Option Addr → Hp → Prop} {io io' : List Addr} {H H' : Hp} {r : Res α} {Q Q' : β → Hp → Prop}
theorem Po.mono (p : io <+: io') (m : Mo H H') (h : Po K rel cl W io H r Q) : Po K rel cl W io' H' r Q := by
  cases r with
  | ok a S => exact fun io2 H2 b p2 m2 => h io2 H2 b (p.trans p2) (m.trans m2)
  | exc c n S => exact fun io2 H2 e p2 m2 => h io2 H2 e (p.trans p2) (m.trans m2)
  | bad => exact h
/-- the rest is known to go on from any later state -/
theorem Po.imp {γ : Type} {relg : List Addr → Hp → γ → β → Prop} {s : Res γ} {Q : β → Hp → Prop} {k : γ → Sto → Res α} {δ : Type} {reld : List Addr → Hp → α → δ → Prop} {Qd : δ → Hp → Prop} (h : Po K reld cl W io H (s.bind k) Qd)
    (hk : ∀ g S io' H' b, s = .ok g S → io <+: io' → Mo H H' → Rep K io' S H' → relg io' H' g b → Po K reld cl W io' H' (k g S) Qd → Q b H') : Po K relg cl W io H s Q := by
  cases s with
  | ok g S => exact fun io' H' b p m R q => hk g S io' H' b rfl p m R q (Po.mono p m h)
  | exc c n S => exact h
  | bad => exact h
theorem Po.fin {S : Sto} {a : α} {b : β} (h : Po K rel cl W io H (.ok a S) Q) (R : Rep K io S H) (q : rel io H a b) : Q b H := h io H b (List.prefix_rfl) (Mo.refl H) R q
theorem Po.finP {S : Sto} {a : α} {b : β} (h : Po K rel cl W io H (.ok a S) Q) (p : io <+: io') (m : Mo H H') (R : Rep K io' S H') (q : rel io' H' a b) : Q b H' := h io' H' b p m R q
end
abbrev rD (K : PySem.W.Frag) : List Addr → Hp → D → V → Prop := fun io H d v => RD K io H d v
abbrev rDs (K : PySem.W.Frag) : List Addr → Hp → List D → List V → Prop := fun io H d v => RDs K io H d v
abbrev rB : List Addr → Hp → Bool → Bool → Prop := fun _ _ d v => d = v

/-! ### readings -/
def rdE (K : PySem.W.Frag) (C : Cn) (m : M) : TE := fun σ H Q => ∃ io ρ S, Rep K io S H ∧ RE K io H ρ σ ∧ Po K (rD K) C.cl (fun c d H' => C.W c d σ H') io H (m ρ S) Q
def rdA (K : PySem.W.Frag) (C : Cn) (m : MA) : TA := fun σ H Q => ∃ io ρ S, Rep K io S H ∧ RE K io H ρ σ ∧ Po K (rDs K) C.cl (fun c d H' => C.W c d σ H') io H (m ρ S) Q
def rdT (K : PySem.W.Frag) (C : Cn) (m : MT) : TT := fun σ H Q => ∃ io ρ S, Rep K io S H ∧ RE K io H ρ σ ∧ Po K rB C.cl (fun c d H' => C.W c d σ H') io H (m ρ S) Q
def PoS (K : PySem.W.Frag) (C : Cn) (io : List Addr) (H : Hp) (r : RS) (E : Ends) : Prop := match r with
  | .nx ρ S => ∀ io' H' σ', io <+: io' → Mo H H' → Rep K io' S H' → RE K io' H' ρ σ' → E.nx σ' H'
  | .rt d S => ∀ io' H' v, io <+: io' → Mo H H' → Rep K io' S H' → RD K io' H' d v → E.rt v H'
  | .bk ρ S => ∀ io' H' σ', io <+: io' → Mo H H' → Rep K io' S H' → RE K io' H' ρ σ' → E.bk σ' H'
  | .ct ρ S => ∀ io' H' σ', io <+: io' → Mo H H' → Rep K io' S H' → RE K io' H' ρ σ' → E.ct σ' H'
  | .ex c n ρ S => ∀ io' H' σ' (e : Option Addr), io <+: io' → Mo H H' → Rep K io' S H' → RE K io' H' ρ σ' → (match n with | some n => ∃ a, e = some a ∧ io'[n]? = some a | none => e = none) → C.W (C.cl c) e σ' H'
  | .bad => False
theorem PoS.mono {K : PySem.W.Frag} {C : Cn} {io io' : List Addr} {H H' : Hp} {r : RS} {E : Ends} (p : io <+: io') (m : Mo H H') (h : PoS K C io H r E) : PoS K C io' H' r E := by
  cases r with
  | nx ρ S => exact fun io2 H2 s p2 m2 => h io2 H2 s (p.trans p2) (m.trans m2)
  | rt ρ S => exact fun io2 H2 s p2 m2 => h io2 H2 s (p.trans p2) (m.trans m2)
  | bk ρ S => exact fun io2 H2 s p2 m2 => h io2 H2 s (p.trans p2) (m.trans m2)
  | ct ρ S => exact fun io2 H2 s p2 m2 => h io2 H2 s (p.trans p2) (m.trans m2)
  | ex c n ρ S => exact fun io2 H2 s e p2 m2 => h io2 H2 s e (p.trans p2) (m.trans m2)
  | bad => exact h
def rdS (K : PySem.W.Frag) (C : Cn) (m : MS) : TS := fun E σ H => ∃ io ρ S, Rep K io S H ∧ RE K io H ρ σ ∧ PoS K C io H (m ρ S) E
abbrev QE (X : Cx) (C : Cn) (e : Expr) (m : M) : Prop := PE X e (rdE X.K C m)
abbrev QA (X : Cx) (C : Cn) (es : List Expr) (m : MA) : Prop := PA X es (rdA X.K C m)
abbrev QT (X : Cx) (C : Cn) (e : Expr) (m : MT) : Prop := PT X e (rdT X.K C m)
abbrev QS (X : Cx) (C : Cn) (st : Stmt) (m : MS) : Prop := PS X st (rdS X.K C m)
abbrev QSs (X : Cx) (C : Cn) (st : List Stmt) (m : MS) : Prop := PSs X st (rdS X.K C m)
section
variable {X : Cx} {C : Cn}
theorem PE_imp {e : Expr} {t t' : TE} (h : PE X e t) (hi : ∀ σ H Q, t' σ H Q → t σ H Q) : PE X e t' := ⟨fun pins s σ H Q I q => h.run pins s σ H Q I (hi σ H Q q)⟩
theorem PA_imp {e : List Expr} {t t' : TA} (h : PA X e t) (hi : ∀ σ H Q, t' σ H Q → t σ H Q) : PA X e t' := ⟨fun pos pins s σ H Q I q => h.run pos pins s σ H Q I (hi σ H Q q)⟩
theorem PT_imp {e : Expr} {t t' : TT} (h : PT X e t) (hi : ∀ σ H Q, t' σ H Q → t σ H Q) : PT X e t' := ⟨fun pins s σ H Q I q => h.run pins s σ H Q I (hi σ H Q q)⟩
theorem PS_imp {e : Stmt} {t t' : TS} (h : PS X e t) (hi : ∀ E σ H, t' E σ H → t E σ H) : PS X e t' := ⟨fun pins s σ H E I q => h.run pins s σ H E I (hi E σ H q)⟩
theorem PSs_imp {e : List Stmt} {t t' : TS} (h : PSs X e t) (hi : ∀ E σ H, t' E σ H → t E σ H) : PSs X e t' := ⟨fun pins s σ H E I q => h.run pins s σ H E I (hi E σ H q)⟩
theorem PW_imp {e : Expr} {t t' : TT} (h : PW X e t) (hi : ∀ σ H Q, t' σ H Q → t σ H Q) : PW X e t' := ⟨fun wh pins s σ H Q I q => h.run wh pins s σ H Q I (hi σ H Q q)⟩
/-- one expression, then the rest -/
theorem rdE_step {K : PySem.W.Frag} {β δ : Type} {m : M} {k : D → Sto → Res β} {rel : List Addr → Hp → β → δ → Prop} {io : List Addr} {ρ : En} {S : Sto} {σ : L2.St} {H : Hp} {Qd : δ → Hp → Prop} {Q : VK} (R : Rep K io S H) (re : RE K io H ρ σ)
    (h : Po K rel C.cl (fun c d H' => C.W c d σ H') io H ((m ρ S).bind k) Qd)
    (hk : ∀ d S1 io1 H1 v, io <+: io1 → Mo H H1 → Rep K io1 S1 H1 → RE K io1 H1 ρ σ → RD K io1 H1 d v → Po K rel C.cl (fun c d H' => C.W c d σ H') io1 H1 (k d S1) Qd → Q v H1) : rdE K C m σ H Q :=
  ⟨io, ρ, S, R, re, Po.imp (relg := rD K) h fun d S1 io1 H1 v _ p mo R1 q h1 => hk d S1 io1 H1 v p mo R1 (re.mono p mo) q h1⟩
theorem rdA_step {K : PySem.W.Frag} {β δ : Type} {m : MA} {k : List D → Sto → Res β} {rel : List Addr → Hp → β → δ → Prop} {io : List Addr} {ρ : En} {S : Sto} {σ : L2.St} {H : Hp} {Qd : δ → Hp → Prop} {Q : List V → Hp → Prop} (R : Rep K io S H) (re : RE K io H ρ σ)
    (h : Po K rel C.cl (fun c d H' => C.W c d σ H') io H ((m ρ S).bind k) Qd)
    (hk : ∀ d S1 io1 H1 v, io <+: io1 → Mo H H1 → Rep K io1 S1 H1 → RE K io1 H1 ρ σ → RDs K io1 H1 d v → Po K rel C.cl (fun c d H' => C.W c d σ H') io1 H1 (k d S1) Qd → Q v H1) : rdA K C m σ H Q :=
  ⟨io, ρ, S, R, re, Po.imp (relg := rDs K) h fun d S1 io1 H1 v _ p mo R1 q h1 => hk d S1 io1 H1 v p mo R1 (re.mono p mo) q h1⟩
theorem rdT_step {K : PySem.W.Frag} {β δ : Type} {m : MT} {k : Bool → Sto → Res β} {rel : List Addr → Hp → β → δ → Prop} {io : List Addr} {ρ : En} {S : Sto} {σ : L2.St} {H : Hp} {Qd : δ → Hp → Prop} {Q : Bool → Hp → Prop} (R : Rep K io S H) (re : RE K io H ρ σ)
    (h : Po K rel C.cl (fun c d H' => C.W c d σ H') io H ((m ρ S).bind k) Qd)
    (hk : ∀ b S1 io1 H1, io <+: io1 → Mo H H1 → Rep K io1 S1 H1 → RE K io1 H1 ρ σ → Po K rel C.cl (fun c d H' => C.W c d σ H') io1 H1 (k b S1) Qd → Q b H1) : rdT K C m σ H Q :=
  ⟨io, ρ, S, R, re, Po.imp (relg := rB) h fun d S1 io1 H1 v _ p mo R1 q h1 => by
    have q : d = v := q
    subst q
    exact hk d S1 io1 H1 p mo R1 (re.mono p mo) h1⟩
end
end Mn

set_option Elab.async false
set_option linter.all false
set_option maxRecDepth 100000
set_option maxHeartbeats 4000000
namespace Mn
open PySem PySem.Spec PyProof.Rows L2

/-! ### names, constants -/
def mVar (i : Nat) : M := fun ρ S => match ρ[i]? with
  | some (some d) => .ok d S
  | _ => .bad
def mC (d : D) : M := fun _ S => .ok d S
section
variable {X : Cx} {C : Cn}
theorem qe_var (i : Nat) {x : Str} {pos : Pos} (hN : X.N[i]? = some x := by rfl) (hv : Vis X.env.scope x := by first | exact Or.inl rfl | exact Or.inr (Or.inl rfl) | exact Or.inr (Or.inr rfl)) (hd : (x == ("__debug__" : Str)) = false := by decide)
    (hcd : (x == ("__classdict__" : Str)) = false := by decide) : QE X C (.Name x pos) (mVar i) := by
  refine PE_imp (pe_var hN hv hd hcd) ?_
  rintro σ H Q ⟨io, ρ, S, R, re, h⟩
  unfold mVar at h
  split at h
  · rename_i d e
    obtain ⟨v, q, r⟩ := re.2 i d e
    exact ⟨v, q, h.fin R r⟩
  · exact h.elim
theorem qe_c {e : Expr} {d : D} {v : V} (h : PE X e (tC v)) (r : ∀ io H, RD X.K io H d v) : QE X C e (mC d) := by
  refine PE_imp h ?_
  rintro σ H Q ⟨io, ρ, S, R, re, h⟩
  exact h.fin R (r io H)
theorem qe_int {i j pos} : QE X C (.Constant (.int i) j pos) (mC (.int i)) := qe_c pe_int fun _ _ => rfl
theorem qe_bl {b j pos} : QE X C (.Constant (.bool b) j pos) (mC (.bl b)) := qe_c pe_bl fun _ _ => rfl
theorem qe_non {j pos} : QE X C (.Constant .none j pos) (mC .non) := qe_c pe_non fun _ _ => rfl
theorem qe_str {x j pos} : QE X C (.Constant (.str x) j pos) (mC (.str x)) := qe_c pe_str fun _ _ => rfl
/-- a constant of the module: what its value stands for is told by K alone -/
def KD (K : PySem.W.Frag) (d : D) (u : Value) : Prop := ∃ v, RelV v u ∧ ∀ io H, RD K io H d v
theorem qe_glob {x : Str} {d : D} {u : Value} {pos : Pos} (hg : Gl X x) (hm : X.mg x = some u) (k : KD X.K d u) (hd : (x == ("__debug__" : Str)) = false := by decide) : QE X C (.Name x pos) (mC d) := by
  obtain ⟨v, r, q⟩ := k
  exact qe_c (pe_glob hg hm r hd) q
end

/-! ### operators by values -/
def mBin (f : D → D → Sto → Res D) (a b : M) : M := fun ρ S => (a ρ S).bind fun x S => (b ρ S).bind fun y S => f x y S
def mUn (f : D → Sto → Res D) (a : M) : M := fun ρ S => (a ρ S).bind fun x S => f x S
def rd2 (K : PySem.W.Frag) (f : D → D → Sto → Res D) : R2 := fun x y H Q => ∃ cl W io S d e, Rep K io S H ∧ RD K io H d x ∧ RD K io H e y ∧ Po K (rD K) cl W io H (f d e S) Q
def rd1 (K : PySem.W.Frag) (f : D → Sto → Res D) : V → Hp → VK → Prop := fun x H Q => ∃ cl W io S d, Rep K io S H ∧ RD K io H d x ∧ Po K (rD K) cl W io H (f d S) Q
abbrev OpS (X : Cx) (g : Value → Value → Sem Value) (f : D → D → Sto → Res D) : Prop := OpR X g (rd2 X.K f)
theorem rd_bin {K : PySem.W.Frag} {C : Cn} {f : D → D → Sto → Res D} {a b : M} {σ : L2.St} {H : Hp} {Q : VK} (h : rdE K C (mBin f a b) σ H Q) : tOp (rd2 K f) (rdE K C a) (rdE K C b) σ H Q := by
  obtain ⟨io, ρ, S, R, re, h⟩ := h
  refine rdE_step R re h fun d S1 io1 H1 v p1 m1 R1 re1 q1 h1 => ?_
  refine rdE_step R1 re1 h1 fun e S2 io2 H2 w p2 m2 R2 re2 q2 h2 => ?_
  exact ⟨_, _, io2, S2, d, e, R2, q1.mono p2 m2, q2, h2⟩
section
variable {X : Cx} {C : Cn} {a b : Expr} {ma mb : M} {pos : Pos}
theorem qe_bin {op : Operator} {f : D → D → Sto → Res D} (ho : OpS X (binaryOp op) f) (ha : QE X C a ma) (hb : QE X C b mb) : QE X C (.BinOp a op b pos) (mBin f ma mb) :=
  PE_imp (pe_op ho ha hb) fun _ _ _ h => rd_bin h
theorem qe_cmp {op : CmpOp} {f : D → D → Sto → Res D} (ho : OpS X (compareOp op) f) (ha : QE X C a ma) (hb : QE X C b mb) (hm : behindInMarks op b = false := by first | exact nomark _ (by decide) (by decide) | rfl) : QE X C (.Compare a [op] [b] pos) (mBin f ma mb) :=
  PE_imp (pe_cmpR ho ha hb hm) fun _ _ _ h => rd_bin h
theorem qe_un {op : UnaryOp} {f : D → Sto → Res D} (ho : UnR X (unaryOp op) (rd1 X.K f)) (ha : QE X C a ma) : QE X C (.UnaryOp op a pos) (mUn f ma) := by
  refine PE_imp (pe_un ho ha) ?_
  rintro σ H Q ⟨io, ρ, S, R, re, h⟩
  refine rdE_step R re h fun d S1 io1 H1 v p1 m1 R1 re1 q1 h1 => ?_
  exact ⟨_, _, io1, S1, d, R1, q1, h1⟩
theorem OpS.or {g : Value → Value → Sem Value} {f f1 f2 : D → D → Sto → Res D} (h1 : OpS X g f1) (h2 : OpS X g f2) (h : ∀ x y S, f x y S = f1 x y S ∨ f x y S = f2 x y S ∨ f x y S = .bad) : OpS X g f := by
  intro pins s σ H x y v u Q I rx ry q
  obtain ⟨cl, W, io, S, d, e, R, q1, q2, z⟩ := q
  rcases h d e S with hh | hh | hh
  · exact h1 pins s σ H x y v u Q I rx ry ⟨cl, W, io, S, d, e, R, q1, q2, hh ▸ z⟩
  · exact h2 pins s σ H x y v u Q I rx ry ⟨cl, W, io, S, d, e, R, q1, q2, hh ▸ z⟩
  · rw [hh] at z
    exact z.elim
/-- from a rule of the layer -/
theorem OpS.of {g : Value → Value → Sem Value} {r : R2} {f : D → D → Sto → Res D} (h : OpR X g r)
    (hi : ∀ cl W io S d e x y H Q, Rep X.K io S H → RD X.K io H d x → RD X.K io H e y → Po X.K (rD X.K) cl W io H (f d e S) Q → r x y H Q) : OpS X g f := by
  intro pins s σ H x y v u Q I rx ry q
  obtain ⟨cl, W, io, S, d, e, R, q1, q2, z⟩ := q
  exact h pins s σ H x y v u Q I rx ry (hi cl W io S d e x y H Q R q1 q2 z)
end
/-- two ints -/
def fI (c : Int → Int → Bool) (g : Int → Int → D) : D → D → Sto → Res D := fun x y S => match x, y with
  | .int i, .int j => if c i j = true then .ok (g i j) S else .bad
  | _, _ => .bad
section
variable {K : PySem.W.Frag} {cl : Nat → Value} {W : Value → Option Addr → Hp → Prop} {io : List Addr} {H : Hp} {S : Sto} {d e : D} {x y : V} {Q : VK}
theorem fI_inv {c : Int → Int → Bool} {g : Int → Int → D} (R : Rep K io S H) (q1 : RD K io H d x) (q2 : RD K io H e y) (h : Po K (rD K) cl W io H (fI c g d e S) Q) :
    ∃ i j, x = .int i ∧ y = .int j ∧ c i j = true ∧ Po K (rD K) cl W io H (.ok (g i j) S) Q := by
  unfold fI at h
  split at h
  · split at h
    · rename_i i j hc
      exact ⟨i, j, q1, q2, hc, h⟩
    · exact h.elim
  · exact h.elim
end
section
variable {X : Cx}
theorem os_I {g : Value → Value → Sem Value} {C : Int → Int → Prop} {c : Int → Int → Bool} {k : Int → Int → Int} (h : OpR X g (rI C fun i j => .int (k i j))) (hc : ∀ i j, c i j = true → C i j) : OpS X g (fI c fun i j => .int (k i j)) :=
  OpS.of h fun cl W io S d e x y H Q R q1 q2 z => by
    obtain ⟨i, j, e1, e2, hh, z⟩ := fI_inv R q1 q2 z
    exact ⟨i, j, e1, e2, hc i j hh, z.fin R rfl⟩
theorem os_I0 {g : Value → Value → Sem Value} {k : Int → Int → Int} (h : OpR X g (rI0 fun i j => .int (k i j))) : OpS X g (fI (fun _ _ => true) fun i j => .int (k i j)) :=
  OpS.of h fun cl W io S d e x y H Q R q1 q2 z => by
    obtain ⟨i, j, e1, e2, hh, z⟩ := fI_inv R q1 q2 z
    exact ⟨i, j, e1, e2, z.fin R rfl⟩
theorem os_B0 {g : Value → Value → Sem Value} {k : Int → Int → Bool} (h : OpR X g (rI0 fun i j => .bl (k i j))) : OpS X g (fI (fun _ _ => true) fun i j => .bl (k i j)) :=
  OpS.of h fun cl W io S d e x y H Q R q1 q2 z => by
    obtain ⟨i, j, e1, e2, hh, z⟩ := fI_inv R q1 q2 z
    exact ⟨i, j, e1, e2, z.fin R rfl⟩
abbrev fSub := fI (fun _ _ => true) fun i j => .int (i - j)
theorem os_sub : OpS X (binaryOp .Sub) fSub := os_I0 op_sub
abbrev fLt := fI (fun _ _ => true) fun i j => .bl (decide (i < j))
abbrev fLe := fI (fun _ _ => true) fun i j => .bl (decide (i ≤ j))
abbrev fGt := fI (fun _ _ => true) fun i j => .bl (decide (j < i))
abbrev fGe := fI (fun _ _ => true) fun i j => .bl (decide (j ≤ i))
theorem os_lt : OpS X (compareOp .Lt) fLt := os_B0 op_lt
theorem os_le : OpS X (compareOp .LtE) fLe := os_B0 op_le
theorem os_gt : OpS X (compareOp .Gt) fGt := os_B0 op_gt
theorem os_ge : OpS X (compareOp .GtE) fGe := os_B0 op_ge
/-- % by a positive number -/
abbrev fMod := fI (fun _ j => decide (0 < j)) fun i j => .int (i % j)
theorem os_mod : OpS X (binaryOp .Mod) fMod := os_I op_mod fun _ _ h => of_decide_eq_true h
end
/-- + of two ints, texts, tuples, lists -/
def fAdd : D → D → Sto → Res D := fun x y S => match x, y with
  | .int i, .int j => .ok (.int (i + j)) S
  | .str a, .str b => if a.length + b.length ≤ sizeLine then .ok (.str (a ++ b)) S else .bad
  | .tup a, .tup b => if a.length + b.length ≤ sizeLine then .ok (.tup (a ++ b)) S else .bad
  | .ref n, .ref m => match S[n]?, S[m]? with
    | some (.lst a), some (.lst b) => if a.length + b.length ≤ sizeLine then .ok (.ref S.length) (S ++ [.lst (a ++ b)]) else .bad
    | _, _ => .bad
  | _, _ => .bad
section
variable {X : Cx}
theorem os_add : OpS X (binaryOp .Add) fAdd := by
  refine OpS.of (((op_add.or op_add_str).or op_catA).or op_cat) fun cl W io S d e x y H Q R q1 q2 z => ?_
  unfold fAdd at z
  split at z
  · exact .inl (.inl (.inl ⟨_, _, q1, q2, z.fin R rfl⟩))
  · split at z
    · rename_i hz
      exact .inl (.inl (.inr ⟨_, _, q1, q2, hz, z.fin R rfl⟩))
    · exact z.elim
  · split at z
    · rename_i a b hz
      obtain ⟨p, xs, rfl, hp, h1⟩ := q1
      obtain ⟨p', ys, rfl, hp', h2⟩ := q2
      have l1 := h1.length
      have l2 := h2.length
      refine .inl (.inr ⟨p, p', xs, ys, rfl, rfl, hp, hp', by omega, fun e1 => ?_, fun e1 e2 => ?_, fun e1 e2 t ht => ?_⟩)
      · subst e1
        have : a = [] := List.length_eq_zero_iff.mp l1.symm
        subst this
        exact z.fin R ⟨p', ys, rfl, hp', h2⟩
      · subst e2
        have : b = [] := List.length_eq_zero_iff.mp l2.symm
        subst this
        rw [List.append_nil] at z
        exact z.fin R ⟨p, xs, rfl, hp, h1⟩
      · exact z.finP (List.prefix_rfl) (Mo.new ht) (R.tup ht) ⟨t, _, rfl, SqT.of upd_same, (h1.append h2).mono (List.prefix_rfl) (Mo.new ht)⟩
    · exact z.elim
  · split at z
    · split at z
      · rename_i n m a b s1 s2 hz
        obtain ⟨p, rfl, hp⟩ := q1
        obtain ⟨p', rfl, hp'⟩ := q2
        obtain ⟨xs, hx, r1⟩ := R.ob _ _ _ s1 hp
        obtain ⟨ys, hy, r2⟩ := R.ob _ _ _ s2 hp'
        have l1 := r1.length
        have l2 := r2.length
        refine .inr ⟨p, p', xs, ys, rfl, rfl, hx, hy, by omega, fun t ht => ?_⟩
        have pp : io <+: io ++ [t] := List.prefix_append _ _
        refine z.finP pp (Mo.new ht) (R.new ht ⟨_, upd_same, (r1.append r2).mono pp (Mo.new ht)⟩) ⟨t, rfl, ?_⟩
        rw [← R.len]
        exact List.getElem?_concat_length
      · exact z.elim
    · exact z.elim
  · exact z.elim
end

/-! ### displays, arguments -/
def aNil : MA := fun _ S => .ok [] S
def aCons (a : M) (r : MA) : MA := fun ρ S => (a ρ S).bind fun x S => (r ρ S).bind fun xs S => .ok (x :: xs) S
def mTup (a : MA) : M := fun ρ S => (a ρ S).bind fun ds S => if ds.length ≤ sizeLine then .ok (.tup ds) S else .bad
def mLst (a : MA) : M := fun ρ S => (a ρ S).bind fun ds S => if ds.length ≤ sizeLine then .ok (.ref S.length) (S ++ [.lst ds]) else .bad
section
variable {X : Cx} {C : Cn} {e : Expr} {es : List Expr} {m : M} {ma : MA}
theorem qa_nil : QA X C [] aNil := PA_imp pa_nil fun σ H Q ⟨io, ρ, S, R, re, h⟩ => h.fin R rfl
theorem qa_cons (ha : QE X C e m) (hr : QA X C es ma) (hs : starEach (e :: es) X.env = (false, eval e X.env) :: starEach es X.env := by rfl) : QA X C (e :: es) (aCons m ma) := by
  refine PA_imp (pa_cons ha hr hs) ?_
  rintro σ H Q ⟨io, ρ, S, R, re, h⟩
  refine rdE_step R re h fun d S1 io1 H1 v p1 m1 R1 re1 q1 h1 => ?_
  refine rdA_step R1 re1 h1 fun ds S2 io2 H2 vs p2 m2 R2 re2 q2 h2 => ?_
  exact h2.fin R2 ⟨v, vs, rfl, q1.mono p2 m2, q2⟩
theorem qe_tup {k pos} (h : QA X C es ma) : QE X C (.Tuple es k pos) (mTup ma) := by
  refine PE_imp (pe_tup h) ?_
  rintro σ H Q ⟨io, ρ, S, R, re, h⟩
  refine rdA_step R re h fun ds S1 io1 H1 vs p1 m1 R1 re1 q1 h1 => ?_
  split at h1
  · rename_i hz
    refine ⟨by rw [q1.length]; exact hz, fun p hp => ?_⟩
    exact h1.finP (List.prefix_rfl) (Mo.new hp) (R1.tup hp) ⟨p, _, rfl, SqT.of upd_same, q1.mono (List.prefix_rfl) (Mo.new hp)⟩
  · exact h1.elim
theorem qe_lst {pos} (h : QA X C es ma) : QE X C (.List es pos) (mLst ma) := by
  refine PE_imp (pe_lst h) ?_
  rintro σ H Q ⟨io, ρ, S, R, re, h⟩
  refine rdA_step R re h fun ds S1 io1 H1 vs p1 m1 R1 re1 q1 h1 => ?_
  split at h1
  · rename_i hz
    refine ⟨by rw [q1.length]; exact hz, fun p hp => ?_⟩
    have pp : io1 <+: io1 ++ [p] := List.prefix_append _ _
    refine h1.finP pp (Mo.new hp) (R1.new hp ⟨_, upd_same, q1.mono pp (Mo.new hp)⟩) ⟨p, rfl, ?_⟩
    rw [← R1.len]
    exact List.getElem?_concat_length
  · exact h1.elim
end

/-! ### built-ins by name -/
def mCB (f : F) (a : MA) : M := fun ρ S => (a ρ S).bind fun ds S => f ds S
def rdL (K : PySem.W.Frag) (f : F) : List V → Hp → VK → Prop := fun vs H Q => ∃ cl W io S ds, Rep K io S H ∧ RDs K io H ds vs ∧ Po K (rD K) cl W io H (f ds S) Q
abbrev CaS (X : Cx) (fv : Value) (f : F) : Prop := CallR X fv (rdL X.K f)
section
variable {X : Cx} {C : Cn} {x : Str} {p pos : Pos} {e : Expr} {es : List Expr} {m : MA} {id T : String} {f : F}
theorem rd_cb {K : PySem.W.Frag} {σ : L2.St} {H : Hp} {Q : VK} (h : rdE K C (mCB f m) σ H Q) : tCB (rdL K f) (rdA K C m) σ H Q := by
  obtain ⟨io, ρ, S, R, re, h⟩ := h
  refine rdA_step R re h fun ds S1 io1 H1 vs p1 m1 R1 re1 q1 h1 => ?_
  exact ⟨_, _, io1, S1, ds, R1, q1, h1⟩
theorem qe_callB (hc : CaS X (.builtin id) f) (hm : X.mg x = none) (hv : bootBuiltins x = some (.builtin id)) (ha : QA X C (e :: es) m) (hg : Gl X x := by rfl) (hn : x ≠ "__name__" := by decide) (hdb : (x == ("__debug__" : Str)) = false := by decide)
    (he : starEach (e :: es) X.env = (false, eval e X.env) :: starEach es X.env := by rfl) (hpl : (backTo pos (starEach es X.env)).any (·.1) = false := by rfl) : QE X C (.Call (.Name x p) (e :: es) [] pos) (mCB f m) :=
  PE_imp (pe_callB hc hg hm hv ha hn hdb he hpl) fun _ _ _ h => rd_cb h
theorem qe_callTy (hc : CaS X (.type T) f) (hm : X.mg x = none) (hv : bootBuiltins x = some (.type T)) (ha : QA X C (e :: es) m) (hg : Gl X x := by rfl) (hn : x ≠ "__name__" := by decide) (hdb : (x == ("__debug__" : Str)) = false := by decide)
    (he : starEach (e :: es) X.env = (false, eval e X.env) :: starEach es X.env := by rfl) (hpl : (backTo pos (starEach es X.env)).any (·.1) = false := by rfl) : QE X C (.Call (.Name x p) (e :: es) [] pos) (mCB f m) :=
  PE_imp (pe_callTy hc hg hm hv ha hn hdb he hpl) fun _ _ _ h => rd_cb h
theorem CaS.of {fv : Value} {r : List V → Hp → VK → Prop} (h : CallR X fv r) (hi : ∀ cl W io S ds vs H Q, Rep X.K io S H → RDs X.K io H ds vs → Po X.K (rD X.K) cl W io H (f ds S) Q → r vs H Q) : CaS X fv f := by
  intro pins s σ H xs us Q I r' q
  obtain ⟨cl, W, io, S, ds, R, q1, z⟩ := q
  exact h pins s σ H xs us Q I r' (hi cl W io S ds xs H Q R q1 z)
/-! ### methods of built-in types -/
def kOb : Option Ob → String
  | some (.lst _) => "list"
  | some (.dct _) => "dict"
  | some (.ins _ _) => "?"
  | none => "?"
def kOf (S : Sto) : D → String
  | .non => "NoneType"
  | .bl _ => "bool"
  | .int _ => "int"
  | .str _ => "str"
  | .tup _ => "tuple"
  | .fls _ => "list"
  | .ref n => kOb S[n]?
def mMt (T : String) (f : D → F) (o : M) (a : MA) : M := fun ρ S => (o ρ S).bind fun d S => if kOf S d = T then (a ρ S).bind fun ds S => f d ds S else .bad
def rdM (K : PySem.W.Frag) (f : D → F) : V → List V → Hp → VK → Prop := fun x vs H Q => ∃ cl W io S d ds, Rep K io S H ∧ RD K io H d x ∧ RDs K io H ds vs ∧ Po K (rD K) cl W io H (f d ds S) Q
abbrev MtS (X : Cx) (id : String) (f : D → F) : Prop := MtR X id (rdM X.K f)
theorem MtS.of {id : String} {f : D → F} {r : V → List V → Hp → VK → Prop} (h : MtR X id r)
    (hi : ∀ cl W io S d ds x vs H Q, Rep X.K io S H → RD X.K io H d x → RDs X.K io H ds vs → Po X.K (rD X.K) cl W io H (f d ds S) Q → r x vs H Q) : MtS X id f := by
  intro pins s σ H x xs v us Q I rx r' q
  obtain ⟨cl, W, io, S, d, ds, R, q0, q1, z⟩ := q
  exact h pins s σ H x xs v us Q I rx r' (hi cl W io S d ds x xs H Q R q0 q1 z)
end
end Mn

set_option Elab.async false
set_option linter.all false
set_option maxRecDepth 100000
set_option maxHeartbeats 4000000
namespace Mn
open PySem PySem.Spec PyProof.Rows L2
section
variable {X : Cx} {C : Cn} {o e : Expr} {es : List Expr} {mo : M} {ma : MA} {name : Str} {apos cpos : Pos} {T id : String} {f : D → F}
theorem tyV_of {K : PySem.W.Frag} {io : List Addr} {S : Sto} {H : Hp} {d : D} {v : V} (R : Rep K io S H) (q : RD K io H d v) (h : kOf S d = T) (ht : (["str", "int", "list", "dict"] : List String).contains T = true) : tyV K T v H := by
  cases d with
  | non => subst h; simp [kOf] at ht
  | bl _ => subst h; simp [kOf] at ht
  | tup _ => subst h; simp [kOf] at ht
  | int i =>
    have q : v = _ := q
    subst q
    exact h.symm
  | str i =>
    have q : v = _ := q
    subst q
    exact h.symm
  | fls ds =>
    obtain ⟨a, xs, rfl, q1, _⟩ := q
    exact .inl ⟨h.symm, xs, q1.sq⟩
  | ref n =>
    obtain ⟨a, rfl, q1⟩ := q
    have h : kOb S[n]? = T := h
    cases e : S[n]? with
    | none =>
      rw [e] at h
      subst h
      simp [kOb] at ht
    | some ob =>
      rw [e] at h
      cases ob with
      | lst ds =>
        obtain ⟨xs, hx, _⟩ := R.ob _ _ _ e q1
        exact .inl ⟨h.symm, xs, SqL.of hx⟩
      | dct kvs =>
        obtain ⟨xs, hx, _⟩ := R.ob _ _ _ e q1
        exact .inr (.inr (.inl ⟨h.symm, .inl ⟨xs, hx⟩⟩))
      | ins c fs =>
        subst h
        simp [kOb] at ht
theorem qe_bm (pa : PlainAttrs T) (slot : Slot T name id) (hty : typeOf (.builtin id) = pure (.type "method_descriptor")) (hm : MtS X id f) (ho : QE X C o mo) (ha : QA X C (e :: es) ma) (ht : (["str", "int", "list", "dict"] : List String).contains T = true := by rfl)
    (hbase : attributeBase o name X.env (eval o X.env) = eval o X.env := by rfl)
    (hfew : ((backTo cpos (starEach (e :: es) X.env)).all (fun x => !x.1) && (backToKw cpos (keywordEach [] X.env)).all (fun x => x.1.isSome)
      && decide ((e :: es).length + ([] : List Keyword).length + (if ([] : List Keyword).isEmpty then 0 else 1) < 30)) = true := by rfl)
    (hline : (apos.endLine == cpos.line) = true := by rfl) (hs : starEach (e :: es) X.env = (false, eval e X.env) :: starEach es X.env := by rfl) (hplain : (backTo cpos (starEach es X.env)).any (·.1) = false := by rfl) :
    QE X C (.Call (.Attribute o name apos) (e :: es) [] cpos) (mMt T f mo ma) := by
  refine PE_imp (pe_bm pa slot hty hm ho ha hbase hfew hline hs hplain) ?_
  rintro σ H Q ⟨io, ρ, S, R, re, h⟩
  refine rdE_step R re h fun d S1 io1 H1 v p1 m1 R1 re1 q1 h1 => ?_
  split at h1
  · rename_i hk
    refine ⟨tyV_of R1 q1 hk ht, ?_⟩
    refine rdA_step R1 re1 h1 fun ds S2 io2 H2 vs p2 m2 R2 re2 q2 h2 => ?_
    exact ⟨_, _, io2, S2, d, ds, R2, q1.mono p2 m2, q2, h2⟩
  · exact h1.elim
theorem qe_bm0 (pa : PlainAttrs T) (slot : Slot T name id) (hty : typeOf (.builtin id) = pure (.type "method_descriptor")) (hm : MtS X id f) (ho : QE X C o mo) (ht : (["str", "int", "list", "dict"] : List String).contains T = true := by rfl)
    (hbase : attributeBase o name X.env (eval o X.env) = eval o X.env := by rfl) (hline : (apos.endLine == cpos.line) = true := by rfl) : QE X C (.Call (.Attribute o name apos) [] [] cpos) (mMt T f mo aNil) := by
  refine PE_imp (pe_bm0 pa slot hty hm ho hbase hline) ?_
  rintro σ H Q ⟨io, ρ, S, R, re, h⟩
  refine rdE_step R re h fun d S1 io1 H1 v p1 m1 R1 re1 q1 h1 => ?_
  split at h1
  · rename_i hk
    exact ⟨tyV_of R1 q1 hk ht, _, _, io1, S1, d, [], R1, q1, rfl, h1⟩
  · exact h1.elim
end

/-! ### subscripts -/
def ixD (i : Int) (n : Nat) : Option Nat := ixN n i
def fIx : D → D → Sto → Res D := fun x y S => match x, y with
  | .tup ds, .int i => match atI ds i with
    | some d => .ok d S
    | none => .bad
  | .fls ds, .int i => match atI ds i with
    | some d => .ok d S
    | none => .bad
  | .ref n, .int i => match S[n]? with
    | some (.lst ds) => match atI ds i with
      | some d => .ok d S
      | none => .bad
    | _ => .bad
  | .str x, .int i => if x.length ≤ sizeLine then match atI x.cps.toList i with
    | some c => .ok (.str ⟨#[c]⟩) S
    | none => .bad
    else .bad
  | _, _ => .bad
theorem atI_rel {K : PySem.W.Frag} {io : List Addr} {H : Hp} {ds : List D} {vs : List V} {i : Int} {d : D} (r : RDs K io H ds vs) (h : atI ds i = some d) : ∃ v, atI vs i = some v ∧ RD K io H d v := by
  unfold atI at h ⊢
  rw [r.length]
  cases e : ixN ds.length i with
  | none =>
    rw [e] at h
    cases h
  | some j =>
    rw [e] at h
    exact r.get h
section
variable {X : Cx} {C : Cn} {a b : Expr} {ma mb : M} {pos : Pos}
theorem ix_S : IxR X (rd2 X.K fIx) := by
  intro vx sx pins s σ H x y v u Q I rx ry q hsub
  obtain ⟨cl, W, io, S, d, e, R, q1, q2, z⟩ := q
  unfold fIx at z
  refine ix_seq vx sx pins s σ H x y v u Q I rx ry ?_ hsub
  split at z
  · split at z
    · rename_i d' he
      obtain ⟨p, xs, rfl, hp, r⟩ := q1
      obtain ⟨w, hw, rw'⟩ := atI_rel r he
      exact .inr (.inl ⟨p, xs, _, w, rfl, q2, hp, hw, z.fin R rw'⟩)
    · exact z.elim
  · split at z
    · rename_i d' he
      obtain ⟨p, xs, rfl, hp, r⟩ := q1
      obtain ⟨w, hw, rw'⟩ := atI_rel r he
      exact .inl ⟨p, xs, _, w, rfl, q2, hp.sq, hw, z.fin R rw'⟩
    · exact z.elim
  · split at z
    · rename_i n i ds hs
      split at z
      · rename_i d' he
        obtain ⟨p, rfl, hp⟩ := q1
        obtain ⟨xs, hx, r⟩ := R.ob _ _ _ hs hp
        obtain ⟨w, hw, rw'⟩ := atI_rel r he
        exact .inl ⟨p, xs, _, w, rfl, q2, SqL.of hx, hw, z.fin R rw'⟩
      · exact z.elim
    · exact z.elim
  · split at z
    · rename_i hz
      split at z
      · rename_i c he
        exact .inr (.inr ⟨_, _, c, q1, q2, hz, he, z.fin R rfl⟩)
      · exact z.elim
    · exact z.elim
  · exact z.elim
theorem qe_ix (ha : QE X C a ma) (hb : QE X C b mb) (hs : PlainIx b := by exact fun _ _ => rfl) : QE X C (.Subscript a b pos) (mBin fIx ma mb) :=
  PE_imp (pe_ix ix_S ha hb hs) fun _ _ _ h => rd_bin h
end

/-! ### slices -/
abbrev MO := En → Sto → Res (Option Int)
def oNone : MO := fun _ S => .ok none S
def oSome (m : M) : MO := fun ρ S => (m ρ S).bind fun d S => match d with
  | .int i => .ok (some i) S
  | _ => .bad
def rdO (K : PySem.W.Frag) (C : Cn) (m : MO) : TO := fun σ H Q => ∃ io ρ S, Rep K io S H ∧ RE K io H ρ σ ∧ Po K (fun _ _ d v => d = v) C.cl (fun c d H' => C.W c d σ H') io H (m ρ S) Q
def cutD (xs : List D) (lo hi : Option Int) : List D := (xs.drop (HT.sIx xs.length 0 lo)).take (HT.sIx xs.length xs.length hi - HT.sIx xs.length 0 lo)
def fSl : D → Option Int → Option Int → Sto → Res D := fun x lo hi S => match x with
  | .tup ds => .ok (.tup (cutD ds lo hi)) S
  | .fls ds => .ok (.ref S.length) (S ++ [.lst (cutD ds lo hi)])
  | .str x => if x.length ≤ sizeLine then .ok (.str (cutS x lo hi)) S else .bad
  | .ref n => match S[n]? with
    | some (.lst ds) => .ok (.ref S.length) (S ++ [.lst (cutD ds lo hi)])
    | _ => .bad
  | _ => .bad
def mSl (a : M) (lo hi : MO) : M := fun ρ S => (a ρ S).bind fun x S => (lo ρ S).bind fun l S => (hi ρ S).bind fun h S => fSl x l h S
theorem RDs.cut {K : PySem.W.Frag} {io : List Addr} {H : Hp} {ds : List D} {vs : List V} (r : RDs K io H ds vs) (lo hi : Option Int) : RDs K io H (cutD ds lo hi) (cutV vs lo hi) := by
  unfold cutD cutV
  rw [r.length]
  exact (r.drop _).take _
section
variable {X : Cx} {C : Cn} {a : Expr} {ma : M} {lo hi : Option Expr} {ml mh : MO} {p2 pos : Pos}
abbrev QO (X : Cx) (C : Cn) (e : Option Expr) (m : MO) : Prop := PO X e (rdO X.K C m)
theorem PO_imp {e : Option Expr} {t t' : TO} (h : PO X e t) (hi : ∀ σ H Q, t' σ H Q → t σ H Q) : PO X e t' := by
  refine ⟨fun pins s σ H Q I q => ?_⟩
  exact h.run pins s σ H Q I (hi σ H Q q)
theorem qo_none : QO X C none oNone := PO_imp po_none fun σ H Q ⟨io, ρ, S, R, re, h⟩ => h.fin R rfl
theorem qo_some (h : QE X C a ma) : QO X C (some a) (oSome ma) := by
  refine PO_imp (po_some h) ?_
  rintro σ H Q ⟨io, ρ, S, R, re, h⟩
  refine rdE_step R re h fun d S1 io1 H1 v p1 m1 R1 re1 q1 h1 => ?_
  split at h1
  · exact ⟨_, q1, h1.fin R1 rfl⟩
  · exact h1.elim
theorem rdO_step {K : PySem.W.Frag} {β δ : Type} {m : MO} {k : Option Int → Sto → Res β} {rel : List Addr → Hp → β → δ → Prop} {io : List Addr} {ρ : En} {S : Sto} {σ : L2.St} {H : Hp} {Qd : δ → Hp → Prop} {Q : Option Int → Hp → Prop} (R : Rep K io S H) (re : RE K io H ρ σ)
    (h : Po K rel C.cl (fun c d H' => C.W c d σ H') io H ((m ρ S).bind k) Qd)
    (hk : ∀ b S1 io1 H1, io <+: io1 → Mo H H1 → Rep K io1 S1 H1 → RE K io1 H1 ρ σ → Po K rel C.cl (fun c d H' => C.W c d σ H') io1 H1 (k b S1) Qd → Q b H1) : rdO K C m σ H Q :=
  ⟨io, ρ, S, R, re, Po.imp (relg := fun _ _ d v => d = v) h fun d S1 io1 H1 v _ p mo R1 q h1 => by
    subst q
    exact hk d S1 io1 H1 p mo R1 (re.mono p mo) h1⟩
/-- the layer's slice rules in one -/
def rSlAny (K : PySem.W.Frag) : V → Option Int → Option Int → Hp → VK → Prop := fun x lo hi H Q => (rSlA K x lo hi H Q ∨ rSlL K x lo hi H Q) ∨ rSlS x lo hi H Q
theorem sl_any : SlR X (rSlAny X.K) := (sl_tupA.or sl_list).or sl_str
theorem qe_slice (ha : QE X C a ma) (hl : QO X C lo ml) (hu : QO X C hi mh) : QE X C (.Subscript a (.Slice lo hi none p2) pos) (mSl ma ml mh) := by
  refine PE_imp (pe_slice sl_any ha hl hu) ?_
  rintro σ H Q ⟨io, ρ, S, R, re, h⟩
  refine rdE_step R re h fun d S1 io1 H1 v p1 m1 R1 re1 q1 h1 => ?_
  refine rdO_step R1 re1 h1 fun l S2 io2 H2 p2 m2 R2 re2 h2 => ?_
  refine rdO_step R2 re2 h2 fun u S3 io3 H3 p3 m3 R3 re3 h3 => ?_
  have q3 : RD X.K io3 H3 d v := q1.mono (p2.trans p3) (m2.trans m3)
  unfold fSl at h3
  split at h3
  · obtain ⟨p, xs, rfl, hp, r⟩ := q3
    refine .inl (.inl ⟨p, xs, rfl, hp, fun hw => ?_, fun hw t ht => ?_⟩)
    · refine h3.fin R3 ⟨p, xs, rfl, hp, ?_⟩
      have rc := r.cut l u
      have e : cutV xs l u = xs := by
        unfold cutV
        rw [hw.1, hw.2, List.drop_zero, Nat.sub_zero, List.take_length]
      rw [e] at rc
      exact rc
    · exact h3.finP (List.prefix_rfl) (Mo.new ht) (R3.tup ht) ⟨t, _, rfl, SqT.of upd_same, (r.cut l u).mono (List.prefix_rfl) (Mo.new ht)⟩
  · obtain ⟨p, xs, rfl, hp, r⟩ := q3
    refine .inl (.inr ⟨p, xs, rfl, hp.sq, fun t ht => ?_⟩)
    have pp : io3 <+: io3 ++ [t] := List.prefix_append _ _
    refine h3.finP pp (Mo.new ht) (R3.new ht ⟨_, upd_same, (r.cut l u).mono pp (Mo.new ht)⟩) ⟨t, rfl, ?_⟩
    rw [← R3.len]
    exact List.getElem?_concat_length
  · split at h3
    · rename_i hz
      exact .inr ⟨_, q3, hz, h3.fin R3 rfl⟩
    · exact h3.elim
  · split at h3
    · rename_i n ds hs
      obtain ⟨p, rfl, hp⟩ := q3
      obtain ⟨xs, hx, r⟩ := R3.ob _ _ _ hs hp
      refine .inl (.inr ⟨p, xs, rfl, SqL.of hx, fun t ht => ?_⟩)
      have pp : io3 <+: io3 ++ [t] := List.prefix_append _ _
      refine h3.finP pp (Mo.new ht) (R3.new ht ⟨_, upd_same, (r.cut l u).mono pp (Mo.new ht)⟩) ⟨t, rfl, ?_⟩
      rw [← R3.len]
      exact List.getElem?_concat_length
    · exact h3.elim
  · exact h3.elim
end

/-! ### tests -/
/-- a test whose value is True or False -/
def tVal (m : M) : MT := fun ρ S => (m ρ S).bind fun d S => match d with
  | .bl b => .ok b S
  | _ => .bad
def tAnd (a b : MT) : MT := fun ρ S => (a ρ S).bind fun x S => if x = true then b ρ S else .ok false S
def tOr (a b : MT) : MT := fun ρ S => (a ρ S).bind fun x S => if x = true then .ok true S else b ρ S
def tNot (a : MT) : MT := fun ρ S => (a ρ S).bind fun x S => .ok (!x) S
section
variable {X : Cx} {C : Cn} {a b c : Expr} {ma mb mc : M} {ta tb : MT} {pos : Pos} {rest : List Expr}
theorem qt_val (h : QE X C a ma) (he : ∀ whole, isTrue a X.env whole = (do let v ← whole; standAt a.pos; holding [v] (truthy v)) := by intro _; rfl) : QT X C a (tVal ma) := by
  refine PT_imp (pt_val h he) ?_
  rintro σ H Q ⟨io, ρ, S, R, re, h⟩
  refine rdE_step R re h fun d S1 io1 H1 v p1 m1 R1 re1 q1 h1 => ?_
  split at h1
  · exact ⟨_, q1, h1.fin R1 rfl⟩
  · exact h1.elim
theorem qt_cmp {op : CmpOp} {f : D → D → Sto → Res D} (ho : OpS X (compareOp op) f) (ha : QE X C a ma) (hb : QE X C b mb) (hm : behindInMarks op b = false := by first | exact nomark _ (by decide) (by decide) | rfl) : QT X C (.Compare a [op] [b] pos) (tVal (mBin f ma mb)) := by
  refine PT_imp (pt_cmpR ho ha hb hm) ?_
  rintro σ H Q ⟨io, ρ, S, R, re, h⟩
  refine rd_bin (Q := fun x H' => ∃ k, x = V.bl k ∧ Q k H') ?_
  refine rdE_step R re h fun d S1 io1 H1 v p1 m1 R1 re1 q1 h1 => ?_
  split at h1
  · exact ⟨_, q1, h1.fin R1 rfl⟩
  · exact h1.elim
abbrev QW (X : Cx) (C : Cn) (e : Expr) (m : MT) : Prop := PW X e (rdT X.K C m)
theorem qw_and1 (h : QT X C a ta) : QW X C (.BoolOp .And [a] pos) ta := pw_and1 h
theorem qw_or1 (h : QT X C a ta) : QW X C (.BoolOp .Or [a] pos) ta := pw_or1 h
theorem qw_and (ha : QT X C a ta) (hb : QW X C (.BoolOp .And (b :: rest) pos) tb) : QW X C (.BoolOp .And (a :: b :: rest) pos) (tAnd ta tb) := by
  refine PW_imp (pw_and ha hb) ?_
  rintro σ H Q ⟨io, ρ, S, R, re, h⟩
  refine rdT_step R re h fun x S1 io1 H1 p1 m1 R1 re1 h1 => ?_
  split at h1
  · rename_i hx
    rw [if_pos hx]
    exact ⟨io1, ρ, S1, R1, re1, h1⟩
  · rename_i hx
    rw [if_neg hx]
    exact h1.fin R1 rfl
theorem qw_or (ha : QT X C a ta) (hb : QW X C (.BoolOp .Or (b :: rest) pos) tb) : QW X C (.BoolOp .Or (a :: b :: rest) pos) (tOr ta tb) := by
  refine PW_imp (pw_or ha hb) ?_
  rintro σ H Q ⟨io, ρ, S, R, re, h⟩
  refine rdT_step R re h fun x S1 io1 H1 p1 m1 R1 re1 h1 => ?_
  split at h1
  · rename_i hx
    rw [if_pos hx]
    exact h1.fin R1 rfl
  · rename_i hx
    rw [if_neg hx]
    exact ⟨io1, ρ, S1, R1, re1, h1⟩
theorem qt_w {e : Expr} {t : MT} (h : QW X C e t) : QT X C e t := h.pt
theorem qt_not (ha : QT X C a ta) : QT X C (.UnaryOp .Not a pos) (tNot ta) := by
  refine PT_imp (pt_not ha) ?_
  rintro σ H Q ⟨io, ρ, S, R, re, h⟩
  refine rdT_step R re h fun x S1 io1 H1 p1 m1 R1 re1 h1 => ?_
  exact h1.fin R1 rfl
/-! ### and, or, not as values: all but the last are True or False -/
def mAnd (a b : M) : M := fun ρ S => (a ρ S).bind fun d S => match d with
  | .bl x => if x = true then b ρ S else .ok (.bl false) S
  | _ => .bad
def mOr (a b : M) : M := fun ρ S => (a ρ S).bind fun d S => match d with
  | .bl x => if x = true then .ok (.bl true) S else b ρ S
  | _ => .bad
def mNot (a : M) : M := fun ρ S => (a ρ S).bind fun d S => match d with
  | .bl x => .ok (.bl (!x)) S
  | _ => .bad
def mIf (t : MT) (a b : M) : M := fun ρ S => (t ρ S).bind fun x S => if x = true then a ρ S else b ρ S
theorem qe_one {op} (h : QE X C a ma) : QE X C (.BoolOp op [a] pos) ma := pe_one h
theorem qe_and (ha : QE X C a ma) (hb : QE X C (.BoolOp .And (b :: rest) pos) mb) : QE X C (.BoolOp .And (a :: b :: rest) pos) (mAnd ma mb) := by
  refine PE_imp (pe_and ha hb) ?_
  rintro σ H Q ⟨io, ρ, S, R, re, h⟩
  refine rdE_step R re h fun d S1 io1 H1 v p1 m1 R1 re1 q1 h1 => ?_
  split at h1
  · rename_i x
    refine ⟨x, q1, ?_⟩
    split at h1
    · rename_i hx
      rw [if_pos hx]
      exact ⟨io1, ρ, S1, R1, re1, h1⟩
    · rename_i hx
      rw [if_neg hx]
      exact h1.fin R1 rfl
  · exact h1.elim
theorem qe_or (ha : QE X C a ma) (hb : QE X C (.BoolOp .Or (b :: rest) pos) mb) : QE X C (.BoolOp .Or (a :: b :: rest) pos) (mOr ma mb) := by
  refine PE_imp (pe_or ha hb) ?_
  rintro σ H Q ⟨io, ρ, S, R, re, h⟩
  refine rdE_step R re h fun d S1 io1 H1 v p1 m1 R1 re1 q1 h1 => ?_
  split at h1
  · rename_i x
    refine ⟨x, q1, ?_⟩
    split at h1
    · rename_i hx
      rw [if_pos hx]
      exact h1.fin R1 rfl
    · rename_i hx
      rw [if_neg hx]
      exact ⟨io1, ρ, S1, R1, re1, h1⟩
  · exact h1.elim
theorem qe_not (ha : QE X C a ma) : QE X C (.UnaryOp .Not a pos) (mNot ma) := by
  refine PE_imp (pe_not ha) ?_
  rintro σ H Q ⟨io, ρ, S, R, re, h⟩
  refine rdE_step R re h fun d S1 io1 H1 v p1 m1 R1 re1 q1 h1 => ?_
  split at h1
  · exact ⟨_, q1, h1.fin R1 rfl⟩
  · exact h1.elim
theorem qe_if (hc : QT X C c ta) (ha : QE X C a ma) (hb : QE X C b mb) : QE X C (.IfExp c a b pos) (mIf ta ma mb) := by
  refine PE_imp (pe_ifExp hc ha hb) ?_
  rintro σ H Q ⟨io, ρ, S, R, re, h⟩
  refine rdT_step R re h fun x S1 io1 H1 p1 m1 R1 re1 h1 => ?_
  split at h1
  · rename_i hx
    rw [if_pos hx]
    exact ⟨io1, ρ, S1, R1, re1, h1⟩
  · rename_i hx
    rw [if_neg hx]
    exact ⟨io1, ρ, S1, R1, re1, h1⟩
/-- a < b < c -/
def mChain (f g : D → D → Sto → Res D) (a b c : M) : M := fun ρ S => (a ρ S).bind fun x S => (b ρ S).bind fun y S => (f x y S).bind fun z S => match z with
  | .bl k => if k = true then (c ρ S).bind fun w S => g y w S else .ok (.bl false) S
  | _ => .bad
theorem rd_chain {K : PySem.W.Frag} {f g : D → D → Sto → Res D} {σ : L2.St} {H : Hp} {Q : VK} (h : rdE K C (mChain f g ma mb mc) σ H Q) : tChain (rd2 K f) (rd2 K g) (rdE K C ma) (rdE K C mb) (rdE K C mc) σ H Q := by
  obtain ⟨io, ρ, S, R, re, h⟩ := h
  refine rdE_step R re h fun x S1 io1 H1 v p1 m1 R1 re1 q1 h1 => ?_
  refine rdE_step R1 re1 h1 fun y S2 io2 H2 w p2 m2 R2 re2 q2 h2 => ?_
  refine ⟨_, _, io2, S2, x, y, R2, q1.mono p2 m2, q2, Po.imp (relg := rD K) h2 fun z S3 io3 H3 u _ p3 m3 R3 q3 h3 => ?_⟩
  cases z with
  | bl k =>
    refine ⟨k, q3, ?_⟩
    have h3 : Po K (rD K) C.cl (fun c d H' => C.W c d σ H') io3 H3 (if k = true then (mc ρ S3).bind fun w S => g y w S else .ok (.bl false) S3) Q := h3
    split at h3
    · rename_i hk
      rw [if_pos hk]
      refine rdE_step R3 (re2.mono p3 m3) h3 fun t S4 io4 H4 u4 p4 m4 R4 re4 q4 h4 => ?_
      exact ⟨_, _, io4, S4, y, t, R4, q2.mono (p3.trans p4) (m3.trans m4), q4, h4⟩
    · rename_i hk
      rw [if_neg hk]
      exact h3.fin R3 rfl
  | _ => exact h3.elim
theorem qe_chain {op op' : CmpOp} {f g : D → D → Sto → Res D} (ho : OpS X (compareOp op) f) (ho' : OpS X (compareOp op') g) (ha : QE X C a ma) (hb : QE X C b mb) (hc : QE X C c mc)
    (hm : lastMarks [op, op'] [b, c] = false := by with_unfolding_all rfl) : QE X C (.Compare a [op, op'] [b, c] pos) (mChain f g ma mb mc) :=
  PE_imp (pe_chain ho ho' ha hb hc hm) fun _ _ _ h => rd_chain h
theorem qt_chain {op op' : CmpOp} {f g : D → D → Sto → Res D} (ho : OpS X (compareOp op) f) (ho' : OpS X (compareOp op') g) (ha : QE X C a ma) (hb : QE X C b mb) (hc : QE X C c mc)
    (hm : lastMarks [op, op'] [b, c] = false := by with_unfolding_all rfl) : QT X C (.Compare a [op, op'] [b, c] pos) (tVal (mChain f g ma mb mc)) := by
  refine PT_imp (pt_chain ho ho' ha hb hc hm) ?_
  rintro σ H Q ⟨io, ρ, S, R, re, h⟩
  refine rd_chain (Q := fun x H' => ∃ k, x = V.bl k ∧ Q k H') ?_
  refine rdE_step R re h fun d S1 io1 H1 v p1 m1 R1 re1 q1 h1 => ?_
  split at h1
  · exact ⟨_, q1, h1.fin R1 rfl⟩
  · exact h1.elim
end
end Mn

set_option Elab.async false
set_option linter.all false
set_option maxRecDepth 100000
set_option maxHeartbeats 4000000
namespace Mn
open PySem PySem.Spec PyProof.Rows L2

/-! ### statements -/
def Res.st {α : Type} (r : Res α) (ρ : En) (k : α → Sto → RS) : RS := match r with
  | .ok a S => k a S
  | .exc c n S => .ex c n ρ S
  | .bad => .bad
section
variable {K : PySem.W.Frag} {C : Cn}
theorem st_step {α β : Type} {rel : List Addr → Hp → α → β → Prop} {r : Res α} {k : α → Sto → RS} {io : List Addr} {ρ : En} {σ : L2.St} {H : Hp} {E : Ends} {Q : β → Hp → Prop} (re : RE K io H ρ σ) (h : PoS K C io H (r.st ρ k) E)
    (hk : ∀ a S1 io1 H1 b, io <+: io1 → Mo H H1 → Rep K io1 S1 H1 → RE K io1 H1 ρ σ → rel io1 H1 a b → PoS K C io1 H1 (k a S1) E → Q b H1) : Po K rel C.cl (fun c d H' => C.W c d σ H') io H r Q := by
  cases r with
  | ok a S => exact fun io1 H1 b p m R q => hk a S io1 H1 b p m R (re.mono p m) q (PoS.mono p m h)
  | exc c n S => exact fun io1 H1 e p m R q => h io1 H1 σ e p m R (re.mono p m) q
  | bad => exact h
theorem PoS.next {ρ : En} {S : Sto} {io : List Addr} {H : Hp} {E : Ends} {σ : L2.St} (h : PoS K C io H (.nx ρ S) E) (R : Rep K io S H) (re : RE K io H ρ σ) : E.nx σ H := h io H σ (List.prefix_rfl) (Mo.refl H) R re
theorem PoS.ret {d : D} {v : V} {S : Sto} {io : List Addr} {H : Hp} {E : Ends} (h : PoS K C io H (.rt d S) E) (R : Rep K io S H) (q : RD K io H d v) : E.rt v H := h io H v (List.prefix_rfl) (Mo.refl H) R q
theorem rdE_st {m : M} {k : D → Sto → RS} {io : List Addr} {ρ : En} {S : Sto} {σ : L2.St} {H : Hp} {E : Ends} {Q : VK} (R : Rep K io S H) (re : RE K io H ρ σ) (h : PoS K C io H ((m ρ S).st ρ k) E)
    (hk : ∀ a S1 io1 H1 b, io <+: io1 → Mo H H1 → Rep K io1 S1 H1 → RE K io1 H1 ρ σ → RD K io1 H1 a b → PoS K C io1 H1 (k a S1) E → Q b H1) : rdE K C m σ H Q := ⟨io, ρ, S, R, re, st_step (rel := rD K) re h hk⟩
theorem rdT_st {m : MT} {k : Bool → Sto → RS} {io : List Addr} {ρ : En} {S : Sto} {σ : L2.St} {H : Hp} {E : Ends} {Q : Bool → Hp → Prop} (R : Rep K io S H) (re : RE K io H ρ σ) (h : PoS K C io H ((m ρ S).st ρ k) E)
    (hk : ∀ a S1 io1 H1, io <+: io1 → Mo H H1 → Rep K io1 S1 H1 → RE K io1 H1 ρ σ → PoS K C io1 H1 (k a S1) E → Q a H1) : rdT K C m σ H Q :=
  ⟨io, ρ, S, R, re, st_step (rel := rB) re h fun a S1 io1 H1 b p m R1 r1 q h1 => by
    have q : a = b := q
    subst q
    exact hk a S1 io1 H1 p m R1 r1 h1⟩
end
def sNil : MS := fun ρ S => .nx ρ S
def sSeq (a b : MS) : MS := fun ρ S => match a ρ S with
  | .nx ρ1 S1 => b ρ1 S1
  | r => r
def sDrop (m : M) : MS := fun ρ S => (m ρ S).st ρ fun _ S1 => .nx ρ S1
def sRet (m : M) : MS := fun ρ S => (m ρ S).st ρ fun d S1 => .rt d S1
def sSet (i : Nat) (m : M) : MS := fun ρ S => (m ρ S).st ρ fun d S1 => .nx (ρ.set i (some d)) S1
def sIf (t : MT) (a b : MS) : MS := fun ρ S => (t ρ S).st ρ fun x S1 => if x = true then a ρ S1 else b ρ S1
def sBk : MS := fun ρ S => .bk ρ S
def sCt : MS := fun ρ S => .ct ρ S
section
variable {X : Cx} {C : Cn} {st : Stmt} {rest a b : List Stmt} {e c : Expr} {m : M} {t : MT} {ms ms' : MS} {pos : Pos}
theorem qss_nil : QSs X C [] sNil := PSs_imp pss_nil fun E σ H ⟨io, ρ, S, R, re, h⟩ => h.next R re
theorem qss_cons (h1 : QS X C st ms) (h2 : QSs X C rest ms') : QSs X C (st :: rest) (sSeq ms ms') := by
  refine PSs_imp (pss_cons h1 h2) ?_
  rintro E σ H ⟨io, ρ, S, R, re, h⟩
  refine ⟨io, ρ, S, R, re, ?_⟩
  unfold sSeq at h
  generalize ms ρ S = r at h ⊢
  cases r with
  | nx ρ1 S1 => exact fun io' H' σ' p mo R' re' => ⟨io', ρ1, S1, R', re', PoS.mono p mo h⟩
  | rt d S1 => exact h
  | bk ρ1 S1 => exact h
  | ct ρ1 S1 => exact h
  | ex c n ρ1 S1 => exact h
  | bad => exact h
theorem qss_one (h1 : QS X C st ms) : QSs X C [st] ms := pss_one h1
theorem qs_pass : QS X C (.Pass pos) sNil := PS_imp ps_pass fun E σ H ⟨io, ρ, S, R, re, h⟩ => h.next R re
theorem qs_bk : QS X C (.Break pos) sBk := PS_imp ps_break fun E σ H ⟨io, ρ, S, R, re, h⟩ => h io H σ (List.prefix_rfl) (Mo.refl H) R re
theorem qs_ct : QS X C (.Continue pos) sCt := PS_imp ps_continue fun E σ H ⟨io, ρ, S, R, re, h⟩ => h io H σ (List.prefix_rfl) (Mo.refl H) R re
theorem qs_expr (he : QE X C e m) (hs : swapsWith e none pos.line X.env = pure false := by rfl) : QS X C (.Expr e pos) (sDrop m) := by
  refine PS_imp (ps_expr he hs) ?_
  rintro E σ H ⟨io, ρ, S, R, re, h⟩
  exact rdE_st R re h fun a S1 io1 H1 b p mo R1 re1 q h1 => h1.next R1 re1
theorem qs_ret (he : QE X C e m) : QS X C (.Return (some e) pos) (sRet m) := by
  refine PS_imp (ps_ret he) ?_
  rintro E σ H ⟨io, ρ, S, R, re, h⟩
  exact rdE_st R re h fun a S1 io1 H1 b p mo R1 re1 q h1 => h1.ret R1 q
theorem qs_set (i : Nat) {x : Str} {pos' : Pos} (hN : X.N.Nodup) (he : QE X C e m) (hi : X.N[i]? = some x := by rfl) (hx : Loc X.env.scope x := by first | exact Or.inl rfl | exact Or.inr rfl) (hs : swapsWith e (some (.Name x pos')) pos.line X.env = pure false := by rfl)
    (hf : X.fn x = true ∨ X.env.scope.names.lookup x = some .local := by first | exact .inl rfl | exact .inr rfl) : QS X C (.Assign [.Name x pos'] e pos) (sSet i m) := by
  refine PS_imp (ps_set hN hi hx he hs hf) ?_
  rintro E σ H ⟨io, ρ, S, R, re, h⟩
  exact rdE_st R re h fun a S1 io1 H1 b p mo R1 re1 q h1 => h1.next R1 (re1.set i q)
theorem qs_if (hc : QT X C c t) (ha : QSs X C a ms) (hb : QSs X C b ms') : QS X C (.If c a b pos) (sIf t ms ms') := by
  refine PS_imp (ps_if hc ha hb) ?_
  rintro E σ H ⟨io, ρ, S, R, re, h⟩
  refine rdT_st R re h fun x S1 io1 H1 p mo R1 re1 h1 => ?_
  split at h1
  · rename_i hx
    rw [if_pos hx]
    exact ⟨io1, ρ, S1, R1, re1, h1⟩
  · rename_i hx
    rw [if_neg hx]
    exact ⟨io1, ρ, S1, R1, re1, h1⟩
end

/-! ### targets that are names, or written tuples of such -/
inductive Pt where
  | nm (i : Nat)
  | tp (ps : List Pt)
/-- the items of a sequence -/
def seqD (S : Sto) : D → Option (List D)
  | .tup ds => some ds
  | .ref n => match S[n]? with
    | some (.lst ds) => some ds
    | _ => none
  | _ => none
mutual
def Pt.put (S : Sto) : Pt → En → D → Option En
  | .nm i, ρ, d => some (ρ.set i (some d))
  | .tp ps, ρ, d => match seqD S d with
    | some ds => Pt.puts S ps ρ ds
    | none => none
def Pt.puts (S : Sto) : List Pt → En → List D → Option En
  | [], ρ, [] => some ρ
  | p :: ps, ρ, d :: ds => match Pt.put S p ρ d with
    | some ρ1 => Pt.puts S ps ρ1 ds
    | none => none
  | _, _, _ => none
end
mutual
def Pt.tg (K : PySem.W.Frag) : Pt → TG
  | .nm i => gName i
  | .tp ps => fun v σ H Q => gTup K ps.length (Pt.tgs K ps) v σ H Q ∨ gLst K ps.length (Pt.tgs K ps) v σ H Q
def Pt.tgs (K : PySem.W.Frag) : List Pt → TGs
  | [] => gNil
  | p :: ps => gCons (Pt.tg K p) (Pt.tgs K ps)
end
mutual
def Pt.within (vs : List Nat) : Pt → Bool
  | .nm i => vs.contains i
  | .tp ps => Pt.withins vs ps
def Pt.withins (vs : List Nat) : List Pt → Bool
  | [] => true
  | p :: ps => Pt.within vs p && Pt.withins vs ps
end
theorem wipe_set {σ : L2.St} {i : Nat} {x : Option V} : ∀ {vs : List Nat}, i ∈ vs → wipe (σ.set i x) vs = wipe σ vs
  | [], h => by cases h
  | v :: vs, h => by
    show (wipe (σ.set i x) vs).set v none = (wipe σ vs).set v none
    have gen : ∀ (ws : List Nat), wipe (σ.set i x) ws = (wipe σ ws).set i (if i ∈ ws then none else x) := by
      intro ws
      induction ws with
      | nil => simp [wipe]
      | cons w ws ih =>
        show (wipe (σ.set i x) ws).set w none = ((wipe σ ws).set w none).set i _
        rw [ih]
        by_cases hw : w = i
        · subst hw
          simp
        · rw [List.set_comm _ _ (Ne.symm hw)]
          by_cases hm : i ∈ ws
          · simp [hm]
          · simp [hm, Ne.symm hw]
    rw [gen vs]
    by_cases hv : v = i
    · subst hv
      simp
    · have hm : i ∈ vs := by
        rcases List.mem_cons.mp h with e | e
        · exact absurd e.symm hv
        · exact e
      rw [if_pos hm]
      congr 1
      apply List.ext_getElem?
      intro j
      by_cases hj : i = j
      · subst hj
        by_cases hl : i < (wipe σ vs).length
        · rw [List.getElem?_set_self hl]
          have : ∀ (ws : List Nat), i ∈ ws → i < σ.length → (wipe σ ws)[i]? = some none := by
            intro ws
            induction ws with
            | nil => intro h; cases h
            | cons w ws ih =>
              intro h hl
              show ((wipe σ ws).set w none)[i]? = _
              by_cases hw : w = i
              · subst hw
                rw [List.getElem?_set_self (by rw [wipe_length]; exact hl)]
              · rw [List.getElem?_set_ne hw]
                rcases List.mem_cons.mp h with e | e
                · exact absurd e.symm hw
                · exact ih e hl
          rw [this vs hm (by rw [wipe_length] at hl; exact hl)]
        · rw [List.getElem?_eq_none (by rw [List.length_set]; omega), List.getElem?_eq_none (by omega)]
      · rw [List.getElem?_set_ne hj]
section
variable {K : PySem.W.Frag} {io : List Addr} {S : Sto} {H : Hp}
theorem seqD_rel {d : D} {v : V} {ds : List D} (R : Rep K io S H) (q : RD K io H d v) (h : seqD S d = some ds) : ∃ a xs, v = .ref a ∧ (SqT K H a xs ∨ SqL K H a xs) ∧ RDs K io H ds xs := by
  unfold seqD at h
  split at h
  · obtain ⟨a, xs, e, h1, h2⟩ := q
    injection h with h
    subst h
    exact ⟨a, xs, e, .inl h1, h2⟩
  · split at h
    · rename_i l e
      obtain ⟨a, e1, h1⟩ := q
      injection h with h
      subst h
      obtain ⟨xs, hx, r⟩ := R.ob _ _ _ e h1
      exact ⟨a, xs, e1, .inr (SqL.of hx), r⟩
    · cases h
  · cases h
mutual
theorem Pt.ok (R : Rep K io S H) : ∀ (p : Pt) {ρ ρ' : En} {σ : L2.St} {d : D} {v : V}, RE K io H ρ σ → RD K io H d v → p.put S ρ d = some ρ' →
    ∃ σ', RE K io H ρ' σ' ∧ (∀ vs, p.within vs = true → wipe σ' vs = wipe σ vs) ∧ ∀ Q : L2.St → Hp → Prop, Q σ' H → p.tg K v σ H Q
  | .nm i, ρ, ρ', σ, d, v, re, q, h => by
    have h : some (ρ.set i (some d)) = some ρ' := h
    injection h with h
    subst h
    exact ⟨σ.set i (some v), re.set i q, fun vs hv => wipe_set (List.contains_iff_mem.mp hv), fun Q hq => hq⟩
  | .tp ps, ρ, ρ', σ, d, v, re, q, h => by
    unfold Pt.put at h
    split at h
    · rename_i ds e
      obtain ⟨a, xs, ev, hs, r⟩ := seqD_rel R q e
      obtain ⟨σ', r1, r2, r3, r4⟩ := Pt.oks R ps re r h
      refine ⟨σ', r1, r2, fun Q hq => ?_⟩
      rcases hs with hs | hs
      · exact .inl ⟨a, xs, ev, hs, r4, r3 Q hq⟩
      · exact .inr ⟨a, xs, ev, hs, r4, r3 Q hq⟩
    · cases h
theorem Pt.oks (R : Rep K io S H) : ∀ (ps : List Pt) {ρ ρ' : En} {σ : L2.St} {ds : List D} {vs : List V}, RE K io H ρ σ → RDs K io H ds vs → Pt.puts S ps ρ ds = some ρ' →
    ∃ σ', RE K io H ρ' σ' ∧ (∀ ws, Pt.withins ws ps = true → wipe σ' ws = wipe σ ws) ∧ (∀ Q : L2.St → Hp → Prop, Q σ' H → Pt.tgs K ps vs σ H Q) ∧ vs.length = ps.length
  | [], ρ, ρ', σ, ds, vs, re, q, h => by
    cases ds with
    | nil =>
      have h : some ρ = some ρ' := h
      injection h with h
      subst h
      have q : vs = [] := q
      subst q
      exact ⟨σ, re, fun _ _ => rfl, fun Q hq => ⟨rfl, hq⟩, rfl⟩
    | cons _ _ => cases h
  | p :: ps, ρ, ρ', σ, ds, vs, re, q, h => by
    cases ds with
    | nil => cases h
    | cons d ds =>
      obtain ⟨v, r, e, q1, q2⟩ := q
      subst e
      unfold Pt.puts at h
      split at h
      · rename_i ρ1 e1
        obtain ⟨σ1, a1, a2, a3⟩ := Pt.ok R p re q1 e1
        obtain ⟨σ2, b1, b2, b3, b4⟩ := Pt.oks R ps a1 q2 h
        refine ⟨σ2, b1, fun ws hw => ?_, fun Q hq => ⟨v, r, rfl, a3 _ (b3 Q hq)⟩, by rw [List.length_cons, List.length_cons, b4]⟩
        have hw : (Pt.within ws p && Pt.withins ws ps) = true := hw
        rw [Bool.and_eq_true] at hw
        rw [b2 ws hw.2, a2 ws hw.1]
      · cases h
end
end
abbrev QP (X : Cx) (tg : Expr) (p : Pt) : Prop := PG X tg (p.tg X.K)
abbrev QPs (X : Cx) (tgs : List Expr) (ps : List Pt) : Prop := PGs X tgs (Pt.tgs X.K ps)
section
variable {X : Cx} {C : Cn} {pos : Pos} {e : Expr} {es : List Expr} {m : M}
theorem qp_nm (i : Nat) {x : Str} (hN : X.N.Nodup) (hi : X.N[i]? = some x := by rfl) (hx : Loc X.env.scope x := by first | exact Or.inl rfl | exact Or.inr rfl) (hf : X.fn x = true ∨ X.env.scope.names.lookup x = some .local := by first | exact .inl rfl | exact .inr rfl) : QP X (.Name x pos) (.nm i) := pg_name hN hi hx hf
theorem qps_nil : QPs X [] [] := pgs_nil
theorem qps_cons {p : Pt} {ps : List Pt} (h1 : QP X e p) (h2 : QPs X es ps) (hs : (assignEach (e :: es) X.env).map (·.2) = assign e X.env :: (assignEach es X.env).map (·.2) := by rfl) : QPs X (e :: es) (p :: ps) := pgs_cons h1 h2 hs
theorem qp_tp {k : Nat} {ps : List Pt} (hc : X.calm = true) (h : QPs X es ps) (hn : (assignEach es X.env).length = ps.length := by rfl) (hst : (assignEach es X.env).findIdx? (·.1) = none := by rfl) : QP X (.Tuple es k pos) (.tp ps) := by
  refine ⟨fun pins s σ H v u Q I r hw => ?_⟩
  rcases hw with hw | hw
  · exact (pg_tup (k := k) (pos := pos) hc h hn hst).run pins s σ H v u Q I r hw
  · exact (pg_lst (k := k) (pos := pos) hc h hn hst).run pins s σ H v u Q I r hw
def sAsg (p : Pt) (m : M) : MS := fun ρ S => (m ρ S).st ρ fun d S1 => match p.put S1 ρ d with
  | some ρ1 => .nx ρ1 S1
  | none => .bad
theorem qs_asg {tg : Expr} {p : Pt} (he : QE X C e m) (hg : QP X tg p) (hs : swapsWithSole [tg] e pos.line X.env = pure false := by rfl) (hw : swappedStores [tg] e X.env = pure none := by rfl)
    (h1 : (assignEach [tg] X.env).map (·.2) = [assign tg X.env] := by rfl) : QS X C (.Assign [tg] e pos) (sAsg p m) := by
  refine PS_imp (ps_asg he hg hs hw h1) ?_
  rintro E σ H ⟨io, ρ, S, R, re, h⟩
  refine rdE_st R re h fun a S1 io1 H1 b pr mo R1 re1 q h1 => ?_
  split at h1
  · rename_i ρ1 e1
    obtain ⟨σ', r1, _, r3⟩ := Pt.ok R1 p re1 q e1
    exact r3 _ (h1.next R1 r1)
  · exact h1.elim
end
end Mn

set_option Elab.async false
set_option linter.all false
set_option maxRecDepth 100000
set_option maxHeartbeats 4000000
namespace Mn
open PySem PySem.Spec PyProof.Rows L2

/-! ### what is walked -/
abbrev It0 := List D × (Sto → Bool)
abbrev MI := En → Sto → Res It0
/-- J walks these items, as long as chk says that their source stands -/
def WkD (K : PySem.W.Frag) (J : It) (io : List Addr) (H : Hp) (ds : List D) (chk : Sto → Bool) : Prop := ∃ (G : Hp → Prop) (Y : Nat → Hp → V → Hp → Prop), Walk J ds.length G Y ∧
  (∀ io' S' H', io <+: io' → Mo H H' → Rep K io' S' H' → chk S' = true → G H') ∧
  ∀ (i : Nat) io' S' H' x H2, io <+: io' → Mo H H' → Rep K io' S' H' → chk S' = true → i < ds.length → Y i H' x H2 → ∃ d, ds[i]? = some d ∧ Mo H' H2 ∧ Rep K io' S' H2 ∧ RD K io' H2 d x
theorem WkD.mono {K : PySem.W.Frag} {J : It} {io io' : List Addr} {H H' : Hp} {ds : List D} {chk : Sto → Bool} (p : io <+: io') (m : Mo H H') (h : WkD K J io H ds chk) : WkD K J io' H' ds chk := by
  obtain ⟨G, Y, w, h1, h2⟩ := h
  exact ⟨G, Y, w, fun io2 S2 H2 p2 m2 => h1 io2 S2 H2 (p.trans p2) (m.trans m2), fun i io2 S2 H2 x H3 p2 m2 => h2 i io2 S2 H2 x H3 (p.trans p2) (m.trans m2)⟩
abbrev rI (K : PySem.W.Frag) : List Addr → Hp → It0 → It → Prop := fun io H a J => WkD K J io H a.1 a.2
def rdI (K : PySem.W.Frag) (C : Cn) (m : MI) : TI := fun σ H R => ∃ io ρ S, Rep K io S H ∧ RE K io H ρ σ ∧ Po K (rI K) C.cl (fun c d H' => C.W c d σ H') io H (m ρ S) R
abbrev QI (X : Cx) (C : Cn) (tg e : Expr) (m : MI) : Prop := PI X tg e (rdI X.K C m)
theorem PI_imp {X : Cx} {tg e : Expr} {t t' : TI} (h : PI X tg e t) (hi : ∀ σ H R, t' σ H R → t σ H R) : PI X tg e t' := ⟨fun pins s σ H R I q => h.run pins s σ H R I (hi σ H R q)⟩
theorem PI_or {X : Cx} {tg e : Expr} {t t' : TI} (h : PI X tg e t) (h' : PI X tg e t') : PI X tg e (fun σ H R => t σ H R ∨ t' σ H R) := ⟨fun pins s σ H R I q => q.elim (h.run pins s σ H R I) (h'.run pins s σ H R I)⟩
def always : Sto → Bool := fun _ => true
def stands (n : Nat) (ds : List D) : Sto → Bool := fun S => decide (S[n]? = some (.lst ds))
/-- the items of a value: a tuple's, a list's, a text's signs -/
def itD (S : Sto) : D → Option It0
  | .tup ds => some (ds, always)
  | .fls ds => some (ds, always)
  | .str x => some (x.cps.toList.map fun c => .str ⟨#[c]⟩, always)
  | .ref n => match S[n]? with
    | some (.lst ds) => some (ds, stands n ds)
    | _ => none
  | _ => none
def iVal (m : M) : MI := fun ρ S => (m ρ S).bind fun d S1 => match itD S1 d with
  | some z => .ok z S1
  | none => .bad
section
variable {K : PySem.W.Frag} {io : List Addr} {H : Hp} {ds : List D} {xs : List V} {a : Addr}
theorem wk_tup (hs : SqT K H a xs) (r : RDs K io H ds xs) : WkD K (Itt K a) io H ds always := by
  refine ⟨_, _, (by rw [← r.length]; exact walk_tup), fun io' S' H' p m R _ => m.sqT hs, fun i io' S' H' x H2 p m R _ hi y => ?_⟩
  obtain ⟨e, y⟩ := y
  subst e
  obtain ⟨d, e1, q⟩ := r.back y
  exact ⟨d, e1, Mo.refl _, R, q.mono p m⟩
theorem wk_fls (hs : FzL K H a xs) (r : RDs K io H ds xs) : WkD K (Itl K a) io H ds always := by
  refine ⟨_, _, (by rw [← r.length]; exact walk_list), fun io' S' H' p m R _ => (m.fzL hs).sq, fun i io' S' H' x H2 p m R _ hi y => ?_⟩
  obtain ⟨e, y⟩ := y
  subst e
  obtain ⟨d, e1, q⟩ := r.back y
  exact ⟨d, e1, Mo.refl _, R, q.mono p m⟩
theorem wk_lst {n : Nat} (R : Rep K io S H) (hs : S[n]? = some (.lst ds)) (ha : io[n]? = some a) : WkD K (Itl K a) io H ds (stands n ds) := by
  obtain ⟨xs, hx, r⟩ := R.ob _ _ _ hs ha
  refine ⟨fun H' => ∃ ys, H' a = some (.lst ys) ∧ ys.length = ds.length, fun i H' x H2 => H2 = H' ∧ ∀ ys, SqL K H' a ys → ys[i]? = some x, ?_, fun io' S' H' p m R' c => ?_, fun i io' S' H' x H2 p m R' c hi y => ?_⟩
  · refine ⟨fun i H' hi ⟨ys, h1, h2⟩ => ⟨ys, ys[i]'(by omega), SqL.of h1, by simp [h2, hi]⟩, fun H' ⟨ys, h1, h2⟩ => ⟨ys, SqL.of h1, by omega⟩, fun i H' x H2 hi g y => y⟩
  · have c : S'[n]? = some (.lst ds) := of_decide_eq_true c
    obtain ⟨ys, h1, h2⟩ := R'.ob _ _ _ c (pre_get p ha)
    exact ⟨ys, h1, h2.length⟩
  · obtain ⟨e, y⟩ := y
    subst e
    have c : S'[n]? = some (.lst ds) := of_decide_eq_true c
    obtain ⟨ys, h1, h2⟩ := R'.ob _ _ _ c (pre_get p ha)
    obtain ⟨d, e1, q⟩ := h2.back (y ys (SqL.of h1))
    exact ⟨d, e1, Mo.refl _, R', q⟩
theorem wk_str (z : Str) : WkD K (Its z) io H (z.cps.toList.map fun c => .str ⟨#[c]⟩) always := by
  refine ⟨_, _, (by rw [List.length_map, Array.length_toList]; exact walk_str), fun io' S' H' p m R' c => trivial, fun i io' S' H' x H2 p m R' c hi y => ?_⟩
  obtain ⟨e, c, hc, ev⟩ := y
  subst e ev
  refine ⟨.str ⟨#[c]⟩, ?_, Mo.refl _, R', rfl⟩
  rw [List.getElem?_map, Array.getElem?_toList, hc]
  rfl
theorem wk_range (lo : Int) (n : Nat) : WkD K (Itr lo n) io H ((List.range n).map fun i => .int (lo + (i : Nat))) always := by
  refine ⟨_, _, (by rw [List.length_map, List.length_range]; exact walk_range), fun io' S' H' p m R' c => trivial, fun i io' S' H' x H2 p m R' c hi y => ?_⟩
  obtain ⟨e, ev⟩ := y
  subst e ev
  refine ⟨.int (lo + (i : Nat)), ?_, Mo.refl _, R', rfl⟩
  rw [List.length_map, List.length_range] at hi
  rw [List.getElem?_map, List.getElem?_range hi]
  rfl
theorem wk_rangeC (lo st : Int) (n : Nat) : WkD K (Itc lo st n) io H ((List.range n).map fun i => .int (lo + (i : Nat) * st)) always := by
  refine ⟨_, _, (by rw [List.length_map, List.length_range]; exact walk_rangeC), fun io' S' H' p m R' c => trivial, fun i io' S' H' x H2 p m R' c hi y => ?_⟩
  obtain ⟨e, ev⟩ := y
  subst e ev
  refine ⟨.int (lo + (i : Nat) * st), ?_, Mo.refl _, R', rfl⟩
  rw [List.length_map, List.length_range] at hi
  rw [List.getElem?_map, List.getElem?_range hi]
  rfl
end
section
variable {X : Cx} {C : Cn} {tg l : Expr} {m : M} {ma : MA}
theorem qi_val (hl : QE X C l m) : QI X C tg l (iVal m) := by
  refine PI_imp (PI_or (PI_or (pi_list hl) (pi_tup hl)) (pi_str hl)) ?_
  rintro σ H Q ⟨io, ρ, S, R, re, h⟩
  unfold iVal at h
  cases e : m ρ S with
  | bad =>
    rw [e] at h
    exact h.elim
  | exc c n S1 =>
    refine .inl (.inl ⟨io, ρ, S, R, re, ?_⟩)
    rw [e] at h ⊢
    exact h
  | ok d S1 =>
    rw [e] at h
    have h : Po X.K (rI X.K) C.cl (fun c d H' => C.W c d σ H') io H (match itD S1 d with | some z => Res.ok z S1 | none => .bad) Q := h
    cases ei : itD S1 d with
    | none =>
      rw [ei] at h
      exact h.elim
    | some z =>
      rw [ei] at h
      unfold itD at ei
      split at ei
      · refine .inl (.inr ⟨io, ρ, S, R, re, ?_⟩)
        rw [e]
        intro io1 H1 v p mo R1 q
        injection ei with ei
        subst ei
        obtain ⟨a, xs, rfl, hs, r⟩ := q
        exact ⟨a, rfl, ⟨xs, hs⟩, h.finP p mo R1 (wk_tup hs r)⟩
      · refine .inl (.inl ⟨io, ρ, S, R, re, ?_⟩)
        rw [e]
        intro io1 H1 v p mo R1 q
        injection ei with ei
        subst ei
        obtain ⟨a, xs, rfl, hs, r⟩ := q
        exact ⟨a, rfl, ⟨xs, hs.sq⟩, h.finP p mo R1 (wk_fls hs r)⟩
      · refine .inr ⟨io, ρ, S, R, re, ?_⟩
        rw [e]
        intro io1 H1 v p mo R1 q
        injection ei with ei
        subst ei
        exact ⟨_, q, h.finP p mo R1 (wk_str _)⟩
      · split at ei
        · rename_i n ds hs
          refine .inl (.inl ⟨io, ρ, S, R, re, ?_⟩)
          rw [e]
          intro io1 H1 v p mo R1 q
          injection ei with ei
          subst ei
          obtain ⟨a, rfl, ha⟩ := q
          obtain ⟨xs, hx, r⟩ := R1.ob _ _ _ hs ha
          exact ⟨a, rfl, ⟨xs, SqL.of hx⟩, h.finP p mo R1 (wk_lst R1 hs ha)⟩
        · cases ei
      · cases ei
/-- range(n), range(a, b), range(a, b, c) -/
def smallI (i : Int) : Bool := decide (-(2 ^ 62) ≤ i) && decide (i < 2 ^ 62)
def iRange1 (a : MA) : MI := fun ρ S => (a ρ S).bind fun ds S1 => match ds with
  | [.int j] => if smallI j = true then .ok ((List.range j.toNat).map fun i => .int (0 + (i : Nat)), always) S1 else .bad
  | _ => .bad
def iRange2 (a : MA) : MI := fun ρ S => (a ρ S).bind fun ds S1 => match ds with
  | [.int i, .int j] => if (smallI i && smallI j) = true then .ok ((List.range (j - i).toNat).map fun k => .int (i + (k : Nat)), always) S1 else .bad
  | _ => .bad
theorem smallI_ok {i : Int} (h : smallI i = true) : -(2 ^ 62) ≤ i ∧ i < 2 ^ 62 := by
  unfold smallI at h
  rw [Bool.and_eq_true] at h
  exact ⟨of_decide_eq_true h.1, of_decide_eq_true h.2⟩
theorem qi_range1 {a : Expr} {p pos : Pos} (hm : X.mg "range" = none) (ha : QA X C [a] ma) (hg : Gl X "range" := by rfl) (hs : starEach [a] X.env = [(false, eval a X.env)] := by rfl) : QI X C tg (.Call (.Name "range" p) [a] [] pos) (iRange1 ma) := by
  refine PI_imp (pi_range1 hg hm ha hs) ?_
  rintro σ H Q ⟨io, ρ, S, R, re, h⟩
  refine rdA_step R re h fun ds S1 io1 H1 vs p1 m1 R1 re1 q1 h1 => ?_
  split at h1
  · split at h1
    · rename_i j hj
      obtain ⟨v, r, rfl, q2, q3⟩ := q1
      have q2 : v = .int j := q2
      have q3 : r = [] := q3
      subst q2 q3
      obtain ⟨s1, s2⟩ := smallI_ok hj
      exact ⟨j, rfl, s1, s2, h1.fin R1 (wk_range 0 _)⟩
    · exact h1.elim
  · exact h1.elim
theorem qi_range2 {a b : Expr} {p pos : Pos} (hm : X.mg "range" = none) (ha : QA X C [a, b] ma) (hg : Gl X "range" := by rfl) (hs : starEach [a, b] X.env = [(false, eval a X.env), (false, eval b X.env)] := by rfl) (hs2 : starEach [b] X.env = [(false, eval b X.env)] := by rfl) :
    QI X C tg (.Call (.Name "range" p) [a, b] [] pos) (iRange2 ma) := by
  refine PI_imp (pi_range2 hg hm ha hs hs2) ?_
  rintro σ H Q ⟨io, ρ, S, R, re, h⟩
  refine rdA_step R re h fun ds S1 io1 H1 vs p1 m1 R1 re1 q1 h1 => ?_
  split at h1
  · split at h1
    · rename_i i j hj
      obtain ⟨v, r, rfl, q2, w, r', rfl, q3, q4⟩ := q1
      have q2 : v = .int i := q2
      have q3 : w = .int j := q3
      have q4 : r' = [] := q4
      subst q2 q3 q4
      rw [Bool.and_eq_true] at hj
      obtain ⟨s1, s2⟩ := smallI_ok hj.1
      obtain ⟨s3, s4⟩ := smallI_ok hj.2
      exact ⟨i, j, rfl, ⟨s1, s2, s3, s4⟩, h1.fin R1 (wk_range i _)⟩
    · exact h1.elim
  · exact h1.elim
end

/-! ### for -/
def mLoop (p : Pt) (body : MS) (chk : Sto → Bool) : List D → MS
  | [], ρ, S => if chk S = true then .nx ρ S else .bad
  | d :: r, ρ, S => if chk S = true then match p.put S ρ d with
      | some ρ1 => match body ρ1 S with
        | .nx ρ2 S2 => mLoop p body chk r ρ2 S2
        | .ct ρ2 S2 => mLoop p body chk r ρ2 S2
        | .bk ρ2 S2 => .nx ρ2 S2
        | .rt d S2 => .rt d S2
        | .ex c n ρ2 S2 => .ex c n ρ2 S2
        | .bad => .bad
      | none => .bad
    else .bad
def sFor (it : MI) (p : Pt) (body : MS) : MS := fun ρ S => (it ρ S).st ρ fun z S1 => mLoop p body z.2 z.1 ρ S1
theorem mLoop_chk {K : PySem.W.Frag} {C : Cn} {p : Pt} {body : MS} {chk : Sto → Bool} {ds : List D} {ρ : En} {S : Sto} {io : List Addr} {H : Hp} {E : Ends} (h : PoS K C io H (mLoop p body chk ds ρ S) E) : chk S = true := by
  cases ds with
  | nil =>
    unfold mLoop at h
    split at h
    · assumption
    · exact h.elim
  | cons d r =>
    unfold mLoop at h
    split at h
    · assumption
    · exact h.elim
section
variable {X : Cx} {C : Cn} {tg iter : Expr} {body : List Stmt} {it : MI} {p : Pt} {mb : MS} {pos : Pos}
theorem qs_for (hp : PassesOwn (model X.prog X.w) X.A X.env X.xe) (hc : X.calm = true) (hi : QI X C tg iter it) (hg : QP X tg p) (hb : QSs X C body mb)
    (hs : ∀ x, foldedSetIterable iter X.env x = pure x := by intro _; rfl) : QS X C (.For tg iter body [] pos) (sFor it p mb) := by
  refine PS_imp (ps_for hp hc hi hg hb hs) ?_
  rintro E σ H ⟨io, ρ, S, R, re, h⟩
  refine ⟨io, ρ, S, R, re, st_step (rel := rI X.K) re h fun z S1 io1 H1 J p1 m1 R1 re1 wk h1 => ?_⟩
  obtain ⟨ds, chk⟩ := z
  obtain ⟨G, Y, w, wg, wy⟩ := wk
  refine for_it w (fun i σ' H' => ∃ io' ρ' S', io1 <+: io' ∧ Mo H1 H' ∧ Rep X.K io' S' H' ∧ RE X.K io' H' ρ' σ' ∧ PoS X.K C io' H' (mLoop p mb chk (ds.drop i) ρ' S') E) ?_ ?_ ?_ ?_
  · exact ⟨io1, ρ, S1, List.prefix_rfl, Mo.refl _, R1, re1, h1⟩
  · rintro i σ' H' _ ⟨io', ρ', S', p', m', R', _, h'⟩
    exact wg io' S' H' p' m' R' (mLoop_chk h')
  · rintro i x σ' H' H2 hi ⟨io', ρ', S', p', m', R', re', h'⟩ y
    have hck := mLoop_chk h'
    obtain ⟨d, hd, mo2, R2, q⟩ := wy i io' S' H' x H2 p' m' R' hck hi y
    have hdr : ds.drop i = d :: ds.drop (i + 1) := by
      rw [List.drop_eq_getElem_cons hi]
      congr 1
      exact Option.some.inj ((List.getElem?_eq_getElem hi).symm.trans hd)
    rw [hdr] at h'
    have h2 := PoS.mono (List.prefix_rfl) mo2 h'
    unfold mLoop at h2
    rw [if_pos hck] at h2
    split at h2
    · rename_i ρ1 e1
      obtain ⟨σ1, r1, _, r3⟩ := Pt.ok R2 p (re'.mono (List.prefix_rfl) mo2) q e1
      refine r3 _ ⟨io', ρ1, S', R2, r1, ?_⟩
      have pm := m'.trans mo2
      generalize mb ρ1 S' = r at h2 ⊢
      cases r with
      | nx ρ2 S2 => exact fun io3 H3 σ3 p3 m3 R3 re3 => ⟨io3, ρ2, S2, p'.trans p3, pm.trans m3, R3, re3, PoS.mono p3 m3 h2⟩
      | ct ρ2 S2 => exact fun io3 H3 σ3 p3 m3 R3 re3 => ⟨io3, ρ2, S2, p'.trans p3, pm.trans m3, R3, re3, PoS.mono p3 m3 h2⟩
      | bk ρ2 S2 => exact h2
      | rt d S2 => exact h2
      | ex c n ρ2 S2 => exact h2
      | bad => exact h2
    · exact h2.elim
  · rintro σ' H' ⟨io', ρ', S', p', m', R', re', h'⟩
    rw [List.drop_length] at h'
    have hck := mLoop_chk h'
    unfold mLoop at h'
    rw [if_pos hck] at h'
    exact h'.next R' re'
end

/-! ### while: so many turns at most -/
def mWhile (t : MT) (body : MS) : Nat → MS
  | 0, _, _ => .bad
  | n + 1, ρ, S => (t ρ S).st ρ fun x S1 => if x = true then match body ρ S1 with
      | .nx ρ2 S2 => mWhile t body n ρ2 S2
      | .ct ρ2 S2 => mWhile t body n ρ2 S2
      | .bk ρ2 S2 => .nx ρ2 S2
      | .rt d S2 => .rt d S2
      | .ex c n ρ2 S2 => .ex c n ρ2 S2
      | .bad => .bad
    else .nx ρ S1
def sWhile (n : Nat) (t : MT) (body : MS) : MS := mWhile t body n
section
variable {X : Cx} {C : Cn} {c : Expr} {body : List Stmt} {t : MT} {mb : MS} {pos : Pos}
theorem qs_while (n : Nat) (hp : PassesOwn (model X.prog X.w) X.A X.env X.xe) (hc : QT X C c t) (hb : QSs X C body mb) : QS X C (.While c body [] pos) (sWhile n t mb) := by
  refine PS_imp (ps_while hp hc hb) ?_
  rintro E σ H ⟨io, ρ, S, R, re, h⟩
  refine ⟨fun k σ' H' => ∃ io' ρ' S', Rep X.K io' S' H' ∧ RE X.K io' H' ρ' σ' ∧ PoS X.K C io' H' (mWhile t mb k ρ' S') E, ⟨n, io, ρ, S, R, re, h⟩, ?_⟩
  rintro k σ' H' ⟨io', ρ', S', R', re', h'⟩
  cases k with
  | zero => exact h'.elim
  | succ k =>
    refine rdT_st (k := fun x S1 => if x = true then _ else _) R' re' h' fun x S1 io1 H1 p1 m1 R1 re1 h1 => ?_
    split at h1
    · rename_i hx
      rw [if_pos hx]
      refine ⟨fun σ3 H3 => ∃ m', m' < k + 1 ∧ ∃ io' ρ' S', Rep X.K io' S' H3 ∧ RE X.K io' H3 ρ' σ3 ∧ PoS X.K C io' H3 (mWhile t mb m' ρ' S') E, fun _ _ q => q, ⟨io1, ρ', S1, R1, re1, ?_⟩⟩
      generalize mb ρ' S1 = r at h1 ⊢
      cases r with
      | nx ρ2 S2 => exact fun io3 H3 σ3 p3 m3 R3 re3 => ⟨k, Nat.lt_succ_self _, io3, ρ2, S2, R3, re3, PoS.mono p3 m3 h1⟩
      | ct ρ2 S2 => exact fun io3 H3 σ3 p3 m3 R3 re3 => ⟨k, Nat.lt_succ_self _, io3, ρ2, S2, R3, re3, PoS.mono p3 m3 h1⟩
      | bk ρ2 S2 => exact h1
      | rt d S2 => exact h1
      | ex c n ρ2 S2 => exact h1
      | bad => exact h1
    · rename_i hx
      rw [if_neg hx]
      exact h1.next R1 re1
end

/-! ### comprehensions -/
/-- nothing may leave a comprehension -/
def Cn.no (C : Cn) : Cn := ⟨C.cl, fun _ _ _ _ => False⟩
def Res.only {α : Type} : Res α → Res α
  | .ok a S => .ok a S
  | _ => .bad
def wipeE (ρ : En) : List Nat → En
  | [] => ρ
  | v :: vs => (wipeE ρ vs).set v none
def mCompL (p : Pt) (cond : MT) (elt : M) (chk : Sto → Bool) (n : Nat) (ρ : En) : List D → Sto → Res D
  | [], S => if chk S = true then .ok (.ref n) S else .bad
  | d :: r, S => if chk S = true then match p.put S ρ d with
      | some ρ1 => ((cond ρ1 S).only).bind fun b S1 => if b = true then ((elt ρ1 S1).only).bind fun x S2 => match S2[n]? with
          | some (.lst acc) => if acc.length < sizeLine then mCompL p cond elt chk n ρ r (S2.set n (.lst (acc ++ [x]))) else .bad
          | _ => .bad
        else mCompL p cond elt chk n ρ r S1
      | none => .bad
    else .bad
/-- vs: the slots of the comprehension's own names -/
def mComp (it : MI) (p : Pt) (cond : MT) (elt : M) (vs : List Nat) : M := fun ρ S => (it ρ S).bind fun z S1 => if p.within vs = true then mCompL p cond elt z.2 S1.length (wipeE ρ vs) z.1 (S1 ++ [.lst []]) else .bad
def tYesM : MT := fun _ S => .ok true S
abbrev QTs (X : Cx) (C : Cn) (ifs : List Expr) (t : MT) : Prop := PTs X ifs (rdT X.K C t)
theorem qts_nil {X : Cx} {C : Cn} : QTs X C [] tYesM := ⟨fun pins s σ H Q I ⟨io, ρ, S, R, re, h⟩ => (pts_nil (X := X)).run pins s σ H Q I (h.fin R rfl)⟩
theorem qts_one {X : Cx} {C : Cn} {c : Expr} {t : MT} (h : QT X C c t) : QTs X C [c] t := pts_one h
theorem RE.wipe {K : PySem.W.Frag} {io : List Addr} {H : Hp} {ρ : En} {σ : L2.St} (h : RE K io H ρ σ) : ∀ vs : List Nat, RE K io H (wipeE ρ vs) (L2.wipe σ vs)
  | [] => h
  | v :: vs => by
    have ih := RE.wipe h vs
    refine ⟨?_, fun i d e => ?_⟩
    · show ((wipeE ρ vs).set v none).length = ((L2.wipe σ vs).set v none).length
      rw [List.length_set, List.length_set]
      exact ih.1
    · have e : ((wipeE ρ vs).set v none)[i]? = some (some d) := e
      show ∃ u, ((L2.wipe σ vs).set v none)[i]? = some (some u) ∧ _
      by_cases hv : v = i
      · subst hv
        by_cases hl : v < (wipeE ρ vs).length
        · rw [List.getElem?_set_self hl] at e
          cases e
        · rw [List.getElem?_eq_none (by rw [List.length_set]; omega)] at e
          cases e
      · rw [List.getElem?_set_ne hv] at e
        rw [List.getElem?_set_ne hv]
        exact ih.2 i d e
theorem only_po {α β : Type} {K : PySem.W.Frag} {rel : List Addr → Hp → α → β → Prop} {C : Cn} {σ : L2.St} {io : List Addr} {H : Hp} {r : Res α} {Q : β → Hp → Prop} {γ δ : Type} {relg : List Addr → Hp → γ → δ → Prop} {k : α → Sto → Res γ} {Qd : δ → Hp → Prop} {cl : Nat → Value} {W : Value → Option Addr → Hp → Prop}
    (h : Po K relg cl W io H ((r.only).bind k) Qd) (hk : ∀ a S1 io1 H1 b, io <+: io1 → Mo H H1 → Rep K io1 S1 H1 → rel io1 H1 a b → Po K relg cl W io1 H1 (k a S1) Qd → Q b H1) : Po K rel C.no.cl (fun c d H' => C.no.W c d σ H') io H r Q := by
  cases r with
  | ok a S => exact fun io1 H1 b p m R q => hk a S io1 H1 b p m R q (Po.mono p m h)
  | exc c n S => exact h.elim
  | bad => exact h
theorem mCompL_chk {K : PySem.W.Frag} {cl : Nat → Value} {W : Value → Option Addr → Hp → Prop} {p : Pt} {cond : MT} {elt : M} {chk : Sto → Bool} {n : Nat} {ρ : En} {ds : List D} {S : Sto} {io : List Addr} {H : Hp} {Q : VK} (h : Po K (rD K) cl W io H (mCompL p cond elt chk n ρ ds S) Q) : chk S = true := by
  cases ds with
  | nil =>
    unfold mCompL at h
    split at h
    · assumption
    · exact h.elim
  | cons d r =>
    unfold mCompL at h
    split at h
    · assumption
    · exact h.elim
section
variable {X : Cx} {C : Cn} {elt tg iter : Expr} {ifs : List Expr} {scope : Scope} {own : List (Str × Nat)} {pos : Pos} {it : MI} {p : Pt} {cond : MT} {me : M}
theorem lc_read {K : PySem.W.Frag} {σ : L2.St} {H : Hp} {Q : VK} {vs : List Nat} (h : rdE K C (mComp it p cond me vs) σ H Q) : tLc (rdI K C it) (p.tg K) (rdT K C.no cond) (rdE K C.no me) vs σ H Q := by
  obtain ⟨io, ρ, S, R, re, h⟩ := h
  refine ⟨io, ρ, S, R, re, Po.imp (relg := rI K) h fun z S1 io1 H1 J _ p1 m1 R1 wk h1 => ?_⟩
  obtain ⟨ds, chk⟩ := z
  split at h1
  · rename_i hw
    intro L hL
    have pp : io1 <+: io1 ++ [L] := List.prefix_append _ _
    have mL : Mo H1 (upd H1 L (.lst [])) := Mo.new hL
    have R2 : Rep K (io1 ++ [L]) (S1 ++ [.lst []]) (upd H1 L (.lst [])) := R1.new hL ⟨[], upd_same, rfl⟩
    have hn : (io1 ++ [L])[S1.length]? = some L := by
      rw [← R1.len]
      exact List.getElem?_concat_length
    obtain ⟨G, Y, w, wg, wy⟩ := wk
    have re2 : RE K (io1 ++ [L]) (upd H1 L (.lst [])) (wipeE ρ vs) (wipe σ vs) := ((re.mono p1 m1).mono pp mL).wipe vs
    refine lc_it w (fun i H' => ∃ io' S', io1 ++ [L] <+: io' ∧ Mo (upd H1 L (.lst [])) H' ∧ Rep K io' S' H' ∧ Po K (rD K) C.cl (fun c d H' => C.W c d σ H') io' H' (mCompL p cond me chk S1.length (wipeE ρ vs) (ds.drop i) S') Q) ?_ ?_ ?_ ?_
    · exact ⟨_, _, List.prefix_rfl, Mo.refl _, R2, Po.mono pp mL h1⟩
    · rintro i H' _ ⟨io', S', p', m', R', h'⟩
      exact wg io' S' H' (pp.trans p') (mL.trans m') R' (mCompL_chk h')
    · rintro i x H' H2 hi ⟨io', S', p', m', R', h'⟩ y
      have hck := mCompL_chk h'
      obtain ⟨d, hd, mo2, R3, q⟩ := wy i io' S' H' x H2 (pp.trans p') (mL.trans m') R' hck hi y
      have hdr : ds.drop i = d :: ds.drop (i + 1) := by
        rw [List.drop_eq_getElem_cons hi]
        congr 1
        exact Option.some.inj ((List.getElem?_eq_getElem hi).symm.trans hd)
      rw [hdr] at h'
      have h2 := Po.mono (List.prefix_rfl) mo2 h'
      unfold mCompL at h2
      rw [if_pos hck] at h2
      have pm := m'.trans mo2
      split at h2
      · rename_i ρ1 e1
        obtain ⟨σ1, r1, r2, r3⟩ := Pt.ok R3 p (re2.mono p' pm) q e1
        refine r3 _ ⟨?_, io', ρ1, S', R3, r1, only_po (rel := rB) (C := C) h2 fun b S4 io4 H4 b' p4 m4 R4 e h4 => ?_⟩
        · rw [r2 vs hw]
          have : ∀ (ws : List Nat), (∀ v ∈ ws, v ∈ vs) → wipe (wipe σ vs) ws = wipe σ vs := by
            intro ws
            induction ws with
            | nil => intro _; rfl
            | cons v ws ih =>
              intro hv
              show (wipe (wipe σ vs) ws).set v none = _
              rw [ih fun u hu => hv u (List.mem_cons_of_mem _ hu)]
              apply List.ext_getElem?
              intro j
              by_cases hj : v = j
              · subst hj
                by_cases hl : v < (wipe σ vs).length
                · rw [List.getElem?_set_self hl]
                  cases hz : (wipe σ vs)[v]? with
                  | none => rw [List.getElem?_eq_none_iff] at hz; omega
                  | some o =>
                    cases o with
                    | none => rfl
                    | some y => exact absurd (hv v List.mem_cons_self) (wipe_some hz).2
                · rw [List.getElem?_eq_none (by rw [List.length_set]; omega), List.getElem?_eq_none (by omega)]
              · rw [List.getElem?_set_ne hj]
          exact this vs fun v hv => hv
        · have e : b = b' := e
          subst e
          split at h4
          · rename_i hb
            rw [if_pos hb]
            refine ⟨io4, ρ1, S4, R4, r1.mono p4 m4, only_po (rel := rD K) (C := C) h4 fun x5 S5 io5 H5 y5 p5 m5 R5 q5 h5 => ?_⟩
            split at h5
            · rename_i acc es
              split at h5
              · rename_i hz
                have hn5 : io5[S1.length]? = some L := pre_get (p'.trans (p4.trans p5)) hn
                obtain ⟨ys, hy, ry⟩ := R5.ob _ _ _ es hn5
                obtain ⟨mo6, R6⟩ := R5.put (o := .lst (ys ++ [y5])) (ob := .lst (acc ++ [x5])) es hn5 fun mo => ⟨_, upd_same, (ry.append (RDs.one q5)).mono (List.prefix_rfl) mo⟩
                refine ⟨ys, hy, by rw [ry.length]; exact hz, io5, _, p'.trans (p4.trans p5), pm.trans (m4.trans (m5.trans mo6)), R6, Po.mono (List.prefix_rfl) mo6 h5⟩
              · exact h5.elim
            · exact h5.elim
          · rename_i hb
            rw [if_neg hb]
            exact ⟨io4, S4, p'.trans p4, pm.trans m4, R4, h4⟩
      · exact h2.elim
    · rintro H' ⟨io', S', p', m', R', h'⟩
      rw [List.drop_length] at h'
      have hck := mCompL_chk h'
      unfold mCompL at h'
      rw [if_pos hck] at h'
      exact h'.fin R' ⟨L, rfl, pre_get p' hn⟩
  · exact h1.elim
theorem qe_lc (hc : X.calm = true) (hN : X.N.Nodup) (hi : QI X C tg iter it) (ok : BlkOk X.N X.env.scope scope own)
    (hg : ∀ (s : Shared) (H : Hp) (Ca : Addr) (cl : List (Str × Addr)) (fp : List Addr), QP (X.blk s H scope (compEnvC scope cl Ca X.env) fp) tg p)
    (ht : ∀ (s : Shared) (H : Hp) (Ca : Addr) (cl : List (Str × Addr)) (fp : List Addr), QTs (X.blk s H scope (compEnvC scope cl Ca X.env) fp) C.no ifs cond)
    (he : ∀ (s : Shared) (H : Hp) (Ca : Addr) (cl : List (Str × Addr)) (fp : List Addr), QE (X.blk s H scope (compEnvC scope cl Ca X.env) fp) C.no elt me) (hs : ∀ x, foldedSetIterable iter X.env x = pure x := by intro _; rfl) :
    QE X C (.ListComp elt [⟨tg, iter, ifs, 0⟩] scope pos) (mComp it p cond me (own.map (·.2))) :=
  PE_imp (pe_lc hc hN hi ok hg ht he hs) fun _ _ _ h => lc_read h
/-- name = [..] on one line -/
theorem qs_setLc (i : Nat) {y : Str} {py spos : Pos} (hc : X.calm = true) (hN : X.N.Nodup) (hi : QI X C tg iter it) (ok : BlkOk X.N X.env.scope scope own)
    (hg : ∀ (s : Shared) (H : Hp) (Ca : Addr) (cl : List (Str × Addr)) (fp : List Addr), QP (X.blk s H scope (compEnvC scope cl Ca X.env) fp) tg p)
    (ht : ∀ (s : Shared) (H : Hp) (Ca : Addr) (cl : List (Str × Addr)) (fp : List Addr), QTs (X.blk s H scope (compEnvC scope cl Ca X.env) fp) C.no ifs cond)
    (he : ∀ (s : Shared) (H : Hp) (Ca : Addr) (cl : List (Str × Addr)) (fp : List Addr), QE (X.blk s H scope (compEnvC scope cl Ca X.env) fp) C.no elt me)
    (hy : X.N[i]? = some y := by rfl) (hyl : X.env.scope.names.lookup y = some .local := by rfl) (hsw : swapsWith (.ListComp elt [⟨tg, iter, ifs, 0⟩] scope pos) (some (.Name y py)) spos.line X.env = pure true := by exact sw_true rfl rfl rfl (by decide +kernel)) (hs : ∀ x, foldedSetIterable iter X.env x = pure x := by intro _; rfl) :
    QS X C (.Assign [.Name y py] (.ListComp elt [⟨tg, iter, ifs, 0⟩] scope pos) spos) (sSet i (mComp it p cond me (own.map (·.2)))) := by
  refine PS_imp (ps_setLc (g := p.tg X.K) (tt := rdT X.K C.no cond) (te := rdE X.K C.no me) hc hN hy hyl hsw hi ok hg ht he hs) ?_
  rintro E σ H ⟨io, ρ, S, R, re, h⟩
  have q : rdE X.K C (mComp it p cond me (own.map (·.2))) σ H fun x H1 => gName i x σ H1 E.nx := rdE_st R re h fun a S1 io1 H1 b pr mo R1 re1 q h1 => h1.next R1 (re1.set i q)
  exact lc_read q
end
end Mn

set_option Elab.async false
set_option linter.all false
set_option maxRecDepth 100000
set_option maxHeartbeats 4000000
/-! Mn: defs, their calls, the law's own call, where no repr is under way (A.guards = some []). -/
namespace Mn
open PySem PySem.Spec PyProof.Rows L2

/-- the def at f keeps its promise wherever no repr is under way -/
structure FnG (P : Program) (w : World) (K : PySem.W.Frag) (mg : Str → Option Value) (base : Heap) (k : Nat) (f : Addr) (fd : FuncData) (ps : List Str) (sp : Sp) : Prop where
  len : ∀ vs H Q E, sp vs H Q E → vs.length = ps.length
  run : ∀ (A : Around) (outer : List Env) (s : Shared) (H : Hp) (args : Args) (us : List Value) (vs : List V) (Q : VK) (E : XK), Room k A → A.guards = some [] → Env0 P w K mg base A outer s H → BindsTo s fd args (ps.zip us) → Vals vs us →
    sp vs H Q E → codeAny (model P w) A (.call (.ref f) args) (CR (L2.CX P w) outer P w H s Q E) s
/-- what a mirror promises -/
def spF (K : PySem.W.Frag) (cl : Nat → Value) (fn : F) : Sp := fun vs H Q E => ∃ io S ds, Rep K io S H ∧ RDs K io H ds vs ∧ Po K (rD K) cl (fun c d H' => E c d H') io H (fn ds S) Q
/-- a def of n parameters and l names in all -/
def mDef (n l : Nat) (m : MS) : F := fun ds S => if ds.length = n then match m (ds.map some ++ List.replicate (l - ds.length) none) S with
    | .nx _ S1 => .ok .non S1
    | .rt d S1 => .ok d S1
    | .ex c k _ S1 => .exc c k S1
    | _ => .bad
  else .bad
theorem re_start {K : PySem.W.Frag} {io : List Addr} {H : Hp} {N : List Str} {ds : List D} {vs : List V} (r : RDs K io H ds vs) : RE K io H (ds.map some ++ List.replicate (N.length - ds.length) none) (L2.start N vs) := by
  have hl := r.length
  unfold L2.start
  refine ⟨by rw [List.length_append, List.length_append, List.length_map, List.length_map, List.length_replicate, List.length_replicate, hl], fun i d e => ?_⟩
  by_cases hi : i < ds.length
  · rw [List.getElem?_append_left (by rw [List.length_map]; exact hi), List.getElem?_map] at e
    cases q : ds[i]? with
    | none =>
      rw [q] at e
      cases e
    | some d' =>
      rw [q] at e
      have e : some (some d') = some (some d) := e
      injection e with e
      injection e with e
      subst e
      obtain ⟨v, hv, rv⟩ := r.get q
      refine ⟨v, ?_, rv⟩
      rw [List.getElem?_append_left (by rw [List.length_map, hl]; exact hi), List.getElem?_map, hv]
      rfl
  · rw [List.getElem?_append_right (by rw [List.length_map]; omega), List.getElem?_replicate] at e
    split at e <;> cases e
section
variable {P : Program} {w : World} {K : PySem.W.Frag} {mg : Str → Option Value} {base : Heap} {cl : Nat → Value}
theorem fg_of {x qual : Str} {params : Arguments} {body : List Stmt} {scope : Scope} {dvs : List V} {kws : List (Str × V)} {f : Addr} {fd : FuncData} {N ps : List Str} {k : Nat} {m : MS} (Fu : FunD K x qual params body scope dvs kws f fd) (Sc : FnScope N ps scope)
    (hbody : ∀ (cdv : Value) (A : Around) (outer : List Env) (s : Shared) (H : Hp) (E : XK), Room k (A.deeper (envOfC qual scope s.heap.objs.size f cdv)) → (A.deeper (envOfC qual scope s.heap.objs.size f cdv)).guards = some [] →
      QSs (cxOf (L2.CX P w) P w K mg base N qual scope f cdv A outer s H E) ⟨cl, fun c d _ H => E c d H⟩ body m) : FnG P w K mg base (k + 1) f fd ps (spF K cl (mDef ps.length N.length m)) := by
  obtain ⟨oc, od, dV, kV, doc, pm, an, cdv, ct, osl, efd, lk, hcd, _, _⟩ := Fu.ex
  subst efd
  have len : ∀ vs H Q E, spF K cl (mDef ps.length N.length m) vs H Q E → vs.length = ps.length := fun vs H Q E ⟨io, S, ds, _, r, h⟩ => by
    rw [r.length]
    unfold mDef at h
    split at h
    · assumption
    · exact h.elim
  refine ⟨len, fun A outer s H args us vs Q E room gds env hb rel hsp => ?_⟩
  have hl := len _ _ _ _ hsp
  have inK : K.In s.heap := env.mod.kin.keeps fun b o e => (env.bs b o e).1
  have slots : ∀ y ∈ ps.zip us, scope.names.lookup y.1 = some .local ∨ (scope.names.lookup y.1 = some .cell ∧ ((cellsFrom (s.heap.objs.size + 1) scope.names []).lookup y.1).isSome = true) := by
    rintro ⟨n, v⟩ hy
    exact (Sc.par n (List.of_mem_zip hy).1).elim Or.inl fun q => Or.inr ⟨q, PySem.W.cellsFrom_some _ _ _ (.inl q)⟩
  refine codeAny_call_function room.depth (inK _ _ lk) rfl Sc.co Sc.gen rfl (PySem.W.codeRec_of inK hcd) (hb _ _ _ _ ?_)
  refine wpAny_newFunctionEnv_cells Sc.kind slots fun ev hev s1 ic => ?_
  subst hev
  refine ⟨(env.mod.nolimit.keeps fun b o e => (env.bs b o e).1).keeps ic.toInCall.keep, codeAny_func ?_⟩
  obtain ⟨io, S, ds, R, r, h⟩ := hsp
  have I : Inv (cxOf (L2.CX P w) P w K mg base N qual scope f cdv A outer s H E) [] (L2.start N vs) H s1 := inv_start Sc room.hd env hl rel ic
  have hds : ds.length = ps.length := by rw [← r.length]; exact hl
  unfold mDef at h
  rw [if_pos hds] at h
  refine wpAny_mono ((hbody cdv A outer s H E (room.deeper _) gds).run [] s1 (L2.start N vs) H { nx := fun _ H' => Q .non H', rt := Q } I ⟨io, _, S, R, re_start r, ?_⟩) (fun fl s2 hs => ?_) fun e s2 hs => hs
  · show PoS K _ io H (m (ds.map some ++ List.replicate (N.length - ds.length) none) S) _
    generalize m (ds.map some ++ List.replicate (N.length - ds.length) none) S = rs at h ⊢
    cases rs with
    | nx ρ S1 => exact fun io' H' σ' p mo R' _ => h io' H' .non p mo R' rfl
    | rt d S1 => exact h
    | ex c n ρ S1 => exact fun io' H' σ' e p mo R' _ q => h io' H' e p mo R' q
    | bk ρ S1 => exact h.elim
    | ct ρ S1 => exact h.elim
    | bad => exact h.elim
  · cases fl with
    | ret u =>
      obtain ⟨v, σ', H', J, rv, q⟩ := hs
      exact ⟨v, H', J.os, J.bare, J.base, J.hok, rv, q⟩
    | next =>
      obtain ⟨σ', H', J, q⟩ := hs
      exact ⟨V.non, H', J.os, J.bare, J.base, J.hok, rfl, q⟩
    | brk =>
      obtain ⟨_, _, _, q⟩ := hs
      exact q.elim
    | cont =>
      obtain ⟨_, _, _, q⟩ := hs
      exact q.elim
theorem FnG.mono {j k : Nat} {f : Addr} {fd : FuncData} {ps : List Str} {sp : Sp} (G : FnG P w K mg base j f fd ps sp) (h : j ≤ k) : FnG P w K mg base k f fd ps sp := ⟨G.len, fun A outer s H args us vs Q E hr => G.run A outer s H args us vs Q E (hr.mono h)⟩
/-- a def that never ends well promises nothing -/
theorem FnG.bad {k : Nat} {f : Addr} {fd : FuncData} {ps : List Str} : FnG P w K mg base k f fd ps (spF K cl fun _ _ => .bad) := ⟨fun vs H Q E ⟨_, _, _, _, _, h⟩ => h.elim, fun A outer s H args us vs Q E _ _ _ _ _ ⟨_, _, _, _, _, h⟩ => h.elim⟩
end
section
variable {X : Cx} {C : Cn} {k : Nat} {f : Addr} {fd : FuncData} {ps : List Str} {fn : F} {x : Str} {p pos : Pos} {e : Expr} {es : List Expr} {ma : MA}
theorem run_g {pins : List (Addr × Obj)} {σ : L2.St} {H : Hp} {s : Shared} {Q : VK} {args : Args} {us : List Value} {vs : List V} (G : FnG X.prog X.w X.K X.mg X.base k f fd ps (spF X.K C.cl fn)) (hr : Room k X.A) (hg : X.A.guards = some []) (tk : Takes X C.W) (I : Inv X pins σ H s)
    (hb : BindsTo s fd args (ps.zip us)) (r : Vals vs us) (h : spF X.K C.cl fn vs H Q (WE C.W σ)) : codeAny (model X.prog X.w) X.A (.call (.ref f) args) (fun r s' => match r with | .ok (.ret u) => EP X pins σ Q u s' | .ok _ => False | .error e => X.xe e s') s := by
  refine codeAny_mono (G.run X.A X.stack s H args us vs Q (WE C.W σ) hr hg I.env0 hb r h) fun r s' hq => ?_
  cases r with
  | error e => exact passAt tk σ pins H s e s' I hq
  | ok fl =>
    cases fl with
    | ret u => exact I.after hq
    | _ => exact hq
theorem qe_call (G : FnG X.prog X.w X.K X.mg X.base k f fd ps (spF X.K C.cl fn)) (hr : Room k X.A) (hgd : X.A.guards = some []) (hm : X.mg x = some (.ref f)) (hk : PySem.W.keepIn X.K (.ref f) = true) (hb : Binds X.K fd ps []) (tk : Takes X C.W) (ha : QA X C (e :: es) ma)
    (hg : Gl X x := by rfl) (hdb : (x == ("__debug__" : Str)) = false := by decide) (he : starEach (e :: es) X.env = (false, eval e X.env) :: starEach es X.env := by rfl) (hpl : (backTo pos (starEach es X.env)).any (·.1) = false := by rfl) :
    QE X C (.Call (.Name x p) (e :: es) [] pos) (mCB fn ma) := by
  refine ⟨fun pins s σ H Q I h => ?_⟩
  obtain ⟨io, ρ, S, R, re, h⟩ := h
  have ra : rdA X.K C ma σ H fun vs H1 => spF X.K C.cl fn vs H1 Q (WE C.W σ) := rdA_step R re h fun ds S1 io1 H1 vs p1 m1 R1 re1 q1 h1 => ⟨io1, S1, ds, R1, q1, h1⟩
  refine wpAny_Call_Name_kw (ld_glob I hg hm ?_ hdb)
  refine PySem.W.callWith_K (h₀ := X.base) I.ok.mod.kin hk (thn (ha.run pos pins s σ H _ I ra) fun us s1 ⟨vs, H1, I1, r, q⟩ => ⟨I1.kIn, ?_⟩) he hpl
  have hl : us.length = ps.length := by rw [← r.length]; exact G.len _ _ _ _ q
  have b := hb s1 us I1.kIn (by rw [List.append_nil]; exact hl)
  rw [List.append_nil] at b
  refine wpAny_call (codeAny_mono (run_g G hr hgd tk I1 b r q) fun z s' hz => ?_)
  cases z with
  | error e => exact hz
  | ok fl => cases fl <;> exact hz
theorem qe_call0 (G : FnG X.prog X.w X.K X.mg X.base k f fd ps (spF X.K C.cl fn)) (hr : Room k X.A) (hgd : X.A.guards = some []) (hm : X.mg x = some (.ref f)) (hk : PySem.W.keepIn X.K (.ref f) = true) (hb : Binds X.K fd ps []) (tk : Takes X C.W)
    (hg : Gl X x := by rfl) (hdb : (x == ("__debug__" : Str)) = false := by decide) : QE X C (.Call (.Name x p) [] [] pos) (mCB fn aNil) := by
  refine ⟨fun pins s σ H Q I h => ?_⟩
  obtain ⟨io, ρ, S, R, re, h⟩ := h
  have q : spF X.K C.cl fn [] H Q (WE C.W σ) := ⟨io, S, [], R, rfl, h⟩
  refine wpAny_Call_Name_kw (ld_glob I hg hm ?_ hdb)
  refine PySem.W.callWith_K0 I.kIn hk ?_
  have b := hb s [] I.kIn (G.len _ _ _ _ q)
  refine wpAny_call (codeAny_mono (run_g (us := []) G hr hgd tk I b .nil q) fun z s' hz => ?_)
  cases z with
  | error e => exact hz
  | ok fl => cases fl <;> exact hz
/-! ### calls with keywords: positional arguments, then keywords; g puts them in the parameters' order -/
abbrev QK (X : Cx) (C : Cn) (ks : List Keyword) (m : MA) : Prop := PK X ks (rdA X.K C m)
theorem PK_imp {ks : List Keyword} {t t' : TA} (h : PK X ks t) (hi : ∀ σ H Q, t' σ H Q → t σ H Q) : PK X ks t' := ⟨fun pos pins s σ H Q I q => h.run pos pins s σ H Q I (hi σ H Q q)⟩
theorem qk_nil : QK X C [] aNil := PK_imp pk_nil fun σ H Q ⟨io, ρ, S, R, re, h⟩ => h.fin R rfl
end
section
variable {P : Program} {w : World} {K : PySem.W.Frag} {mg mb : Str → Option Value} {cl : Nat → Value} {k : Nat} {fa a : Addr} {fd : FuncData} {x : Str} {fn : F} {s₁ : Shared} {vs : List Value} {ns : List Int}
/-- the law's own call, from what its mirror makes of the script -/
theorem law_call_g (KX : K.In s₁.heap) (hns : s₁.heap.Ns mainGlobals mg) (hb : s₁.heap.Ns builtinsNs mb) (hbb : ∀ x : Str, x ≠ "__name__" → mb x = bootBuiltins x) (hlim : s₁.heap.NoLimit) (hg : s₁.gens = #[])
    (ha : s₁.heap.get? a = some { cls := .type "list", data := .seq vs.toArray }) (hi : IntsAre vs ns) (hl : ns.length ≤ sizeLine) (hr : Room k callerA)
    (G : ∀ base : Heap, K.In base → base.Ns mainGlobals mg → FnG P w K mg base k fa fd [x] (spF K cl fn)) (hbind : ∀ (s : Shared) (u : Value), BindsTo s fd ⟨[u], []⟩ [(x, u)])
    (hfn : ∃ S', fn [.fls (ns.map D.int)] [] = .ok (.bl true) S') :
    codeAny (model P w) callerA (.call (.ref fa) ⟨[.ref a], []⟩) (fun r s' => r = .ok (.ret (.bool true)) ∧ OldK s₁.heap s'.heap ∧ s'.os = s₁.os ∧ AllBare s'.gens) s₁ := by
  have rv := vals_ints hi
  obtain ⟨S', hS'⟩ := hfn
  -- H: the abstract heap that knows of the script alone, or of nothing
  suffices core : ∀ H : Hp, (∀ b, H b = none ∨ (b = a ∧ H b = some (.frz { cls := .type "list", data := .seq vs.toArray } (.lst (ns.map V.int))))) → FzL K H a (ns.map V.int) → (H a ≠ none → K.lookup a = none) →
      codeAny (model P w) callerA (.call (.ref fa) ⟨[.ref a], []⟩) (fun r s' => r = .ok (.ret (.bool true)) ∧ OldK s₁.heap s'.heap ∧ s'.os = s₁.os ∧ AllBare s'.gens) s₁ by
    cases hk : K.lookup a with
    | some o =>
      have e := KX a o hk
      rw [ha] at e
      cases e
      exact core (fun _ => none) (fun _ => .inl rfl) (.inr ⟨_, vs.toArray, _, hk, rfl, rfl, rfl, by rw [List.size_toArray, hi.length]; exact hl, by simpa using rv⟩) fun z => absurd rfl z
    | none =>
      refine core (fun b => if b = a then some (.frz { cls := .type "list", data := .seq vs.toArray } (.lst (ns.map V.int))) else none) (fun b => ?_) (.inl ⟨_, if_pos rfl⟩) fun _ => hk
      by_cases e : b = a
      · exact .inr ⟨e, if_pos e⟩
      · exact .inl (if_neg e)
  intro H hA hF hK
  have known : ∀ {b : Addr} {u : HO}, H b = some u → b = a ∧ u = .frz { cls := .type "list", data := .seq vs.toArray } (.lst (ns.map V.int)) := fun {b u} e => by
    rcases hA b with z | ⟨z, q⟩
    · rw [z] at e
      cases e
    · rw [q] at e
      exact ⟨z, (Option.some.inj e).symm⟩
  have ok : HOk P w H s₁.heap := fun b u e => by
    obtain ⟨rfl, rfl⟩ := known e
    exact ⟨ha, by rw [List.length_map]; exact hl, vs, _, rv, ha⟩
  have off : ∀ {b : Addr} {o : Obj}, s₁.heap.get? b = some o → b ≠ a → (hidT s₁.heap H).get? b = some o := fun {b o} e n => hidT_get e (by
    cases q : H b with
    | none => rfl
    | some u => exact absurd (known q).1 n)
  have dictOff : ∀ {b : Addr} {mm : Str → Option Value}, s₁.heap.Ns b mm → (hidT s₁.heap H).Ns b mm := fun {b mm} ⟨o, es, ep, e, d, r⟩ => ⟨o, es, ep, off e (fun z => by
    subst z
    rw [ha] at e
    cases e
    cases d), d, r⟩
  have kOff : K.In (hidT s₁.heap H) := fun b o e => by
    by_cases z : b = a
    · refine hidT_get (KX b o e) ?_
      cases q : H b with
      | none => rfl
      | some u =>
        have := hK (by rw [← z, q]; simp)
        rw [z, this] at e
        cases e
    · exact off (KX b o e) z
  have mod : Mod K mg (hidT s₁.heap H) := by
    obtain ⟨mc, h1, h2⟩ := hlim
    exact ⟨kOff, dictOff hns, ⟨mb, dictOff hb, hbb⟩, ⟨mc, dictOff h1, h2⟩⟩
  have env : Env0 P w K mg (hidT s₁.heap H) callerA [] s₁ H := ⟨rfl, mod, fun b o e => of_hidT e, Nat.le_of_eq (hidT_size _ _), trivial, (fun b hb => by cases hb), ok, .of_eq hg⟩
  have sp : spF K cl fn [.ref a] H (fun v _ => v = .bl true) (fun _ _ _ => False) := by
    refine ⟨[], [], [.fls (ns.map D.int)], ⟨rfl, (fun i j b e => by simp at e), (fun n o b e => by simp at e)⟩, RDs.one ⟨a, _, rfl, hF, RDs.of_ints ns⟩, ?_⟩
    rw [hS']
    exact fun _ _ _ _ _ _ q => q
  refine codeAny_mono ((G _ kOff (dictOff hns)).run callerA [] s₁ H ⟨[.ref a], []⟩ [.ref a] [.ref a] _ _ hr rfl env (hbind s₁ (.ref a)) (.cons rfl .nil) sp) fun r s' h => ?_
  cases r with
  | error e =>
    obtain ⟨_, _, _, _, _, _, _, _, _, _, _, _, z⟩ := h
    exact z.elim
  | ok fl =>
    cases fl with
    | ret u =>
      obtain ⟨v, H', os, bare, un, hok', r', q⟩ := h
      have q : v = .bl true := q
      subst q
      have r' : u = Value.bool true := r'
      subst r'
      refine ⟨rfl, OldK.of_keep fun b o e => ?_, os, bare⟩
      cases q : H b with
      | none => exact un.keep b o e q (by intro z; cases z) (by simp)
      | some u =>
        obtain ⟨rfl, rfl⟩ := known q
        obtain ⟨e2, _⟩ := hok' _ _ (un.frzs _ _ _ q)
        rw [ha] at e
        cases e
        exact e2
    | _ => exact False.elim h
end
/-- a law: F gives the written part and the function, hlaw what the mirror makes of every script -/
theorem walk_g {l : PySem.W.OpenLaw} {n k : Nat} {q : Program} {loose : List Str} {XP : (Str → Option Value) → Heap → Prop} {YP : World → Heap → Prop} {d : DefRec} {x : Str} {fn : F} (hn : l.most = some n) (hn2 : n ≤ sizeLine) (hdf : d.params.defaults = []) (hr : Room k callerA)
    (Fx : ∀ (w : World) (mg : Str → Option Value) (fa : Addr) (h : Heap), YP w h → h.Ns mainGlobals mg → mg d.name = some (.ref fa) →
      ∃ (K : PySem.W.Frag) (fd : FuncData) (cl : Nat → Value), K.In h ∧ (∀ (s : Shared) (u : Value), BindsTo s fd ⟨[u], []⟩ [(x, u)]) ∧ ∀ base : Heap, K.In base → base.Ns mainGlobals mg → FnG l.prog w K mg base k fa fd [x] (spF K cl fn))
    (hlaw : ∀ ns : List Int, ns.length ≤ n → ∃ S', fn [.fls (ns.map D.int)] [] = .ok (.bl true) S') : PySem.W.WalkO q loose XP YP l.row.toRowW d [] (fun f vs => PySem.call f vs) := by
  refine Att.attach_call hn hdf fun w s₀ s₁ mg mb fa o pm cd doc a vs ns G Y ho hd hcd hmg hobj hints hlen hg => ?_
  obtain ⟨K, fd, cl, KX, hb, hF⟩ := Fx w mg fa _ Y G.T.g hmg
  exact law_call_g KX G.T.g G.T.b G.T.builtins G.T.nolimit hg hobj hints (Nat.le_trans hlen hn2) hr hF hb (hlaw ns hlen)
end Mn

set_option Elab.async false
set_option linter.all false
set_option maxRecDepth 100000
set_option maxHeartbeats 4000000
namespace Mn
open PySem PySem.Spec PyProof.Rows L2

/-! ### more of ints -/
def mulOk (i j : Int) : Bool := (decide (-(2 ^ 64) < i) && decide (i < 2 ^ 64)) || (decide (-(2 ^ 64) < j) && decide (j < 2 ^ 64)) || decide (i.natAbs.log2 + j.natAbs.log2 < 1000000)
def powOk (i j : Int) : Bool := decide (0 ≤ j) && decide ((Builtin.Int.intBits i : Int) * j ≤ 2 ^ 27)
def divOk (j : Int) : Bool := decide (0 < j) && decide (j < 1073741824)
/-- * of ints, of a list or a tuple and an int -/
def fMul : D → D → Sto → Res D := fun x y S => match x, y with
  | .int i, .int j => if mulOk i j = true then .ok (.int (i * j)) S else .bad
  | .ref n, .int k => match S[n]? with
    | some (.lst ds) => if smallI k = true ∧ ds.length * k.toNat ≤ sizeLine then .ok (.ref S.length) (S ++ [.lst (List.replicate k.toNat ds).flatten]) else .bad
    | _ => .bad
  | _, _ => .bad
theorem RDs.rep {K : PySem.W.Frag} {io : List Addr} {H : Hp} {ds : List D} {vs : List V} (r : RDs K io H ds vs) : ∀ n : Nat, RDs K io H (List.replicate n ds).flatten (List.replicate n vs).flatten
  | 0 => rfl
  | n + 1 => by
    rw [List.replicate_succ, List.replicate_succ, List.flatten_cons, List.flatten_cons]
    exact r.append (RDs.rep r n)
section
variable {X : Cx}
theorem os_mul : OpS X (binaryOp .Mult) fMul := by
  refine OpS.of (((op_mul.or op_mulW)).or op_rep) fun cl W io S d e x y H Q R q1 q2 z => ?_
  unfold fMul at z
  split at z
  · split at z
    · rename_i i j hc
      unfold mulOk at hc
      rw [Bool.or_eq_true, Bool.or_eq_true, Bool.and_eq_true, Bool.and_eq_true] at hc
      have z := z.fin R (show RD X.K io H (.int (i * j)) (.int (i * j)) from rfl)
      rcases hc with (⟨h1, h2⟩ | ⟨h1, h2⟩) | h
      · exact .inl (.inl ⟨i, j, q1, q2, .inl ⟨of_decide_eq_true h1, of_decide_eq_true h2⟩, z⟩)
      · exact .inl (.inl ⟨i, j, q1, q2, .inr ⟨of_decide_eq_true h1, of_decide_eq_true h2⟩, z⟩)
      · exact .inl (.inr ⟨i, j, q1, q2, (of_decide_eq_true h : i.natAbs.log2 + j.natAbs.log2 < 1000000), z⟩)
    · exact z.elim
  · rename_i n k
    split at z
    · rename_i ds hs
      split at z
      · rename_i hc
        obtain ⟨p, rfl, hp⟩ := q1
        obtain ⟨xs, hx, r⟩ := R.ob _ _ _ hs hp
        have hl := r.length
        obtain ⟨s1, s2⟩ := smallI_ok hc.1
        refine .inr ⟨p, k, xs, rfl, q2, hx, by omega, by omega, by rw [hl]; exact hc.2, fun t ht => ?_⟩
        have pp : io <+: io ++ [t] := List.prefix_append _ _
        refine z.finP pp (Mo.new ht) (R.new ht ⟨_, upd_same, (r.rep _).mono pp (Mo.new ht)⟩) ⟨t, rfl, ?_⟩
        rw [← R.len]
        exact List.getElem?_concat_length
      · exact z.elim
    · exact z.elim
  · exact z.elim
abbrev fDiv := fI (fun _ j => divOk j) fun i j => .int (i / j)
theorem os_div : OpS X (binaryOp .FloorDiv) fDiv := os_I op_fdiv fun _ _ h => by
  unfold divOk at h
  rw [Bool.and_eq_true] at h
  exact ⟨of_decide_eq_true h.1, of_decide_eq_true h.2⟩
abbrev fPow := fI powOk fun i j => .int (i ^ j.toNat)
theorem op_powX : OpR X (binaryOp .Pow) (L2.rI (fun i j => 0 ≤ j ∧ (Builtin.Int.intBits i : Int) * j ≤ 2 ^ 27) fun i j => .int (i ^ j.toNat)) := opI fun _ _ _ _ _ _ _ hc q => pow_int hc.1 hc.2 q
theorem os_pow : OpS X (binaryOp .Pow) fPow := os_I op_powX fun _ _ h => by
  unfold powOk at h
  rw [Bool.and_eq_true] at h
  exact ⟨of_decide_eq_true h.1, of_decide_eq_true h.2⟩
/-- is None, is not None -/
def fIsN : D → D → Sto → Res D := fun x y S => match y with
  | .non => .ok (.bl (decide (x = .non))) S
  | _ => .bad
def fNotN : D → D → Sto → Res D := fun x y S => match y with
  | .non => .ok (.bl (!decide (x = .non))) S
  | _ => .bad
theorem non_iff {K : PySem.W.Frag} {io : List Addr} {H : Hp} {d : D} {x : V} (q : RD K io H d x) : decide (x = V.non) = decide (d = D.non) := by
  cases d with
  | non => have q : x = _ := q; subst q; simp
  | bl b => have q : x = _ := q; subst q; simp
  | int b => have q : x = _ := q; subst q; simp
  | str b => have q : x = _ := q; subst q; simp
  | tup b => obtain ⟨a, xs, rfl, _⟩ := q; simp
  | fls b => obtain ⟨a, xs, rfl, _⟩ := q; simp
  | ref b => obtain ⟨a, rfl, _⟩ := q; simp
theorem os_isN : OpS X (compareOp .Is) fIsN := by
  refine OpS.of op_isN fun cl W io S d e x y H Q R q1 q2 z => ?_
  unfold fIsN at z
  split at z
  · rw [← non_iff q1] at z
    exact ⟨q2, z.fin R rfl⟩
  · exact z.elim
theorem os_notN : OpS X (compareOp .IsNot) fNotN := by
  refine OpS.of op_notN fun cl W io S d e x y H Q R q1 q2 z => ?_
  unfold fNotN at z
  split at z
  · rw [← non_iff q1] at z
    exact ⟨q2, z.fin R rfl⟩
  · exact z.elim
/-- is, is not: of two truths -/
def fIsB : D → D → Sto → Res D := fun x y S => match x, y with
  | .bl a, .bl b => .ok (.bl (decide (a = b))) S
  | _, _ => .bad
theorem os_isB : OpS X (compareOp .Is) fIsB := by
  refine OpS.of op_is_bl fun cl W io S d e x y H Q R q1 q2 z => ?_
  unfold fIsB at z
  split at z
  · exact ⟨_, _, q1, q2, z.fin R rfl⟩
  · exact z.elim
end

/-! ### built-ins -/
def cAbs : F := fun ds S => match ds with
  | [.int i] => .ok (.int (if i < 0 then -i else i)) S
  | _ => .bad
def cInt : F := fun ds S => match ds with
  | [.int i] => .ok (.int i) S
  | [.bl k] => .ok (.int (if k then 1 else 0)) S
  | _ => .bad
def cMax : F := fun ds S => match ds with
  | [.int i, .int j] => .ok (.int (if j > i then j else i)) S
  | _ => .bad
def cMin : F := fun ds S => match ds with
  | [.int i, .int j] => .ok (.int (if j < i then j else i)) S
  | _ => .bad
def cLen : F := fun ds S => match ds with
  | [.str x] => if x.length ≤ sizeLine then .ok (.int (x.length : Nat)) S else .bad
  | [.tup xs] => .ok (.int (xs.length : Nat)) S
  | [.fls xs] => .ok (.int (xs.length : Nat)) S
  | [.ref n] => match S[n]? with
    | some (.lst xs) => .ok (.int (xs.length : Nat)) S
    | _ => .bad
  | _ => .bad
/-- the truths of a list -/
def blsOf : List D → Option (List Bool)
  | [] => some []
  | .bl b :: r => (blsOf r).map (b :: ·)
  | _ :: _ => none
theorem blsOf_eq : ∀ {ds : List D} {bs : List Bool}, blsOf ds = some bs → ds = bs.map D.bl
  | [], bs, h => by
    have h : some [] = some bs := h
    injection h with h
    subst h
    rfl
  | d :: r, bs, h => by
    cases d with
    | bl b =>
      have h : (blsOf r).map (b :: ·) = some bs := h
      obtain ⟨t, ht, rfl⟩ := Option.map_eq_some_iff.mp h
      rw [blsOf_eq ht]
      rfl
    | _ => cases h
def cAll : F := fun ds S => match ds with
  | [.ref n] => match S[n]? with
    | some (.lst xs) => match blsOf xs with
      | some bs => .ok (.bl (bs.all id)) S
      | none => .bad
    | _ => .bad
  | _ => .bad
def cAny : F := fun ds S => match ds with
  | [.ref n] => match S[n]? with
    | some (.lst xs) => match blsOf xs with
      | some bs => .ok (.bl (bs.any id)) S
      | none => .bad
    | _ => .bad
  | _ => .bad
def cTuple : F := fun ds S => match ds with
  | [.tup xs] => .ok (.tup xs) S
  | [.fls xs] => .ok (.tup xs) S
  | [.ref n] => match S[n]? with
    | some (.lst xs) => .ok (.tup xs) S
    | _ => .bad
  | _ => .bad
def cList : F := fun ds S => match ds with
  | [.tup xs] => .ok (.ref S.length) (S ++ [.lst xs])
  | [.fls xs] => .ok (.ref S.length) (S ++ [.lst xs])
  | [.ref n] => match S[n]? with
    | some (.lst xs) => .ok (.ref S.length) (S ++ [.lst xs])
    | _ => .bad
  | _ => .bad
section
variable {K : PySem.W.Frag} {io : List Addr} {H : Hp}
theorem rds1 {d : D} {vs : List V} (q : RDs K io H [d] vs) : ∃ v, vs = [v] ∧ RD K io H d v := by
  obtain ⟨v, r, rfl, q1, q2⟩ := q
  have q2 : r = [] := q2
  subst q2
  exact ⟨v, rfl, q1⟩
theorem rds2 {d e : D} {vs : List V} (q : RDs K io H [d, e] vs) : ∃ v w, vs = [v, w] ∧ RD K io H d v ∧ RD K io H e w := by
  obtain ⟨v, r, rfl, q1, q2⟩ := q
  obtain ⟨w, rfl, q3⟩ := rds1 q2
  exact ⟨v, w, rfl, q1, q3⟩
end
section
variable {X : Cx}
theorem cs_abs : CaS X (.builtin "abs") cAbs := by
  refine CaS.of call_abs fun cl W io S ds vs H Q R q z => ?_
  unfold cAbs at z
  split at z
  · obtain ⟨v, rfl, q0⟩ := rds1 q
    have q0 : v = _ := q0
    subst q0
    exact ⟨_, rfl, z.fin R rfl⟩
  · exact z.elim
theorem cs_int : CaS X (.type "int") cInt := by
  refine CaS.of call_int1 fun cl W io S ds vs H Q R q z => ?_
  unfold cInt at z
  split at z
  · obtain ⟨v, rfl, q0⟩ := rds1 q
    have q0 : v = _ := q0
    subst q0
    exact .inl ⟨_, rfl, z.fin R rfl⟩
  · obtain ⟨v, rfl, q0⟩ := rds1 q
    have q0 : v = _ := q0
    subst q0
    exact .inr ⟨_, rfl, z.fin R rfl⟩
  · exact z.elim
theorem cs_max (hc : X.calm = true) : CaS X (.builtin "max") cMax := by
  refine CaS.of (call_max2 hc) fun cl W io S ds vs H Q R q z => ?_
  unfold cMax at z
  split at z
  · obtain ⟨v, w, rfl, q1, q2⟩ := rds2 q
    have q1 : v = _ := q1
    have q2 : w = _ := q2
    subst q1 q2
    exact ⟨_, _, rfl, z.fin R rfl⟩
  · exact z.elim
theorem cs_min (hc : X.calm = true) : CaS X (.builtin "min") cMin := by
  refine CaS.of (call_min2 hc) fun cl W io S ds vs H Q R q z => ?_
  unfold cMin at z
  split at z
  · obtain ⟨v, w, rfl, q1, q2⟩ := rds2 q
    have q1 : v = _ := q1
    have q2 : w = _ := q2
    subst q1 q2
    exact ⟨_, _, rfl, z.fin R rfl⟩
  · exact z.elim
theorem cs_len : CaS X (.builtin "len") cLen := by
  refine CaS.of call_len fun cl W io S ds vs H Q R q z => ?_
  unfold cLen at z
  split at z
  · split at z
    · rename_i x hz
      obtain ⟨v, rfl, q0⟩ := rds1 q
      have q0 : v = _ := q0
      subst q0
      exact ⟨_, x.length, rfl, ⟨hz, rfl⟩, z.fin R rfl⟩
    · exact z.elim
  · rename_i xs
    obtain ⟨v, rfl, q0⟩ := rds1 q
    obtain ⟨a, ys, rfl, h1, h2⟩ := q0
    exact ⟨_, xs.length, rfl, .inr ⟨ys, h1, h2.length.symm⟩, z.fin R rfl⟩
  · rename_i xs
    obtain ⟨v, rfl, q0⟩ := rds1 q
    obtain ⟨a, ys, rfl, h1, h2⟩ := q0
    exact ⟨_, xs.length, rfl, .inl ⟨ys, h1.sq, h2.length.symm⟩, z.fin R rfl⟩
  · split at z
    · rename_i n xs hs
      obtain ⟨v, rfl, q0⟩ := rds1 q
      obtain ⟨a, rfl, ha⟩ := q0
      obtain ⟨ys, hy, r⟩ := R.ob _ _ _ hs ha
      exact ⟨_, xs.length, rfl, .inl ⟨ys, SqL.of hy, r.length.symm⟩, z.fin R rfl⟩
    · exact z.elim
  · exact z.elim
theorem cs_all (hc : X.calm = true) : CaS X (.builtin "all") cAll := by
  refine CaS.of (cr_all hc) fun cl W io S ds vs H Q R q z => ?_
  unfold cAll at z
  split at z
  · split at z
    · rename_i n xs hs
      split at z
      · rename_i bs hb
        obtain ⟨v, rfl, q0⟩ := rds1 q
        obtain ⟨a, rfl, ha⟩ := q0
        obtain ⟨ys, hy, r⟩ := R.ob _ _ _ hs ha
        rw [blsOf_eq hb] at r
        have e := r.bls
        subst e
        exact ⟨a, bs, rfl, SqL.of hy, z.fin R rfl⟩
      · exact z.elim
    · exact z.elim
  · exact z.elim
theorem cs_any (hc : X.calm = true) : CaS X (.builtin "any") cAny := by
  refine CaS.of (cr_any hc) fun cl W io S ds vs H Q R q z => ?_
  unfold cAny at z
  split at z
  · split at z
    · rename_i n xs hs
      split at z
      · rename_i bs hb
        obtain ⟨v, rfl, q0⟩ := rds1 q
        obtain ⟨a, rfl, ha⟩ := q0
        obtain ⟨ys, hy, r⟩ := R.ob _ _ _ hs ha
        rw [blsOf_eq hb] at r
        have e := r.bls
        subst e
        exact ⟨a, bs, rfl, SqL.of hy, z.fin R rfl⟩
      · exact z.elim
    · exact z.elim
  · exact z.elim
theorem cs_tuple : CaS X (.type "tuple") cTuple := by
  refine CaS.of call_tuple_of fun cl W io S ds vs H Q R q z => ?_
  unfold cTuple at z
  split at z
  · obtain ⟨v, rfl, q0⟩ := rds1 q
    have q' := q0
    obtain ⟨a, ys, rfl, h1, h2⟩ := q0
    exact ⟨a, ys, rfl, .inr ⟨h1, z.fin R q'⟩⟩
  · obtain ⟨v, rfl, q0⟩ := rds1 q
    obtain ⟨a, ys, rfl, h1, h2⟩ := q0
    exact ⟨a, ys, rfl, .inl ⟨h1.sq, fun l hl => z.finP (List.prefix_rfl) (Mo.new hl) (R.tup hl) ⟨l, _, rfl, SqT.of upd_same, h2.mono (List.prefix_rfl) (Mo.new hl)⟩⟩⟩
  · split at z
    · rename_i n xs hs
      obtain ⟨v, rfl, q0⟩ := rds1 q
      obtain ⟨a, rfl, ha⟩ := q0
      obtain ⟨ys, hy, r⟩ := R.ob _ _ _ hs ha
      exact ⟨a, ys, rfl, .inl ⟨SqL.of hy, fun l hl => z.finP (List.prefix_rfl) (Mo.new hl) (R.tup hl) ⟨l, _, rfl, SqT.of upd_same, r.mono (List.prefix_rfl) (Mo.new hl)⟩⟩⟩
    · exact z.elim
  · exact z.elim
theorem cs_list : CaS X (.type "list") cList := by
  refine CaS.of call_list_of fun cl W io S ds vs H Q R q z => ?_
  have fin : ∀ {xs : List D} {ys : List V}, RDs X.K io H xs ys → Po X.K (rD X.K) cl W io H (Res.ok (D.ref S.length) (S ++ [Ob.lst xs])) Q → ∀ l, H l = none → Q (.ref l) (upd H l (.lst ys)) := by
    intro xs ys r z l hl
    have pp : io <+: io ++ [l] := List.prefix_append _ _
    refine z.finP pp (Mo.new hl) (R.new hl ⟨_, upd_same, r.mono pp (Mo.new hl)⟩) ⟨l, rfl, ?_⟩
    rw [← R.len]
    exact List.getElem?_concat_length
  unfold cList at z
  split at z
  · obtain ⟨v, rfl, q0⟩ := rds1 q
    obtain ⟨a, ys, rfl, h1, h2⟩ := q0
    exact ⟨a, ys, rfl, .inr h1, fin h2 z⟩
  · obtain ⟨v, rfl, q0⟩ := rds1 q
    obtain ⟨a, ys, rfl, h1, h2⟩ := q0
    exact ⟨a, ys, rfl, .inl h1.sq, fin h2 z⟩
  · split at z
    · rename_i n xs hs
      obtain ⟨v, rfl, q0⟩ := rds1 q
      obtain ⟨a, rfl, ha⟩ := q0
      obtain ⟨ys, hy, r⟩ := R.ob _ _ _ hs ha
      exact ⟨a, ys, rfl, .inl (SqL.of hy), fin r z⟩
    · exact z.elim
  · exact z.elim
end
end Mn

set_option Elab.async false
set_option linter.all false
set_option maxRecDepth 100000
set_option maxHeartbeats 4000000
namespace Mn
open PySem PySem.Spec PyProof.Rows L2

/-! ### == at any depth, without dicts -/
inductive Sc where
  | non
  | bl (b : Bool)
  | int (i : Int)
  | str (x : Str)
def Sc.eq : Sc → Sc → Bool
  | .non, .non => true
  | .bl a, .bl b => a == b
  | .bl a, .int j => (if a then 1 else 0) == j
  | .int i, .bl b => i == (if b then 1 else 0)
  | .int i, .int j => i == j
  | .str a, .str b => a == b
  | _, _ => false
inductive Sh where
  | sc (c : Sc)
  | tp (ds : List D)
  | ls (ds : List D)
def shD (S : Sto) : D → Option Sh
  | .non => some (.sc .non)
  | .bl b => some (.sc (.bl b))
  | .int i => some (.sc (.int i))
  | .str x => some (.sc (.str x))
  | .tup ds => some (.tp ds)
  | .fls ds => some (.ls ds)
  | .ref n => match S[n]? with
    | some (.lst ds) => some (.ls ds)
    | _ => none
def andO : List (Option Bool) → Option Bool
  | [] => some true
  | none :: _ => none
  | some b :: r => (andO r).map (b && ·)
def Sh.eqW (e : D → D → Option Bool) : Sh → Sh → Option Bool
  | .sc a, .sc b => some (a.eq b)
  | .tp a, .tp b => (andO (List.zipWith e a b)).map (· && (a.length == b.length))
  | .ls a, .ls b => if a.length = b.length then andO (List.zipWith e a b) else some false
  | _, _ => some false
def eqN : Nat → Sto → D → D → Option Bool
  | 0, _, _, _ => none
  | k + 1, S, x, y => match shD S x, shD S y with
    | some a, some b => a.eqW (eqN k S) b
    | _, _ => none
theorem andO_all : ∀ {l : List (Option Bool)} {b : Bool}, andO l = some b → ∃ bs : List Bool, l = bs.map some ∧ b = bs.all id
  | [], b, h => by
    have h : some true = some b := h
    injection h with h
    exact ⟨[], rfl, h.symm⟩
  | none :: r, b, h => by cases h
  | some c :: r, b, h => by
    have h : (andO r).map (c && ·) = some b := h
    obtain ⟨t, ht, rfl⟩ := Option.map_eq_some_iff.mp h
    obtain ⟨bs, rfl, rfl⟩ := andO_all ht
    exact ⟨c :: bs, rfl, rfl⟩
/-- what a value is, seen by its shape -/
inductive ShV (K : PySem.W.Frag) (io : List Addr) (H : Hp) (h : Heap) : Sh → Value → Prop
  | non : ShV K io H h (.sc .non) .none
  | bl (b : Bool) : ShV K io H h (.sc (.bl b)) (.bool b)
  | int (i : Int) (t : Tok) : ShV K io H h (.sc (.int i)) (.int i t)
  | str (x : Str) (t : Tok) : ShV K io H h (.sc (.str x)) (.str x t)
  | tp {ds : List D} {l : Addr} {xs : List V} {its : List Value} : h.IsTuple l its.toArray → Vals xs its → RDs K io H ds xs → ShV K io H h (.tp ds) (.ref l)
  | ls {ds : List D} {l : Addr} {xs : List V} {its : List Value} : h.IsList l its.toArray → Vals xs its → RDs K io H ds xs → ShV K io H h (.ls ds) (.ref l)
section
variable {X : Cx} {pins : List (Addr × Obj)} {σ : L2.St} {H : Hp} {s : Shared} {io : List Addr} {S : Sto}
theorem shV_of (I : Inv X pins σ H s) (R : Rep X.K io S H) {d : D} {v : V} {u : Value} {sh : Sh} (q : RD X.K io H d v) (r : RelV v u) (h : shD S d = some sh) : ShV X.K io H s.heap sh u := by
  unfold shD at h
  split at h
  · injection h with h; subst h
    have q : v = _ := q; subst q
    have r : u = _ := r; subst r
    exact .non
  · injection h with h; subst h
    have q : v = _ := q; subst q
    have r : u = _ := r; subst r
    exact .bl _
  · injection h with h; subst h
    have q : v = _ := q; subst q
    obtain ⟨t, rfl⟩ := r
    exact .int _ _
  · injection h with h; subst h
    have q : v = _ := q; subst q
    obtain ⟨t, rfl⟩ := r
    exact .str _ _
  · injection h with h; subst h
    obtain ⟨a, xs, rfl, hs, rs⟩ := q
    have r : u = _ := r; subst r
    obtain ⟨its, rv, p, _⟩ := I.tuple hs
    exact .tp p rv rs
  · injection h with h; subst h
    obtain ⟨a, xs, rfl, hs, rs⟩ := q
    have r : u = _ := r; subst r
    obtain ⟨its, rv, p, _⟩ := I.list hs.sq
    exact .ls p.isList rv rs
  · split at h
    · rename_i n ds hs
      injection h with h; subst h
      obtain ⟨a, rfl, ha⟩ := q
      have r : u = _ := r; subst r
      obtain ⟨xs, hx, rs⟩ := R.ob _ _ _ hs ha
      obtain ⟨its, rv, p, _⟩ := I.list (SqL.of hx)
      exact .ls p.isList rv rs
    · cases h
theorem list_same {h : Heap} {l : Addr} {a b : Array Value} (h1 : h.IsList l a) (h2 : h.IsList l b) : a = b := by
  obtain ⟨o, e, _, n, d⟩ := h1
  obtain ⟨o', e', _, n', d'⟩ := h2
  rw [e] at e'; cases e'
  rw [d] at d'
  injection d' with d1 d2
theorem tuple_same {h : Heap} {l : Addr} {a b : Array Value} (h1 : h.IsTuple l a) (h2 : h.IsTuple l b) : a = b := by
  obtain ⟨o, e, _, n, d⟩ := h1
  obtain ⟨o', e', _, n', d'⟩ := h2
  rw [e] at e'; cases e'
  rw [d] at d'
  injection d' with d1 d2
theorem list_sameL {h : Heap} {l : Addr} {a b : List Value} (h1 : h.IsList l a.toArray) (h2 : h.IsList l b.toArray) : a = b := by simpa using congrArg Array.toList (list_same h1 h2)
theorem tuple_sameL {h : Heap} {l : Addr} {a b : List Value} (h1 : h.IsTuple l a.toArray) (h2 : h.IsTuple l b.toArray) : a = b := by simpa using congrArg Array.toList (tuple_same h1 h2)
theorem RDs.zip {K : PySem.W.Frag} {io : List Addr} {H : Hp} {e : D → D → Option Bool} : ∀ {a b : List D} {vs ws : List V} {us zs : List Value} {bs : List Bool} (he : List.zipWith e a b = bs.map some) (r1 : RDs K io H a vs) (r2 : RDs K io H b ws) (q1 : Vals vs us) (q2 : Vals ws zs)
    (j : Nat) (h1 : j < us.length) (h2 : j < zs.length), ∃ x y v w b', a[j]? = some x ∧ b[j]? = some y ∧ RD K io H x v ∧ RD K io H y w ∧ RelV v us[j] ∧ RelV w zs[j] ∧ e x y = some b' ∧ bs[j]? = some b' := by
  intro a b vs ws us zs bs he r1 r2 q1 q2 j h1 h2
  have l1 := r1.length
  have l2 := r2.length
  have l3 := q1.length
  have l4 := q2.length
  obtain ⟨v, hv, rv⟩ := r1.get (i := j) (d := a[j]'(by omega)) (by simp)
  obtain ⟨w, hw, rw'⟩ := r2.get (i := j) (d := b[j]'(by omega)) (by simp)
  obtain ⟨u, hu, ru⟩ := q1.get hv
  obtain ⟨z, hz, rz⟩ := q2.get hw
  have hz' : (List.zipWith e a b)[j]? = some (e (a[j]'(by omega)) (b[j]'(by omega))) := by
    rw [List.getElem?_zipWith]
    simp [List.getElem?_eq_getElem (show j < a.length by omega), List.getElem?_eq_getElem (show j < b.length by omega)]
  rw [he, List.getElem?_map] at hz'
  obtain ⟨b', hb, hb'⟩ := Option.map_eq_some_iff.mp hz'
  refine ⟨_, _, v, w, b', by simp, by simp, rv, rw', ?_, ?_, hb'.symm, hb⟩
  · have : us[j] = u := by
      have e1 := List.getElem?_eq_getElem h1
      rw [hu] at e1
      exact (Option.some.inj e1).symm
    rw [this]; exact ru
  · have : zs[j] = z := by
      have e1 := List.getElem?_eq_getElem h2
      rw [hz] at e1
      exact (Option.some.inj e1).symm
    rw [this]; exact rz
/-- equal to itself -/
theorem eqN_same (I : Inv X pins σ H s) (R : Rep X.K io S H) : ∀ (k : Nat) {d e : D} {v w : V} {u : Value} {b : Bool}, RD X.K io H d v → RD X.K io H e w → RelV v u → RelV w u → eqN k S d e = some b → b = true
  | 0, _, _, _, _, _, _, _, _, _, _, h => by cases h
  | k + 1, d, e, v, w, u, b, q1, q2, r1, r2, h => by
    unfold eqN at h
    split at h
    · rename_i x y h1 h2
      have s1 := shV_of I R q1 r1 h1
      have s2 := shV_of I R q2 r2 h2
      have items : ∀ {ds es : List D} {xs ys : List V} {its : List Value} {bs : List Bool}, List.zipWith (eqN k S) ds es = bs.map some → RDs X.K io H ds xs → RDs X.K io H es ys → Vals xs its → Vals ys its → bs.all id = true := by
        intro ds es xs ys its bs he a1 a2 a3 a4
        rw [List.all_eq_true]
        intro c hc
        obtain ⟨j, hj, hj'⟩ := List.mem_iff_getElem.mp hc
        have ll : (List.zipWith (eqN k S) ds es).length = bs.length := by rw [he, List.length_map]
        rw [List.length_zipWith] at ll
        have l1 := a1.length
        have l3 := a3.length
        obtain ⟨x, y, v', w', b', _, _, c1, c2, c3, c4, c5, c6⟩ := RDs.zip he a1 a2 a3 a4 j (by omega) (by omega)
        rw [List.getElem?_eq_getElem hj, hj'] at c6
        injection c6 with c6
        rw [c6]
        exact eqN_same I R k c1 c2 c3 c4 c5
      cases s1 with
      | non => cases s2 with
        | non => injection h with h; exact h.symm
      | bl c => cases s2 with
        | bl _ => injection h with h; rw [← h]; exact beq_self_eq_true c
      | int i t => cases s2 with
        | int _ _ => injection h with h; rw [← h]; exact beq_self_eq_true i
      | str i t => cases s2 with
        | str _ _ => injection h with h; rw [← h]; exact beq_self_eq_true i
      | tp p rv rs => cases s2 with
        | tp p' rv' rs' =>
          have e1 := tuple_sameL p p'
          subst e1
          obtain ⟨c, hc, hb⟩ := Option.map_eq_some_iff.mp (show (andO _).map _ = some b from h)
          obtain ⟨bs, e1, e2⟩ := andO_all hc
          rw [← hb, e2, items e1 rs rs' rv rv']
          have := rs.length; have := rs'.length; have := rv.length; have := rv'.length
          simp; omega
        | ls p' rv' rs' =>
          obtain ⟨o, e1, c1, _⟩ := p
          obtain ⟨o', e2, c2, _⟩ := p'
          rw [e1] at e2; cases e2
          rw [c1] at c2
          exact absurd c2 (by decide)
      | ls p rv rs => cases s2 with
        | ls p' rv' rs' =>
          have e1 := list_sameL p p'
          subst e1
          have := rs.length; have := rs'.length; have := rv.length; have := rv'.length
          have h : (if _ = _ then andO (List.zipWith (eqN k S) _ _) else some false) = some b := h
          rw [if_pos (by omega)] at h
          obtain ⟨bs, e1, e2⟩ := andO_all h
          rw [e2, items e1 rs rs' rv rv']
        | tp p' rv' rs' =>
          obtain ⟨o, e1, c1, _⟩ := p
          obtain ⟨o', e2, c2, _⟩ := p'
          rw [e1] at e2; cases e2
          rw [c1] at c2
          exact absurd c2 (by decide)
    · cases h
structure Eq3 (A : Around) (s : Shared) (u z : Value) (b : Bool) : Prop where
  rc : SeqAt.RcAt A s u z b
  ne : SeqAt.RcNeAt A s u z (!b)
  eq : SeqAt.EqAt A s u z b
theorem eq3_n (I : Inv X pins σ H s) (R : Rep X.K io S H) : ∀ (k : Nat) (A : Around), A.units + k ≤ cLine → ∀ {d e : D} {v w : V} {u z : Value} {b : Bool}, RD X.K io H d v → RD X.K io H e w → RelV v u → RelV w z → eqN k S d e = some b → Eq3 A s u z b
  | 0, _, _, _, _, _, _, _, _, _, _, _, _, _, h => by cases h
  | k + 1, A, hu, d, e, v, w, u, z, b, q1, q2, r1, r2, h0 => by
    have h := h0
    unfold eqN at h
    split at h
    · rename_i x y h1 h2
      have s1 := shV_of I R q1 r1 h1
      have s2 := shV_of I R q2 r2 h2
      have ul : A.units < cLine := by omega
      have ui : A.in1.units + k ≤ cLine := by show A.units + 1 + k ≤ cLine; omega
      cases s1 with
      | non => cases s2 with
        | non => injection h with h; subst h; exact ⟨.none_none, .none_none, .same _⟩
        | bl c => injection h with h; subst h; exact ⟨.none_bool _, .none_bool _, .none_bool _⟩
        | int c t => injection h with h; subst h; exact ⟨.none_int _ _, .none_int _ _, .none_int _ _⟩
        | str c t => injection h with h; subst h; exact ⟨.none_str _ _, .none_str _ _, .none_str _ _⟩
        | tp p rv rs => injection h with h; subst h; exact ⟨.none_tuple p ul, .none_tuple p ul, .none_tuple p ul⟩
        | ls p rv rs => injection h with h; subst h; exact ⟨.none_list p ul, .none_list p ul, .none_list p ul⟩
      | bl a => cases s2 with
        | non => injection h with h; subst h; exact ⟨.bool_none _, .bool_none _, .bool_none _⟩
        | bl c => injection h with h; subst h; exact ⟨.bool_bool _ _, .bool_bool _ _, .bool_bool _ _⟩
        | int c t => injection h with h; subst h; exact ⟨.bool_int _ _ _, .bool_int _ _ _, .bool_int _ _ _⟩
        | str c t => injection h with h; subst h; exact ⟨.bool_str _ _ _, .bool_str _ _ _, .bool_str _ _ _⟩
        | tp p rv rs => injection h with h; subst h; exact ⟨.bool_tuple _ p ul, .bool_tuple _ p ul, .bool_tuple _ p ul⟩
        | ls p rv rs => injection h with h; subst h; exact ⟨.bool_list _ p ul, .bool_list _ p ul, .bool_list _ p ul⟩
      | int a t' => cases s2 with
        | non => injection h with h; subst h; exact ⟨.int_none _ _, .int_none _ _, .int_none _ _⟩
        | bl c => injection h with h; subst h; exact ⟨.int_bool _ _ _, .int_bool _ _ _, .int_bool _ _ _⟩
        | int c t => injection h with h; subst h; exact ⟨.int_int _ _ _ _, .int_int _ _ _ _, .int_int _ _ _ _⟩
        | str c t => injection h with h; subst h; exact ⟨.int_str _ _ _ _, .int_str _ _ _ _, .int_str _ _ _ _⟩
        | tp p rv rs => injection h with h; subst h; exact ⟨.int_tuple _ _ p ul, .int_tuple _ _ p ul, .int_tuple _ _ p ul⟩
        | ls p rv rs => injection h with h; subst h; exact ⟨.int_list _ _ p ul, .int_list _ _ p ul, .int_list _ _ p ul⟩
      | str a t' => cases s2 with
        | non => injection h with h; subst h; exact ⟨.str_none _ _, .str_none _ _, .str_none _ _⟩
        | bl c => injection h with h; subst h; exact ⟨.str_bool _ _ _, .str_bool _ _ _, .str_bool _ _ _⟩
        | int c t => injection h with h; subst h; exact ⟨.str_int _ _ _ _, .str_int _ _ _ _, .str_int _ _ _ _⟩
        | str c t => injection h with h; subst h; exact ⟨.str_str _ _ _ _, .str_str _ _ _ _, .str_str _ _ _ _⟩
        | tp p rv rs => injection h with h; subst h; exact ⟨.str_tuple _ _ p ul, .str_tuple _ _ p ul, .str_tuple _ _ p ul⟩
        | ls p rv rs => injection h with h; subst h; exact ⟨.str_list _ _ p ul, .str_list _ _ p ul, .str_list _ _ p ul⟩
      | @tp ds l xs its p rv rs => cases s2 with
        | non => injection h with h; subst h; exact ⟨.tuple_none p ul, .tuple_none p ul, .tuple_none p ul⟩
        | bl c => injection h with h; subst h; exact ⟨.tuple_bool _ p ul, .tuple_bool _ p ul, .tuple_bool _ p ul⟩
        | int c t => injection h with h; subst h; exact ⟨.tuple_int _ _ p ul, .tuple_int _ _ p ul, .tuple_int _ _ p ul⟩
        | str c t => injection h with h; subst h; exact ⟨.tuple_str _ _ p ul, .tuple_str _ _ p ul, .tuple_str _ _ p ul⟩
        | ls p' rv' rs' => injection h with h; subst h; exact ⟨.tuple_list p p' ul, .tuple_list p p' ul, .tuple_list p p' ul⟩
        | @tp ds' l' xs' its' p' rv' rs' =>
          obtain ⟨c, hc, hb⟩ := Option.map_eq_some_iff.mp (show (andO _).map _ = some b from h)
          obtain ⟨bs, e1, e2⟩ := andO_all hc
          have l1 := rs.length; have l2 := rs'.length; have l3 := rv.length; have l4 := rv'.length
          have lz : bs.length = min its.length its'.length := by
            have := congrArg List.length e1
            rw [List.length_zipWith, List.length_map] at this
            omega
          have each : ∀ j (j1 : j < its.toArray.size) (j2 : j < its'.toArray.size), SeqAt.EqAt A.in1 s its.toArray[j] its'.toArray[j] (bs.getD j false) := fun j j1 j2 => by
            obtain ⟨x, y, v', w', b', _, _, c1, c2, c3, c4, c5, c6⟩ := RDs.zip e1 rs rs' rv rv' j (by simpa using j1) (by simpa using j2)
            have := (eq3_n I R k A.in1 ui c1 c2 c3 c4 c5).eq
            rw [List.getD_eq_getElem?_getD, c6]
            simpa using this
          have tot : ((List.range (min its.toArray.size its'.toArray.size)).all (fun j => bs.getD j false) && its.toArray.size == its'.toArray.size) = b := by
            rw [← hb, e2, List.size_toArray, List.size_toArray, ← lz, L2.all_range, show (its.length == its'.length) = (ds.length == ds'.length) by rw [← l3, ← l4, l1, l2]]
          have rc := SeqAt.RcAt.tuples p p' ul each
          have rn := SeqAt.RcNeAt.tuples p p' ul each
          rw [tot] at rc rn
          refine ⟨rc, rn, ?_⟩
          by_cases hl : l = l'
          · subst hl
            have : b = true := eqN_same I R (k + 1) q1 q2 r1 r2 h0
            rw [this]
            exact .same _
          · exact .of_refs hl rc
      | @ls ds l xs its p rv rs => cases s2 with
        | non => injection h with h; subst h; exact ⟨.list_none p ul, .list_none p ul, .list_none p ul⟩
        | bl c => injection h with h; subst h; exact ⟨.list_bool _ p ul, .list_bool _ p ul, .list_bool _ p ul⟩
        | int c t => injection h with h; subst h; exact ⟨.list_int _ _ p ul, .list_int _ _ p ul, .list_int _ _ p ul⟩
        | str c t => injection h with h; subst h; exact ⟨.list_str _ _ p ul, .list_str _ _ p ul, .list_str _ _ p ul⟩
        | tp p' rv' rs' => injection h with h; subst h; exact ⟨.list_tuple p p' ul, .list_tuple p p' ul, .list_tuple p p' ul⟩
        | @ls ds' l' xs' its' p' rv' rs' =>
          have l1 := rs.length; have l2 := rs'.length; have l3 := rv.length; have l4 := rv'.length
          have fin : SeqAt.RcAt A s (.ref l) (.ref l') b → SeqAt.RcNeAt A s (.ref l) (.ref l') (!b) → Eq3 A s (.ref l) (.ref l') b := fun rc rn => by
            refine ⟨rc, rn, ?_⟩
            by_cases hl : l = l'
            · subst hl
              have : b = true := eqN_same I R (k + 1) q1 q2 r1 r2 h0
              rw [this]
              exact .same _
            · exact .of_refs hl rc
          have h : (if ds.length = ds'.length then andO (List.zipWith (eqN k S) ds ds') else some false) = some b := h
          split at h
          · rename_i hll
            obtain ⟨bs, e1, e2⟩ := andO_all h
            have lz : bs.length = its.length := by
              have := congrArg List.length e1
              rw [List.length_zipWith, List.length_map] at this
              omega
            have each : ∀ j (j1 : j < its.toArray.size) (j2 : j < its'.toArray.size), SeqAt.EqAt A.in1 s its.toArray[j] its'.toArray[j] (bs.getD j false) := fun j j1 j2 => by
              obtain ⟨x, y, v', w', b', _, _, c1, c2, c3, c4, c5, c6⟩ := RDs.zip e1 rs rs' rv rv' j (by simpa using j1) (by simpa using j2)
              have := (eq3_n I R k A.in1 ui c1 c2 c3 c4 c5).eq
              rw [List.getD_eq_getElem?_getD, c6]
              simpa using this
            have tot : (List.range its.toArray.size).all (fun j => bs.getD j false) = b := by
              rw [e2, List.size_toArray, ← lz, L2.all_range]
            have hz : its.toArray.size = its'.toArray.size := by simp; omega
            have rc := SeqAt.RcAt.lists p p' hz ul each
            have rn := SeqAt.RcNeAt.lists p p' hz ul each
            rw [tot] at rc rn
            exact fin rc rn
          · injection h with h
            subst h
            have hz : (its.toArray.size != its'.toArray.size) = true := by simp; omega
            exact fin (.lists_lengths p p' hz ul) (.lists_lengths p p' hz ul)
    · cases h
end
abbrev eqK : Nat := 150
def fEq : D → D → Sto → Res D := fun x y S => match eqN eqK S x y with
  | some b => .ok (.bl b) S
  | none => .bad
def fNe : D → D → Sto → Res D := fun x y S => match eqN eqK S x y with
  | some b => .ok (.bl (!b)) S
  | none => .bad
/-- x in a tuple, a list, a text -/
def inN (S : Sto) (x : D) (ys : List D) : Option Bool := ((andO (ys.map fun y => (eqN eqK S y x).map (!·)))).map (!·)
def inS (x z : Str) : Bool := match x.cps.toList with
  | [c] => decide (c ∈ z.cps.toList)
  | _ => !(Builtin.Str.occurrences z x 0 z.length 1).isEmpty
def inW (S : Sto) (x : D) : D → Option Bool
  | .str z => match x with
    | .str x => some (inS x z)
    | _ => none
  | y => match shD S y with
    | some (.tp ys) => inN S x ys
    | some (.ls ys) => inN S x ys
    | _ => none
def fIn : D → D → Sto → Res D := fun x y S => match inW S x y with
  | some b => .ok (.bl b) S
  | none => .bad
def fNotIn : D → D → Sto → Res D := fun x y S => match inW S x y with
  | some b => .ok (.bl (!b)) S
  | none => .bad
section
variable {X : Cx} {pins : List (Addr × Obj)} {σ : L2.St} {H : Hp} {s : Shared} {io : List Addr} {S : Sto}
/-- the answer is the value's, whatever it is called -/
theorem eqN_det (I : Inv X pins σ H s) (R : Rep X.K io S H) : ∀ (k : Nat) {d d' e : D} {v v' : V} {u : Value} {b b' : Bool}, RD X.K io H d v → RD X.K io H d' v' → RelV v u → RelV v' u → eqN k S d e = some b → eqN k S d' e = some b' → b = b'
  | 0, _, _, _, _, _, _, _, _, _, _, _, _, h, _ => by cases h
  | k + 1, d, d', e, v, v', u, b, b', q1, q2, r1, r2, h, h' => by
    unfold eqN at h h'
    split at h
    · rename_i x y h1 h2
      split at h'
      · rename_i x' y' h1' h2'
        rw [h2] at h2'
        injection h2' with h2'
        subst h2'
        have s1 := shV_of I R q1 r1 h1
        have s2 := shV_of I R q2 r2 h1'
        have same : ∀ z : Sh, x = z → x' = z → b = b' := fun z z1 z2 => by
          rw [z1] at h
          rw [z2, h] at h'
          exact Option.some.inj h'
        have items : ∀ {ds ds' es : List D} {xs ys : List V} {its : List Value} {bs bs' : List Bool}, List.zipWith (eqN k S) ds es = bs.map some → List.zipWith (eqN k S) ds' es = bs'.map some →
            RDs X.K io H ds xs → RDs X.K io H ds' ys → Vals xs its → Vals ys its → bs = bs' := by
          intro ds ds' es xs ys its bs bs' he he' a1 a2 a3 a4
          have l1 := a1.length; have l2 := a2.length; have l3 := a3.length; have l4 := a4.length
          have m1 := congrArg List.length he
          have m2 := congrArg List.length he'
          rw [List.length_zipWith, List.length_map] at m1 m2
          refine List.ext_getElem (by omega) fun j j1 j2 => ?_
          obtain ⟨v1, hv1, rv1⟩ := a1.get (i := j) (d := ds[j]'(by omega)) (by simp)
          obtain ⟨v2, hv2, rv2⟩ := a2.get (i := j) (d := ds'[j]'(by omega)) (by simp)
          obtain ⟨u1, hu1, ru1⟩ := a3.get hv1
          obtain ⟨u2, hu2, ru2⟩ := a4.get hv2
          rw [hu1] at hu2
          injection hu2 with hu2
          subst hu2
          have g1 : (List.zipWith (eqN k S) ds es)[j]? = some (eqN k S (ds[j]'(by omega)) (es[j]'(by omega))) := by
            rw [List.getElem?_zipWith]
            simp [List.getElem?_eq_getElem (show j < ds.length by omega), List.getElem?_eq_getElem (show j < es.length by omega)]
          have g2 : (List.zipWith (eqN k S) ds' es)[j]? = some (eqN k S (ds'[j]'(by omega)) (es[j]'(by omega))) := by
            rw [List.getElem?_zipWith]
            simp [List.getElem?_eq_getElem (show j < ds'.length by omega), List.getElem?_eq_getElem (show j < es.length by omega)]
          rw [he, List.getElem?_map, List.getElem?_eq_getElem j1] at g1
          rw [he', List.getElem?_map, List.getElem?_eq_getElem j2] at g2
          exact eqN_det I R k rv1 rv2 ru1 ru2 (Option.some.inj g1).symm (Option.some.inj g2).symm
        cases s1 with
        | non => cases s2 with
          | non => exact same _ rfl rfl
        | bl c => cases s2 with
          | bl _ => exact same _ rfl rfl
        | int i t => cases s2 with
          | int _ _ => exact same _ rfl rfl
        | str i t => cases s2 with
          | str _ _ => exact same _ rfl rfl
        | @tp ds l xs its p rv rs => cases s2 with
          | @tp ds' l' xs' its' p' rv' rs' =>
            have e1 := tuple_sameL p p'
            subst e1
            have l1 := rs.length; have l2 := rs'.length; have l3 := rv.length; have l4 := rv'.length
            cases y with
            | tp es =>
              obtain ⟨c, hc, hb⟩ := Option.map_eq_some_iff.mp (show (andO _).map _ = some b from h)
              obtain ⟨c', hc', hb'⟩ := Option.map_eq_some_iff.mp (show (andO _).map _ = some b' from h')
              obtain ⟨bs, e1, e2⟩ := andO_all hc
              obtain ⟨bs', e1', e2'⟩ := andO_all hc'
              rw [← hb, ← hb', e2, e2', items e1 e1' rs rs' rv rv', show ds.length = ds'.length by omega]
            | sc c => injection h with h; injection h' with h'; rw [← h, ← h']
            | ls c => injection h with h; injection h' with h'; rw [← h, ← h']
          | ls p' rv' rs' =>
            obtain ⟨o, e1, c1, _⟩ := p
            obtain ⟨o', e2, c2, _⟩ := p'
            rw [e1] at e2; cases e2
            rw [c1] at c2
            exact absurd c2 (by decide)
        | @ls ds l xs its p rv rs => cases s2 with
          | @ls ds' l' xs' its' p' rv' rs' =>
            have e1 := list_sameL p p'
            subst e1
            have l1 := rs.length; have l2 := rs'.length; have l3 := rv.length; have l4 := rv'.length
            cases y with
            | ls es =>
              have h : (if ds.length = es.length then andO (List.zipWith (eqN k S) ds es) else some false) = some b := h
              have h' : (if ds'.length = es.length then andO (List.zipWith (eqN k S) ds' es) else some false) = some b' := h'
              by_cases hz : ds.length = es.length
              · rw [if_pos hz] at h
                rw [if_pos (by omega)] at h'
                obtain ⟨bs, e1, e2⟩ := andO_all h
                obtain ⟨bs', e1', e2'⟩ := andO_all h'
                rw [e2, e2', items e1 e1' rs rs' rv rv']
              · rw [if_neg hz] at h
                rw [if_neg (by omega)] at h'
                injection h with h; injection h' with h'; rw [← h, ← h']
            | sc c => injection h with h; injection h' with h'; rw [← h, ← h']
            | tp c => injection h with h; injection h' with h'; rw [← h, ← h']
          | tp p' rv' rs' =>
            obtain ⟨o, e1, c1, _⟩ := p
            obtain ⟨o', e2, c2, _⟩ := p'
            rw [e1] at e2; cases e2
            rw [c1] at c2
            exact absurd c2 (by decide)
      · cases h'
    · cases h
theorem inN_bs {x : D} {ys : List D} {b : Bool} (h : inN S x ys = some b) : ∃ bs : List Bool, ys.map (fun y => eqN eqK S y x) = bs.map some ∧ b = bs.any id := by
  unfold inN at h
  obtain ⟨c, hc, rfl⟩ := Option.map_eq_some_iff.mp h
  obtain ⟨bs, e1, rfl⟩ := andO_all hc
  refine ⟨bs.map (!·), ?_, ?_⟩
  · refine List.ext_getElem? fun j => ?_
    have ej := congrArg (fun l => l[j]?) e1
    rw [List.map_map, List.getElem?_map, List.getElem?_map]
    simp only [List.getElem?_map] at ej
    cases hy : ys[j]? with
    | none =>
      rw [hy] at ej
      cases hb : bs[j]? with
      | none => rfl
      | some c => rw [hb] at ej; cases ej
    | some y =>
      rw [hy] at ej
      cases hb : bs[j]? with
      | none => rw [hb] at ej; cases ej
      | some c =>
        rw [hb] at ej
        have ej : some ((eqN eqK S y x).map (!·)) = some (some c) := ej
        injection ej with ej
        obtain ⟨t, ht, rfl⟩ := Option.map_eq_some_iff.mp ej
        show some (eqN eqK S y x) = some (some (!!t))
        rw [ht, Bool.not_not]
  · induction bs generalizing ys with
    | nil => rfl
    | cons c r ih =>
      have key : ∀ l : List Bool, (!(l.all id)) = (l.map (!·)).any id := by
        intro l
        induction l with
        | nil => rfl
        | cons a r ih => rw [List.all_cons, List.map_cons, List.any_cons, ← ih]; cases a <;> rfl
      exact key _
/-- what the library's rule asks for -/
theorem in_eq {A : Around} {io : List Addr} {S : Sto} (I : Inv X pins σ H s) (R : Rep X.K io S H) (hu : A.units + eqK ≤ cLine) {x : D} {v : V} {u : Value} {ys : List D} {xs : List V} {its : List Value} {b : Bool} (q : RD X.K io H x v) (r : RelV v u) (qs : RDs X.K io H ys xs) (rs : Vals xs its) (h : inN S x ys = some b) :
    ∃ e : Value → Bool, (∀ y, y ∈ its.toArray → SeqAt.EqAt A s y u (e y)) ∧ its.toArray.any e = b := by
  obtain ⟨bs, e1, rfl⟩ := inN_bs h
  have l1 := qs.length; have l2 := rs.length
  have lb : bs.length = ys.length := by
    have := congrArg List.length e1
    rw [List.length_map, List.length_map] at this
    exact this.symm
  have at_ : ∀ j (hj : j < its.length), ∃ y w c, RD X.K io H y w ∧ RelV w its[j] ∧ eqN eqK S y x = some c ∧ bs[j]? = some c := fun j hj => by
    obtain ⟨w, hw, rw'⟩ := qs.get (i := j) (d := ys[j]'(by omega)) (by simp)
    obtain ⟨z, hz, rz⟩ := rs.get hw
    have ez : its[j] = z := by
      have q := List.getElem?_eq_getElem hj
      rw [hz] at q
      exact (Option.some.inj q).symm
    have ej := congrArg (fun l => l[j]?) e1
    simp only [List.getElem?_map] at ej
    rw [List.getElem?_eq_getElem (show j < ys.length by omega), List.getElem?_eq_getElem (show j < bs.length by omega)] at ej
    exact ⟨_, w, bs[j]'(by omega), rw', ez ▸ rz, Option.some.inj ej, List.getElem?_eq_getElem _⟩
  classical
  refine ⟨fun y => decide (∃ j : Nat, its[j]? = some y ∧ bs[j]? = some true), fun y hy => ?_, ?_⟩
  · have hy : y ∈ its := by simpa using hy
    obtain ⟨j, hj, rfl⟩ := List.mem_iff_getElem.mp hy
    obtain ⟨d, w, c, c1, c2, c3, c4⟩ := at_ j hj
    have k := (eq3_n I R eqK A hu c1 q c2 r c3).eq
    have ec : ∀ inst : Decidable (∃ j' : Nat, its[j']? = some its[j] ∧ bs[j']? = some true), @decide _ inst = c := fun inst => by
      cases c with
      | true => exact decide_eq_true ⟨j, List.getElem?_eq_getElem hj, c4⟩
      | false =>
        refine decide_eq_false ?_
        rintro ⟨j', a1, a2⟩
        obtain ⟨hj', a1⟩ := List.getElem?_eq_some_iff.mp a1
        obtain ⟨d', w', c', k1, k2, k3, k4⟩ := at_ j' hj'
        rw [a2] at k4
        injection k4 with k4
        subst k4
        rw [a1] at k2
        have := eqN_det I R eqK c1 k1 c2 k2 c3 k3
        cases this
    have e2 := ec (Classical.propDecidable _)
    show SeqAt.EqAt A s its[j] u (decide _)
    rw [ec]
    exact k
  · rw [Bool.eq_iff_iff, ← Array.any_toList, List.any_eq_true, List.any_eq_true]
    constructor
    · rintro ⟨y, _, hy⟩
      obtain ⟨j, _, hj⟩ := of_decide_eq_true hy
      exact ⟨true, List.mem_of_getElem? hj, rfl⟩
    · rintro ⟨c, hc, hc'⟩
      have hc' : c = true := hc'
      subst hc'
      obtain ⟨j, hj, hj'⟩ := List.mem_iff_getElem.mp hc
      refine ⟨its[j]'(by omega), by simp, decide_eq_true ⟨j, List.getElem?_eq_getElem (by omega), ?_⟩⟩
      rw [List.getElem?_eq_getElem hj, hj']
end
section
variable {X : Cx}
theorem os_eq (hu : X.A.units + eqK ≤ cLine) : OpS X (compareOp .Eq) fEq := by
  intro pins s σ H x y v u Q I rx ry q
  obtain ⟨cl, W, io, S, d, e, R, q1, q2, z⟩ := q
  unfold fEq at z
  split at z
  · rename_i b hb
    exact (eq3_n I R eqK X.A hu q1 q2 rx ry hb).rc _ _ _ _ ⟨.bl b, H, I, rfl, z.fin R rfl⟩
  · exact z.elim
theorem os_ne (hu : X.A.units + eqK ≤ cLine) : OpS X (compareOp .NotEq) fNe := by
  intro pins s σ H x y v u Q I rx ry q
  obtain ⟨cl, W, io, S, d, e, R, q1, q2, z⟩ := q
  unfold fNe at z
  split at z
  · rename_i b hb
    exact (eq3_n I R eqK X.A hu q1 q2 rx ry hb).ne _ _ _ _ ⟨.bl (!b), H, I, rfl, z.fin R rfl⟩
  · exact z.elim
theorem inS_run {x z : Str} {pins : List (Addr × Obj)} {σ : L2.St} {H : Hp} {s : Shared} {v u : Value} {Q : VK} (I : Inv X pins σ H s) (rx : RelV (.str x) v) (ry : RelV (.str z) u) :
    (Q (.bl (inS x z)) H → wpAny (model X.prog X.w) X.A (compareOp .In v u) (EP X pins σ Q) X.xe s) ∧ (Q (.bl (!inS x z)) H → wpAny (model X.prog X.w) X.A (compareOp .NotIn v u) (EP X pins σ Q) X.xe s) := by
  unfold inS
  split
  · rename_i c hc
    have e : x = ⟨#[c]⟩ := by
      cases x with
      | mk cps =>
        congr 1
        exact Array.toList_inj.mp hc
    exact ⟨fun q => op_in_sign pins s σ H (.str x) (.str z) v u Q I rx ry ⟨c, z, congrArg V.str e, rfl, q⟩, fun q => op_notIn_sign pins s σ H (.str x) (.str z) v u Q I rx ry ⟨c, z, congrArg V.str e, rfl, q⟩⟩
  · exact ⟨fun q => op_in_str pins s σ H (.str x) (.str z) v u Q I rx ry ⟨x, z, rfl, rfl, q⟩, fun q => op_notIn_str pins s σ H (.str x) (.str z) v u Q I rx ry ⟨x, z, rfl, rfl, q⟩⟩
theorem in_run (hu : X.A.units + 1 + eqK ≤ cLine) {pins : List (Addr × Obj)} {σ : L2.St} {H : Hp} {s : Shared} {io : List Addr} {S : Sto} {d e : D} {x y : V} {v u : Value} {Q : VK} {b : Bool} (I : Inv X pins σ H s) (R : Rep X.K io S H) (q1 : RD X.K io H d x) (q2 : RD X.K io H e y) (rx : RelV x v) (ry : RelV y u)
    (h : inW S d e = some b) : (Q (.bl b) H → wpAny (model X.prog X.w) X.A (compareOp .In v u) (EP X pins σ Q) X.xe s) ∧ (Q (.bl (!b)) H → wpAny (model X.prog X.w) X.A (compareOp .NotIn v u) (EP X pins σ Q) X.xe s) := by
  unfold inW at h
  split at h
  · split at h
    · injection h with h
      subst h
      have q1 : x = _ := q1
      have q2 : y = _ := q2
      subst q1 q2
      exact inS_run I rx ry
    · cases h
  · split at h
    · rename_i ys hy
      cases shV_of I R q2 ry hy with
      | tp p rv rs =>
        obtain ⟨e, e1, e2⟩ := in_eq (A := X.A.in1) I R (show X.A.units + 1 + eqK ≤ cLine from hu) q1 rx rs rv h
        exact ⟨fun q => SeqAt.in_tupleAt e p e1 ⟨.bl b, H, I, by rw [e2]; rfl, q⟩, fun q => SeqAt.notIn_tupleAt e p e1 ⟨.bl (!b), H, I, by rw [e2]; rfl, q⟩⟩
    · rename_i ys hy
      cases shV_of I R q2 ry hy with
      | ls p rv rs =>
        obtain ⟨e, e1, e2⟩ := in_eq (A := X.A.in1) I R (show X.A.units + 1 + eqK ≤ cLine from hu) q1 rx rs rv h
        exact ⟨fun q => SeqAt.in_listAt e p e1 ⟨.bl b, H, I, by rw [e2]; rfl, q⟩, fun q => SeqAt.notIn_listAt e p e1 ⟨.bl (!b), H, I, by rw [e2]; rfl, q⟩⟩
    · cases h
theorem os_in (hu : X.A.units + 1 + eqK ≤ cLine) : OpS X (compareOp .In) fIn := by
  intro pins s σ H x y v u Q I rx ry q
  obtain ⟨cl, W, io, S, d, e, R, q1, q2, z⟩ := q
  unfold fIn at z
  split at z
  · rename_i b hb
    exact (in_run hu I R q1 q2 rx ry hb).1 (z.fin R rfl)
  · exact z.elim
theorem os_notIn (hu : X.A.units + 1 + eqK ≤ cLine) : OpS X (compareOp .NotIn) fNotIn := by
  intro pins s σ H x y v u Q I rx ry q
  obtain ⟨cl, W, io, S, d, e, R, q1, q2, z⟩ := q
  unfold fNotIn at z
  split at z
  · rename_i b hb
    exact (in_run hu I R q1 q2 rx ry hb).2 (z.fin R rfl)
  · exact z.elim
end
end Mn

set_option Elab.async false
set_option linter.all false
set_option maxRecDepth 100000
set_option maxHeartbeats 4000000
namespace Mn
open PySem PySem.Spec PyProof.Rows L2

/-! ### isinstance(x, T) of a built-in type -/
def tyNames : List String := ["NoneType", "bool", "int", "str", "tuple", "list", "dict"]
def isB (a b : String) : Bool := a == b || (a == "bool" && b == "int")
theorem kit_isB (K : PySem.W.Frag) {a b : String} (ha : a ∈ tyNames) (hb : b ∈ tyNames) : PySem.W.kitOne K (.type a) (.type b) = some (isB a b) := by
  have go : (tyNames.all fun a => tyNames.all fun b => decide ((if (Value.type a == Value.type b) = true then some true else if PySem.W.kitMeta b = true then (fastBuiltinMro a).map (·.contains (.type b)) else none) = some (isB a b))) = true := by decide +kernel
  exact of_decide_eq_true (List.all_eq_true.mp (List.all_eq_true.mp go a ha) b hb)
def mIsi (T : String) (a : M) : M := fun ρ S => (a ρ S).bind fun d S => if kOf S d = "?" then .bad else .ok (.bl (isB (kOf S d) T)) S
section
variable {X : Cx} {C : Cn} {e : Expr} {m : M} {p p2 pos : Pos} {T : String} {x : Str}
theorem tyX_of {K : PySem.W.Frag} {io : List Addr} {S : Sto} {H : Hp} {d : D} {v : V} (R : Rep K io S H) (q : RD K io H d v) (h : kOf S d ≠ "?") : TyX K H v (.type (kOf S d)) ∧ kOf S d ∈ tyNames := by
  cases d with
  | non => have q : v = _ := q; subst q; exact ⟨.base .non, by simp [kOf, tyNames]⟩
  | bl b => have q : v = _ := q; subst q; exact ⟨.base (.bl b), by simp [kOf, tyNames]⟩
  | int b => have q : v = _ := q; subst q; exact ⟨.base (.int b), by simp [kOf, tyNames]⟩
  | str b => have q : v = _ := q; subst q; exact ⟨.base (.str b), by simp [kOf, tyNames]⟩
  | tup ds =>
    obtain ⟨a, xs, rfl, hs, _⟩ := q
    refine ⟨?_, by simp [kOf, tyNames]⟩
    rcases hs with (h | ⟨o, h⟩) | ⟨o, its, n, hk, hc, _⟩
    · exact .base (.tup h)
    · exact .fTuple h
    · exact .kTuple hk hc
  | fls ds =>
    obtain ⟨a, xs, rfl, hs, _⟩ := q
    refine ⟨?_, by simp [kOf, tyNames]⟩
    rcases hs with ⟨o, h⟩ | ⟨o, its, n, hk, hc, _⟩
    · exact .base (.frz h)
    · exact .kList hk hc
  | ref n =>
    obtain ⟨a, rfl, ha⟩ := q
    have h : kOb S[n]? ≠ "?" := h
    show TyX K H (.ref a) (.type (kOb S[n]?)) ∧ kOb S[n]? ∈ tyNames
    cases e : S[n]? with
    | none => rw [e] at h; exact absurd rfl h
    | some ob =>
      cases ob with
      | lst ds =>
        obtain ⟨xs, hx, _⟩ := R.ob _ _ _ e ha
        exact ⟨.base (.lst hx), by simp [kOb, tyNames]⟩
      | dct ds =>
        obtain ⟨xs, hx, _⟩ := R.ob _ _ _ e ha
        exact ⟨.base (.dK hx), by simp [kOb, tyNames]⟩
      | ins c fs => rw [e] at h; exact absurd rfl h
theorem qe_isi (T : String) (he : QE X C e m) (hm : X.mg "isinstance" = none) (hmT : X.mg x = none) (hT : T ∈ tyNames) (hbT : bootBuiltins x = some (.type T)) (hg : Gl X "isinstance" := by rfl) (hgT : Gl X x := by rfl) (hn : x ≠ "__name__" := by decide) (hd : (x == ("__debug__" : Str)) = false := by decide)
    (hs : starEach [e, .Name x p2] X.env = (false, eval e X.env) :: starEach [.Name x p2] X.env := by rfl) (hs2 : starEach [.Name x p2] X.env = (false, eval (.Name x p2) X.env) :: starEach [] X.env := by rfl) (hpl : (backTo pos (starEach [.Name x p2] X.env)).any (·.1) = false := by rfl) :
    QE X C (.Call (.Name "isinstance" p) [e, .Name x p2] [] pos) (mIsi T m) := by
  have ha : PA X [e, .Name x p2] _ := pa_cons he (pa_cons (pe_bltn hgT hmT hbT (v := V.ty T) rfl hn hd) pa_nil hs2) hs
  refine PE_imp (pe_callB call_isi hg hm (by decide +kernel) ha (by decide) (by decide) hs hpl) ?_
  rintro σ H Q ⟨io, ρ, S, R, re, h⟩
  refine rdE_step R re h fun d S1 io1 H1 v p1 m1 R1 re1 q1 h1 => ?_
  split at h1
  · exact h1.elim
  · rename_i hk
    obtain ⟨t1, t2⟩ := tyX_of R1 q1 hk
    exact ⟨v, .ty T, _, _, _, rfl, .ty T, t1, kit_isB _ t2 hT, h1.fin R1 rfl⟩
end

/-! ### repr -/
mutual
def D.pyG (f : Nat → Option PyData) : D → Option PyData
  | .non => some .none
  | .bl b => some (.bool b)
  | .int i => some (.int i)
  | .str x => some (.str x)
  | .tup ds => (D.pysG f ds).map .tuple
  | .fls ds => (D.pysG f ds).map .list
  | .ref n => f n
def D.pysG (f : Nat → Option PyData) : List D → Option (List PyData)
  | [] => some []
  | d :: r => match D.pyG f d, D.pysG f r with
    | some p, some ps => some (p :: ps)
    | _, _ => none
end
def pyF : Nat → Sto → Nat → Option PyData
  | 0, _, _ => none
  | k + 1, S, n => match S[n]? with
    | some (.lst ds) => (D.pysG (pyF k S) ds).map .list
    | _ => none
def pyD (S : Sto) (d : D) : Option PyData := d.pyG (pyF 40 S)
mutual
theorem dp_of {K : PySem.W.Frag} {io : List Addr} {H : Hp} {f : Nat → Option PyData} (hf : ∀ n p a, f n = some p → io[n]? = some a → Dp K H (.ref a) p) : ∀ {d : D} {v : V} {p : PyData}, RD K io H d v → d.pyG f = some p → Dp K H v p ∧ p.hasDict = p.hasDict
  | .non, v, p, q, h => by
    have q : v = _ := q; subst q
    have h : some _ = some p := h
    injection h with h; subst h
    exact ⟨.non, rfl⟩
  | .bl b, v, p, q, h => by
    have q : v = _ := q; subst q
    have h : some _ = some p := h
    injection h with h; subst h
    exact ⟨.bl _, rfl⟩
  | .int b, v, p, q, h => by
    have q : v = _ := q; subst q
    have h : some _ = some p := h
    injection h with h; subst h
    exact ⟨.int _, rfl⟩
  | .str b, v, p, q, h => by
    have q : v = _ := q; subst q
    have h : some _ = some p := h
    injection h with h; subst h
    exact ⟨.str _, rfl⟩
  | .tup ds, v, p, q, h => by
    obtain ⟨a, xs, rfl, hs, rs⟩ := q
    obtain ⟨ps, hp, rfl⟩ := Option.map_eq_some_iff.mp (show (D.pysG f ds).map PyData.tuple = some p from h)
    exact ⟨.tup hs (dps_of hf rs hp), rfl⟩
  | .fls ds, v, p, q, h => by
    obtain ⟨a, xs, rfl, hs, rs⟩ := q
    obtain ⟨ps, hp, rfl⟩ := Option.map_eq_some_iff.mp (show (D.pysG f ds).map PyData.list = some p from h)
    exact ⟨.lst hs.sq (dps_of hf rs hp), rfl⟩
  | .ref n, v, p, q, h => by
    obtain ⟨a, rfl, ha⟩ := q
    exact ⟨hf n p a h ha, rfl⟩
theorem dps_of {K : PySem.W.Frag} {io : List Addr} {H : Hp} {f : Nat → Option PyData} (hf : ∀ n p a, f n = some p → io[n]? = some a → Dp K H (.ref a) p) : ∀ {ds : List D} {vs : List V} {ps : List PyData}, RDs K io H ds vs → D.pysG f ds = some ps → DpAll K H vs ps
  | [], vs, ps, q, h => by
    have q : vs = [] := q; subst q
    have h : some [] = some ps := h
    injection h with h; subst h
    exact .nil
  | d :: r, vs, ps, ⟨v, t, e, q1, q2⟩, h => by
    subst e
    unfold D.pysG at h
    split at h
    · rename_i p ps' h1 h2
      injection h with h; subst h
      exact .cons (dp_of hf q1 h1).1 (dps_of hf q2 h2)
    · cases h
end
theorem pyF_ok {K : PySem.W.Frag} {io : List Addr} {H : Hp} {S : Sto} (R : Rep K io S H) : ∀ (k n : Nat) (p : PyData) (a : Addr), pyF k S n = some p → io[n]? = some a → Dp K H (.ref a) p
  | 0, _, _, _, h, _ => by cases h
  | k + 1, n, p, a, h, ha => by
    unfold pyF at h
    split at h
    · rename_i ds hs
      obtain ⟨ps, hp, rfl⟩ := Option.map_eq_some_iff.mp h
      obtain ⟨xs, hx, rs⟩ := R.ob _ _ _ hs ha
      exact .lst (SqL.of hx) (dps_of (pyF_ok R k) rs hp)
    · cases h
mutual
theorem noDict_dp {K : PySem.W.Frag} {H : Hp} : ∀ (p : PyData) {v : V}, Dp K H v p → p.hasDict = false
  | .none, _, h => by cases h; rfl
  | .bool _, _, h => by cases h; rfl
  | .int _, _, h => by cases h; rfl
  | .str _, _, h => by cases h; rfl
  | .list ds, _, h => by
    cases h with
    | lst _ hs => simp only [PyData.hasDict]; exact noDict_dps ds hs
  | .tuple ds, _, h => by
    cases h with
    | tup _ hs => simp only [PyData.hasDict]; exact noDict_dps ds hs
  | .dict _, _, h => by cases h
theorem noDict_dps {K : PySem.W.Frag} {H : Hp} : ∀ (ps : List PyData) {vs : List V}, DpAll K H vs ps → PyData.hasDictAll ps = false
  | [], _, h => by cases h; rfl
  | p :: r, _, h => by
    cases h with
    | cons h1 h2 =>
      simp only [PyData.hasDictAll]
      rw [noDict_dp p h1, noDict_dps r h2]
      rfl
end
def cRepr : F := fun ds S => match ds with
  | [d] => match pyD S d with
    | some p => if (p.showable && decide (p.shown.length ≤ sizeLine) && decide (p.depth ≤ 150)) = true then .ok (.str p.shown) S else .bad
    | none => .bad
  | _ => .bad
section
variable {X : Cx}
theorem cs_repr (hu : X.A.units + 152 ≤ cLine) (hg : X.A.guards = some []) : CaS X (.builtin "repr") cRepr := by
  intro pins s σ H xs us Q I r h
  obtain ⟨cl, W, io, S, ds, R, q, z⟩ := h
  unfold cRepr at z
  split at z
  · split at z
    · rename_i d p hp
      split at z
      · rename_i hc
        rw [Bool.and_eq_true, Bool.and_eq_true] at hc
        obtain ⟨⟨c1, c2⟩, c3⟩ := hc
        have c2 := of_decide_eq_true c2
        have c3 := of_decide_eq_true c3
        obtain ⟨v, rfl, q0⟩ := rds1 q
        have fin : ∀ h' u tk, (∀ b o, s.heap.get? b = some o → h'.get? b = some o) → EP X pins σ Q (.str p.shown u) { s with heap := h', toks := tk } := fun h' u tk hk =>
          ⟨.str p.shown, H, I.kept hk, ⟨_, rfl⟩, z.fin R rfl⟩
        have fin0 : EP X pins σ Q (.str p.shown s.toks) { s with toks := s.toks + 1 } := ⟨.str p.shown, H, I.tok _, ⟨_, rfl⟩, z.fin R rfl⟩
        have dp := (dp_of (f := pyF 40 S) (pyF_ok R 40) q0 hp).1
        obtain ⟨u, rfl, ru⟩ := vals1 r
        obtain ⟨as, rr⟩ := Dp.reads I p v u dp ru
        cases p with
        | none =>
          cases dp
          have ru : u = _ := ru
          subst ru
          exact PySem.P.repr_of_none fin0
        | bool b =>
          cases dp
          have ru : u = _ := ru
          subst ru
          exact PySem.P.repr_of_bool fin0
        | int i =>
          cases dp
          obtain ⟨t, rfl⟩ := ru
          exact PySem.P.repr_of_int (by simpa [PyData.showable] using c1) fin0
        | str x =>
          cases dp
          obtain ⟨t, rfl⟩ := ru
          exact PySem.P.repr_of_str fin0 c2
        | list xs =>
          have nd := noDict_dp _ dp
          cases dp
          have ru : u = _ := ru
          subst ru
          exact repr_of_reads' rr c1 (PyData.noDict_hsm nd) hg (by omega) (fun _ _ e => e) fin c2
        | tuple xs =>
          have nd := noDict_dp _ dp
          cases dp
          have ru : u = _ := ru
          subst ru
          exact repr_of_reads' rr c1 (PyData.noDict_hsm nd) hg (by omega) (fun _ _ e => e) fin c2
        | dict _ => cases dp
      · exact z.elim
    · exact z.elim
  · exact z.elim
end

/-! ### methods of texts and lists -/
def fStripC : D → F := fun x ds S => match x, ds with
  | .str a, [.str b] => if a.length ≤ sizeLine then .ok (.str (Txt.stripChars a b)) S else .bad
  | _, _ => .bad
def fUpper : D → F := fun x ds S => match x, ds with
  | .str a, [] => if a.length ≤ 5592405 then .ok (.str (Txt.upper a)) S else .bad
  | _, _ => .bad
def fAppend : D → F := fun x ds S => match x, ds with
  | .ref n, [d] => match S[n]? with
    | some (.lst xs) => if xs.length < sizeLine then .ok .non (S.set n (.lst (xs ++ [d]))) else .bad
    | _ => .bad
  | _, _ => .bad
section
variable {X : Cx}
theorem ms_stripC : MtS X "str.strip" fStripC := by
  refine MtS.of mt_stripChars fun cl W io S d ds x vs H Q R q0 q1 z => ?_
  unfold fStripC at z
  split at z
  · split at z
    · rename_i hz
      obtain ⟨v, rfl, q2⟩ := rds1 q1
      have q2 : v = _ := q2
      subst q2
      exact ⟨_, _, q0, rfl, hz, z.fin R rfl⟩
    · exact z.elim
  · exact z.elim
theorem ms_upper : MtS X "str.upper" fUpper := by
  refine MtS.of mt_upper fun cl W io S d ds x vs H Q R q0 q1 z => ?_
  unfold fUpper at z
  split at z
  · split at z
    · rename_i hz
      have q1 : vs = [] := q1
      subst q1
      exact ⟨_, q0, rfl, hz, z.fin R rfl⟩
    · exact z.elim
  · exact z.elim
theorem ms_append : MtS X "list.append" fAppend := by
  refine MtS.of mt_append fun cl W io S d ds x vs H Q R q0 q1 z => ?_
  unfold fAppend at z
  split at z
  · rename_i n y
    split at z
    · rename_i xs hs
      split at z
      · rename_i hz
        obtain ⟨v, rfl, q2⟩ := rds1 q1
        obtain ⟨a, rfl, ha⟩ := q0
        obtain ⟨ws, hw, rs⟩ := R.ob _ _ _ hs ha
        refine ⟨a, ws, v, rfl, rfl, hw, by rw [rs.length]; exact hz, ?_⟩
        obtain ⟨mo, R'⟩ := R.put (o := .lst (ws ++ [v])) (ob := .lst (xs ++ [y])) hs ha fun mo => ⟨_, upd_same, (rs.append (RDs.one q2)).mono (List.prefix_rfl) mo⟩
        exact z.finP (List.prefix_rfl) mo R' rfl
      · exact z.elim
    · exact z.elim
  · exact z.elim
end
/-! ### xs[i] = v -/
def sPut (o i : M) (m : M) : MS := fun ρ S => (m ρ S).st ρ fun d S => (o ρ S).st ρ fun x S => (i ρ S).st ρ fun y S => match x, y with
  | .ref n, .int k => match S[n]? with
    | some (.lst xs) => match ixN xs.length k with
      | some j => .nx ρ (S.set n (.lst (xs.set j d)))
      | none => .bad
    | _ => .bad
  | _, _ => .bad
section
variable {X : Cx} {C : Cn} {o i e : Expr} {mo mi m : M} {pos pos' : Pos}
theorem qs_put (he : QE X C e m) (ho : QE X C o mo) (hi : QE X C i mi) (hs : swapsWithSole [.Subscript o i pos'] e pos.line X.env = pure false := by rfl) (hw : swappedStores [.Subscript o i pos'] e X.env = pure none := by rfl)
    (h1 : (assignEach [.Subscript o i pos'] X.env).map (·.2) = [assign (.Subscript o i pos') X.env] := by rfl)
    (ha : ∀ v, assign (.Subscript o i pos') X.env v = (do
      let ov ← holding [v] (eval o X.env)
      let iv ← holding [v, ov] (eval i X.env)
      standAt pos'
      holding [v, ov, iv] (setItem ov iv v)
      release [v, ov, iv] []) := by intro _; rfl) : QS X C (.Assign [.Subscript o i pos'] e pos) (sPut mo mi m) := by
  refine PS_imp (ps_asg he (pg_sub ho hi set_list ha) hs hw h1) ?_
  rintro E σ H ⟨io, ρ, S, R, re, h⟩
  refine rdE_st R re h fun d S1 io1 H1 v p1 m1 R1 re1 q1 h1 => ?_
  refine rdE_st R1 re1 h1 fun x S2 io2 H2 w p2 m2 R2 re2 q2 h2 => ?_
  refine rdE_st R2 re2 h2 fun y S3 io3 H3 u p3 m3 R3 re3 q3 h3 => ?_
  split at h3
  · rename_i n k
    split at h3
    · rename_i xs hs
      split at h3
      · rename_i j hj
        have q2 := q2.mono p3 m3
        have q1 := q1.mono (p2.trans p3) (m2.trans m3)
        obtain ⟨a, rfl, ha⟩ := q2
        have q3 : u = _ := q3
        subst q3
        obtain ⟨ws, hw, rs⟩ := R3.ob _ _ _ hs ha
        refine ⟨a, ws, k, j, rfl, rfl, hw, by rw [rs.length]; exact hj, ?_⟩
        obtain ⟨mo, R'⟩ := R3.put (o := .lst (ws.set j v)) (ob := .lst (xs.set j d)) hs ha fun mo => ⟨_, upd_same, (RDs.set q1 j rs).mono (List.prefix_rfl) mo⟩
        exact h3 io3 _ σ (List.prefix_rfl) mo R' (re3.mono (List.prefix_rfl) mo)
      · exact h3.elim
    · exact h3.elim
  · exact h3.elim
end
end Mn

set_option Elab.async false
set_option linter.all false
set_option maxRecDepth 100000
set_option maxHeartbeats 4000000
namespace Mn
open PySem PySem.Spec PyProof.Rows L2

/-! ### x[::-1] of a list, a tuple -/
section
variable {prog : Program} {w : World} {A : Around} {E : Value → Shared → Prop} {s : Shared}
theorem places_back (n : Nat) : Builtin.Slice.slicePlaces ((n : Int) - 1) (-1) (-1) = n := by
  unfold Builtin.Slice.slicePlaces
  rw [if_neg (show ¬ ((-1 : Int) > 0) by decide), show (-(-1) : Int) = 1 by decide, Int.ediv_one]
  split <;> omega
theorem adjust_back (n : Nat) : Builtin.Slice.sliceAdjust none none (-1) (n : Int) = ((n : Int) - 1, -1) := by
  unfold Builtin.Slice.sliceAdjust
  have h1 : ((-1 : Int) < 0) := by decide
  simp [h1]
theorem pick_back (its : List Value) : ((List.range its.length).filterMap fun (k : Nat) => its.toArray[(((its.length : Int) - 1) + (k : Int) * (-1)).toNat]?).toArray = its.reverse.toArray := by
  congr 1
  have e : (fun (k : Nat) => its.toArray[(((its.length : Int) - 1) + (k : Int) * (-1)).toNat]?) = (its.toArray[·]?) ∘ fun k => its.length - 1 - k := by
    funext k
    show its.toArray[(((its.length : Int) - 1) + (k : Int) * (-1)).toNat]? = its.toArray[its.length - 1 - k]?
    rw [show (((its.length : Int) - 1) + (k : Int) * (-1)).toNat = its.length - 1 - k by omega]
  have h2 := PySem.W.krv_all its.toArray
  rw [List.size_toArray] at h2
  rw [e, ← List.filterMap_map, PySem.W.krv_range, List.filterMap_reverse, h2]
theorem item_back {t sl : Addr} {its : List Value} {u : Tok} {Q : Value → Shared → Prop} (ht : IsTup s.heap t its.toArray) (hs : s.heap.IsSliceOf sl .none .none (.int (-1) u))
    (h : Q (.ref s.heap.objs.size) { s with heap := s.heap.push { cls := .type "tuple", data := .seq its.reverse.toArray } }) (hsz : its.length ≤ sizeLine) : wpAny (model prog w) A (getItem (.ref t) (.ref sl)) Q E s := by
  have room : sizeOk (.seq its.reverse.toArray) := by
    show its.reverse.toArray.size ≤ sizeLine
    rw [List.size_toArray, List.length_reverse]
    exact hsz
  obtain ⟨ob, e1, e2, e3⟩ := id hs
  have tyS : s.TypeIs (.ref sl) "slice" := ⟨ob, e1, e2⟩
  unfold getItem
  try with_reducible refine wpAny_holding ?_
  first | refine wpAny_bind (wpAny_pure ?_) | skip
  refine wpAny_bind (wpAny_sequenceKey ht.typeIs (by decide) ?_)
  refine wpAny_bind (wpAny_callSpecial?_slot (name := Str.ofString "__getitem__") ht.typeIs PyProof.Rows.slot_tuple_getitem (wpAny_call_entry PyProof.Rows.slot_tuple_getitem ht.typeIs entry_tuple_getitem ?_ (args_tuple_getitem _ _)))
  show wpAny _ _ (Builtin.Tuple.tupleItemsOf (.ref t) >>= _) _ _ s
  refine wpAny_bind (tupleItemsOf_ ht (wpAny_bind (wpAny_typeOf tyS ?_)))
  rw [if_pos (by decide)]
  refine wpAny_bind ?_
  unfold Builtin.Slice.sliceApplied Builtin.Slice.sliceFields
  refine wpAny_bind (wpAny_bind (wpAny_field e1 e3 (x := .none) rfl (wpAny_bind (wpAny_field e1 e3 (x := .none) rfl (wpAny_bind (wpAny_field e1 e3 (x := .int (-1) u) rfl (wpAny_pure ?_)))))))
  refine wpAny_bind (HT.slicePart_ (.int (-1) u) ?_)
  show wpAny _ _ (if ((-1 : Int) == 0) = true then _ else _) _ _ s
  rw [if_neg (by decide)]
  refine wpAny_bind (HT.slicePart_ .none (wpAny_bind (HT.slicePart_ .none (wpAny_bind (wpAny_pure ?_)))))
  show wpAny _ _ (match Builtin.Slice.sliceAdjust none none (-1) (its.toArray.size : Int) with | (lo, hi) => pure (lo, (-1 : Int), Builtin.Slice.slicePlaces lo hi (-1))) _ _ s
  rw [List.size_toArray, adjust_back]
  show wpAny _ _ (pure (((its.length : Int) - 1), (-1 : Int), Builtin.Slice.slicePlaces ((its.length : Int) - 1) (-1) (-1))) _ _ s
  rw [places_back]
  refine wpAny_pure ?_
  show wpAny _ _ (if (((its.length : Int) - 1) == 0 && (-1 : Int) == 1 && its.length == its.length) = true then _ else _) _ _ s
  rw [if_neg (by simp), pick_back]
  first
    | exact wpAny_bind (m := Builtin.Tuple.tupleExact _) (wpAny_newObj_type (wpAny_pure ⟨_, rfl, wpAny_pure h⟩) room)
    | exact wpAny_bind (m := Builtin.Tuple.tupleExact _) (wpAny_newObj_type (wpAny_bind (wpAny_pure (wpAny_pure ⟨_, rfl, wpAny_pure h⟩))) room)
end
def fRev : D → Sto → Res D := fun x S => match x with
  | .tup ds => .ok (.tup ds.reverse) S
  | .fls ds => .ok (.ref S.length) (S ++ [.lst ds.reverse])
  | .ref n => match S[n]? with
    | some (.lst ds) => .ok (.ref S.length) (S ++ [.lst ds.reverse])
    | _ => .bad
  | _ => .bad
section
variable {X : Cx} {C : Cn} {e : Expr} {m : M} {k : Nat} {p1 p2 p3 pos : Pos}
theorem qe_rev (he : QE X C e m) : QE X C (.Subscript e (.Slice none none (some (.UnaryOp .USub (.Constant (.int 1) k p1) p2)) p3) pos) (mUn fRev m) := by
  refine ⟨fun pins s σ H Q I h => ?_⟩
  obtain ⟨io, ρ, S, R, re, h⟩ := h
  refine Subscript_ (thn (he.run pins s σ H (fun x H1 => ∃ io1 S1 d, Rep X.K io1 S1 H1 ∧ RD X.K io1 H1 d x ∧ Po X.K (rD X.K) C.cl (fun c d H' => C.W c d σ H') io1 H1 (fRev d S1) Q) I ?_) fun v s1 ⟨x, H1, I1, r1, io1, S1, d, R1, q1, h1⟩ => ?_)
  · exact rdE_step R re h fun d S1 io1 H1 v p1 m1 R1 re1 q1 h1 => ⟨io1, S1, d, R1, q1, h1⟩
  have st : PO X (some (.UnaryOp .USub (.Constant (.int 1) k p1) p2)) (tPart (tUn (rU fun i => .int (-i)) (tC (.int 1)))) := po_some (pe_un un_neg pe_int)
  refine wpAny_Slice (thn (po_none.run pins s1 σ H1 (fun o H2 => o = none ∧ H2 = H1) I1 ⟨rfl, rfl⟩) fun a1 s2 ⟨o1, H2, I2, b1, c1, d1⟩ => ?_)
  subst c1 d1
  refine thn (po_none.run pins s2 σ H2 (fun o H3 => o = none ∧ H3 = H2) I2 ⟨rfl, rfl⟩) fun a2 s3 ⟨o2, H3, I3, b2, c2, d2⟩ => ?_
  subst c2 d2
  refine thn (st.run pins s3 σ H3 (fun o H4 => o = some (-1) ∧ H4 = H3) I3 ⟨1, rfl, -1, rfl, rfl, rfl⟩) fun a3 s4 ⟨o3, H4, I4, b3, c3, d3⟩ => ?_
  subst c3 d3
  have I5 : Inv X pins σ H4 { s4 with heap := s4.heap.push { cls := .type "slice", data := .fields #[a1, a2, a3] } } := I4.kept (t' := s4.toks) fun b ob q => Heap.get?_push_of_some _ q
  have lists : ∀ {a : Addr} {xs : List V} {ds : List D}, v = .ref a → SqL X.K H4 a xs → RDs X.K io1 H4 ds xs → Po X.K (rD X.K) C.cl (fun c d H' => C.W c d σ H') io1 H4 (Res.ok (D.ref S1.length) (S1 ++ [Ob.lst ds.reverse])) Q →
      wpAny (model X.prog X.w) X.A (subscriptTail e (.Slice none none (some (.UnaryOp .USub (.Constant (.int 1) k p1) p2)) p3) v (.ref s4.heap.objs.size)) (EP X pins σ Q) X.xe { s4 with heap := s4.heap.push { cls := .type "slice", data := .fields #[a1, a2, a3] } } := by
    intro a xs ds ev hx rs h1
    subst ev
    obtain ⟨its, r, ht, hz⟩ := I5.list hx
    have hlen := r.length
    refine tail_any (ops := [.ref a, .ref s4.heap.objs.size]) ht.isList.typeIs (PySem.slot_list_getitem.lookup) ?_ (by with_unfolding_all rfl)
    refine wpAny_getItem_list_slice ht.isList (Heap.IsSliceOf.new _ a1 a2 a3) b1 b2 b3 (by decide) ?_ (by rw [List.size_toArray]; omega)
    rw [PySem.W.krv_pick]
    have hn := I5.hok.fresh (Nat.le_refl _)
    refine ⟨.ref _, _, I5.laid (t' := s4.toks) (o := .lst xs.reverse) (fun b ob q => Heap.get?_push_of_some _ q) (Nat.le_refl _) ⟨by rw [List.length_reverse]; exact hz, _, 0, r.reverse, Heap.get?_push_size _ rfl⟩, rfl, ?_⟩
    have pp := List.prefix_append io1 [(s4.heap.push { cls := .type "slice", data := .fields #[a1, a2, a3] }).objs.size]
    refine h1.finP pp (Mo.new hn) (R1.new hn ⟨_, upd_same, rs.reverse.mono pp (Mo.new hn)⟩) ⟨_, rfl, ?_⟩
    rw [← R1.len]
    exact List.getElem?_concat_length
  unfold fRev at h1
  split at h1
  · obtain ⟨a, xs, rfl, hx, rs⟩ := q1
    have r1 : v = Value.ref a := r1
    subst r1
    obtain ⟨its, r, ht, hz⟩ := I5.tuple hx
    have hlen := r.length
    have nn : a1 = .none ∧ a2 = .none := by
      cases b1
      cases b2
      exact ⟨rfl, rfl⟩
    obtain ⟨rfl, rfl⟩ := nn
    cases b3 with
    | int _ u =>
      refine tail_any (ops := [.ref a, .ref s4.heap.objs.size]) ht.typeIs (PyProof.Rows.slot_tuple_getitem.lookup) ?_ (by with_unfolding_all rfl)
      refine item_back ht (Heap.IsSliceOf.new _ _ _ _) ?_ (by omega)
      have hn := I5.hok.fresh (Nat.le_refl _)
      refine ⟨.ref _, _, I5.laid (t' := s4.toks) (o := .tup xs.reverse) (fun b ob q => Heap.get?_push_of_some _ q) (Nat.le_refl _) ⟨by rw [List.length_reverse]; exact hz, _, r.reverse, IsTup.new _ _⟩, rfl, ?_⟩
      exact h1.finP (List.prefix_rfl) (Mo.new hn) (R1.tup hn) ⟨_, _, rfl, SqT.of upd_same, rs.reverse.mono (List.prefix_rfl) (Mo.new hn)⟩
  · obtain ⟨a, xs, rfl, hx, rs⟩ := q1
    exact lists r1 hx.sq rs h1
  · split at h1
    · rename_i n ds hs
      obtain ⟨a, rfl, ha⟩ := q1
      obtain ⟨xs, hx, rs⟩ := R1.ob _ _ _ hs ha
      exact lists r1 (SqL.of hx) rs h1
    · exact h1.elim
  · exact h1.elim
end
end Mn

set_option Elab.async false
set_option linter.all false
set_option maxRecDepth 100000
set_option maxHeartbeats 4000000
namespace Mn
open PySem PySem.Spec PyProof.Rows L2

/-! ### dicts with keys that are ints and texts -/
def keyD : D → Option Key
  | .int i => some (.inl i)
  | .str x => some (.inr x)
  | _ => none
def valD (kvs : List (Key × D)) (k : Key) : Option D := (kvs.find? fun kv => decide (kv.1 = k)).map (·.2)
def putD (kvs : List (Key × D)) (k : Key) (d : D) : List (Key × D) :=
  if (kvs.any fun kv => decide (kv.1 = k)) = true then kvs.map (fun kv => if kv.1 = k then (kv.1, d) else kv) else kvs ++ [(k, d)]
def mergeD (kvs more : List (Key × D)) : List (Key × D) := more.foldl (fun acc kv => putD acc kv.1 kv.2) kvs
theorem keyD_rel {K : PySem.W.Frag} {io : List Addr} {H : Hp} {d : D} {v : V} {k : Key} (h : keyD d = some k) (q : RD K io H d v) : v = kV k := by
  cases d with
  | int i =>
    injection h with h
    subst h
    exact q
  | str i =>
    injection h with h
    subst h
    exact q
  | _ => cases h
section
variable {K : PySem.W.Frag} {io : List Addr} {H : Hp}
theorem RKs.length : ∀ {kvs : List (Key × D)} {ws : List (Key × V)}, RKs K io H kvs ws → ws.length = kvs.length
  | [], _, h => by
    have h : _ = [] := h
    subst h
    rfl
  | _ :: _, _, ⟨v, r, e, _, h2⟩ => by
    subst e
    exact congrArg Nat.succ (RKs.length h2)
theorem RKs.val (k : Key) : ∀ {kvs : List (Key × D)} {ws : List (Key × V)}, RKs K io H kvs ws → (valD kvs k = none → valV ws k = none) ∧ ∀ d, valD kvs k = some d → ∃ v, valV ws k = some v ∧ RD K io H d v
  | [], _, h => by
    have h : _ = [] := h
    subst h
    exact ⟨fun _ => rfl, fun d h => by cases h⟩
  | (k0, d0) :: r, _, ⟨v, t, e, h1, h2⟩ => by
    subst e
    obtain ⟨a, b⟩ := RKs.val k h2
    by_cases hk : k0 = k
    · have e1 : valD ((k0, d0) :: r) k = some d0 := by simp [valD, List.find?_cons, hk]
      rw [e1, valV_pos (p := (k0, v)) hk]
      exact ⟨fun z => (by cases z), fun d z => (by injection z with z; subst z; exact ⟨v, rfl, h1⟩)⟩
    · have e1 : valD ((k0, d0) :: r) k = valD r k := by simp [valD, List.find?_cons, hk]
      rw [e1, valV_neg (p := (k0, v)) hk]
      exact ⟨a, b⟩
theorem RKs.any (k : Key) : ∀ {kvs : List (Key × D)} {ws : List (Key × V)}, RKs K io H kvs ws → (ws.any fun kv => decide (kv.1 = k)) = (kvs.any fun kv => decide (kv.1 = k))
  | [], _, h => by
    have h : _ = [] := h
    subst h
    rfl
  | (k0, d0) :: r, _, ⟨v, t, e, h1, h2⟩ => by
    subst e
    rw [List.any_cons, List.any_cons, RKs.any k h2]
theorem RKs.over (k : Key) {d : D} {v : V} (q : RD K io H d v) : ∀ {kvs : List (Key × D)} {ws : List (Key × V)}, RKs K io H kvs ws → RKs K io H (kvs.map fun kv => if kv.1 = k then (kv.1, d) else kv) (ws.map fun kv => if kv.1 = k then (kv.1, v) else kv)
  | [], _, h => by
    have h : _ = [] := h
    subst h
    rfl
  | (k0, d0) :: r, _, ⟨w, t, e, h1, h2⟩ => by
    subst e
    rw [List.map_cons, List.map_cons]
    by_cases hk : k0 = k
    · rw [if_pos hk, if_pos hk]
      exact ⟨v, _, rfl, q, RKs.over k q h2⟩
    · rw [if_neg hk, if_neg hk]
      exact ⟨w, _, rfl, h1, RKs.over k q h2⟩
theorem RKs.snoc (k : Key) {d : D} {v : V} (q : RD K io H d v) : ∀ {kvs : List (Key × D)} {ws : List (Key × V)}, RKs K io H kvs ws → RKs K io H (kvs ++ [(k, d)]) (ws ++ [(k, v)])
  | [], _, h => by
    have h : _ = [] := h
    subst h
    exact ⟨v, [], rfl, q, rfl⟩
  | (k0, d0) :: r, _, ⟨w, t, e, h1, h2⟩ => by
    subst e
    exact ⟨w, _, rfl, h1, RKs.snoc k q h2⟩
theorem RKs.put (k : Key) {d : D} {v : V} {kvs : List (Key × D)} {ws : List (Key × V)} (q : RD K io H d v) (h : RKs K io H kvs ws) : RKs K io H (putD kvs k d) (putK ws k v) := by
  unfold putD putK
  rw [h.any k]
  split
  · exact h.over k q
  · exact h.snoc k q
theorem RKs.merge : ∀ {more : List (Key × D)} {zs : List (Key × V)} {kvs : List (Key × D)} {ws : List (Key × V)}, RKs K io H more zs → RKs K io H kvs ws → RKs K io H (mergeD kvs more) (mergeK ws zs)
  | [], _, _, _, h, h' => by
    have h : _ = [] := h
    subst h
    exact h'
  | (k, d) :: r, _, _, _, ⟨v, t, e, h1, h2⟩, h' => by
    subst e
    have g := RKs.merge h2 (h'.put k h1)
    exact g
end
/-! ### displays -/
abbrev MP := En → Sto → Res (List (D × D))
def pNil : MP := fun _ S => .ok [] S
def pCons (k v : M) (r : MP) : MP := fun ρ S => (k ρ S).bind fun x S => (v ρ S).bind fun y S => (r ρ S).bind fun ps S => .ok ((x, y) :: ps) S
/-- the keys of the pairs -/
def keysD : List (D × D) → Option (List (Key × D))
  | [] => some []
  | (k, d) :: r => match keyD k, keysD r with
    | some x, some t => some ((x, d) :: t)
    | _, _ => none
def mDisp (m : MP) : M := fun ρ S => (m ρ (S ++ [.dct []])).bind fun ps S1 => match keysD ps with
  | some kvs => if kvs.length ≤ 15 ∧ S1[S.length]? = some (.dct []) then .ok (.ref S.length) (S1.set S.length (.dct (mergeD [] kvs))) else .bad
  | none => .bad
def RPs (K : PySem.W.Frag) (io : List Addr) (H : Hp) : List (D × D) → List (V × V) → Prop
  | [], ws => ws = []
  | (k, d) :: r, ws => ∃ v w t, ws = (v, w) :: t ∧ RD K io H k v ∧ RD K io H d w ∧ RPs K io H r t
theorem RPs.mono {K : PySem.W.Frag} {io io' : List Addr} {H H' : Hp} (p : io <+: io') (m : Mo H H') : ∀ {ds : List (D × D)} {vs : List (V × V)}, RPs K io H ds vs → RPs K io' H' ds vs
  | [], _, h => h
  | _ :: _, _, ⟨v, w, r, e, h1, h2, h3⟩ => ⟨v, w, r, e, h1.mono p m, h2.mono p m, RPs.mono p m h3⟩
theorem RPs.keys {K : PySem.W.Frag} {io : List Addr} {H : Hp} : ∀ {ds : List (D × D)} {vs : List (V × V)} {kvs : List (Key × D)}, RPs K io H ds vs → keysD ds = some kvs → ∃ ws, vs = ws.map (fun kv => (kV kv.1, kv.2)) ∧ RKs K io H kvs ws
  | [], _, _, h, e => by
    have h : _ = [] := h
    subst h
    have e : some [] = some _ := e
    injection e with e
    subst e
    exact ⟨[], rfl, rfl⟩
  | (k, d) :: r, _, _, ⟨v, w, t, e, h1, h2, h3⟩, z => by
    subst e
    unfold keysD at z
    split at z
    · rename_i x t' e1 e2
      injection z with z
      subst z
      obtain ⟨ws, rfl, q⟩ := RPs.keys h3 e2
      exact ⟨(x, w) :: ws, by rw [List.map_cons, keyD_rel e1 h1], w, ws, rfl, h2, q⟩
    · cases z
section
variable {X : Cx} {C : Cn} {pos : Pos}
/-- the pairs' derivation -/
structure QPr (X : Cx) (C : Cn) (pos : Pos) (keys : List (Option Expr)) (values : List Expr) (m : MP) : Prop where
  ex : ∃ trs, PPs X pos keys values trs ∧ ∀ σ H Q, (∃ io ρ S, Rep X.K io S H ∧ RE X.K io H ρ σ ∧ Po X.K (RPs X.K) C.cl (fun c d H' => C.W c d σ H') io H (m ρ S) Q) → tPairs trs σ H Q
theorem qpr_nil : QPr X C pos [] [] pNil := ⟨[], pps_nil, fun σ H Q ⟨io, ρ, S, R, re, h⟩ => h.fin R rfl⟩
theorem qpr_cons {k v : Expr} {ks : List (Option Expr)} {vs : List Expr} {mk mv : M} {r : MP} (hk : QE X C k mk) (hv : QE X C v mv) (hr : QPr X C pos ks vs r) : QPr X C pos (some k :: ks) (v :: vs) (pCons mk mv r) := by
  obtain ⟨trs, p1, p2⟩ := hr.ex
  refine ⟨_, pps_cons hk hv p1, ?_⟩
  rintro σ H Q ⟨io, ρ, S, R, re, h⟩
  refine rdE_step R re h fun x S1 io1 H1 v1 p1 m1 R1 re1 q1 h1 => ?_
  refine rdE_step R1 re1 h1 fun y S2 io2 H2 v2 pr2 m2 R2 re2 q2 h2 => ?_
  refine p2 _ _ _ ⟨io2, ρ, S2, R2, re2, ?_⟩
  refine Po.imp (relg := RPs X.K) h2 fun ps S3 io3 H3 vs3 _ pr3 m3 R3 q3 h3 => ?_
  exact h3.fin R3 ⟨v1, v2, vs3, rfl, q1.mono (pr2.trans pr3) (m2.trans m3), q2.mono pr3 m3, q3⟩
theorem qe_disp {keys : List (Option Expr)} {values : List Expr} {m : MP} (h : QPr X C pos keys values m) (hall : keys.all (·.isSome) = true := by rfl) (hl : keys.length = values.length := by rfl) (h0 : keys ≠ [] := by exact fun z => by cases z) (h15 : keys.length ≤ 15 := by decide) :
    QE X C (.Dict keys values pos) (mDisp m) := by
  obtain ⟨trs, p1, p2⟩ := h.ex
  refine PE_imp (pe_disp p1 hall hl h0 h15) ?_
  rintro σ H Q ⟨io, ρ, S, R, re, h⟩ t ht
  have pp : io <+: io ++ [t] := List.prefix_append _ _
  have R0 : Rep X.K (io ++ [t]) (S ++ [.dct []]) (upd H t (.dK [])) := R.new ht ⟨_, upd_same, rfl⟩
  refine p2 _ _ _ ⟨io ++ [t], ρ, S ++ [.dct []], R0, re.mono pp (Mo.new ht), ?_⟩
  have h' := Po.mono (H' := upd H t (.dK [])) pp (Mo.new ht) h
  refine Po.imp (relg := RPs X.K) h' fun ps S1 io1 H1 vs1 _ pr1 m1 R1 q1 h1 => ?_
  split at h1
  · rename_i kvs hk
    split at h1
    · rename_i hc
      obtain ⟨ws, rfl, rk⟩ := q1.keys hk
      have ha : io1[S.length]? = some t := by
        refine pre_get pr1 ?_
        rw [← R.len]
        exact List.getElem?_concat_length
      obtain ⟨xs, hx, rx⟩ := R1.ob _ _ _ hc.2 ha
      have rx : xs = [] := rx
      subst rx
      refine ⟨hx, ws, rfl, by rw [rk.length]; exact hc.1, ?_⟩
      obtain ⟨mo, R2⟩ := R1.put (o := .dK (mergeK [] ws)) (ob := .dct (mergeD [] kvs)) hc.2 ha fun mo => ⟨_, upd_same, (RKs.merge rk (show RKs X.K io1 H1 [] [] from rfl)).mono (List.prefix_rfl) mo⟩
      exact h1.finP (List.prefix_rfl) mo R2 ⟨t, rfl, ha⟩
    · exact h1.elim
  · exact h1.elim
end
/-! ### d.get(k, x), d.update(e) -/
def mGet2 (o k x : M) : M := fun ρ S => (o ρ S).bind fun d S => if kOf S d = "dict" then (k ρ S).bind fun y S => (x ρ S).bind fun z S => match d, keyD y with
    | .ref n, some kk => match S[n]? with
      | some (.dct kvs) => .ok ((valD kvs kk).getD z) S
      | _ => .bad
    | _, _ => .bad
  else .bad
def mGet1 (o k : M) : M := fun ρ S => (o ρ S).bind fun d S => if kOf S d = "dict" then (k ρ S).bind fun y S => match d, keyD y with
    | .ref n, some kk => match S[n]? with
      | some (.dct kvs) => .ok ((valD kvs kk).getD .non) S
      | _ => .bad
    | _, _ => .bad
  else .bad
def fUpdate : D → F := fun x ds S => match x, ds with
  | .ref n, [.ref m] => if n = m then .bad else match S[n]?, S[m]? with
    | some (.dct a), some (.dct b) => if a.length + b.length ≤ sizeLine then .ok .non (S.set n (.dct (mergeD a b))) else .bad
    | _, _ => .bad
  | _, _ => .bad
section
variable {X : Cx} {C : Cn} {o e f : Expr} {mo me mf : M} {apos cpos : Pos}
theorem isD_of {K : PySem.W.Frag} {io : List Addr} {S : Sto} {H : Hp} {d : D} {v : V} (R : Rep K io S H) (q : RD K io H d v) (h : kOf S d = "dict") : ∃ n a, d = .ref n ∧ v = .ref a ∧ io[n]? = some a ∧ IsD H a := by
  cases d with
  | ref n =>
    obtain ⟨a, rfl, ha⟩ := q
    have h : kOb S[n]? = "dict" := h
    cases es : S[n]? with
    | none => rw [es] at h; simp [kOb] at h
    | some ob =>
      rw [es] at h
      cases ob with
      | lst _ => simp [kOb] at h
      | dct kvs =>
        obtain ⟨ws, hw, _⟩ := R.ob _ _ _ es ha
        exact ⟨n, a, rfl, rfl, ha, .inl ⟨ws, .inl hw⟩⟩
      | ins _ _ => simp [kOb] at h
  | _ => simp [kOf] at h
theorem qe_get2 (hu : X.A.units + 1 < cLine) (ho : QE X C o mo) (he : QE X C e me) (hf : QE X C f mf) (m : M2 X o "get" apos e f cpos := by exact ⟨rfl, rfl, rfl, rfl⟩) : QE X C (.Call (.Attribute o "get" apos) [e, f] [] cpos) (mGet2 mo me mf) := by
  refine PE_imp (pe_dget2 hu ho he hf m) ?_
  rintro σ H Q ⟨io, ρ, S, R, re, h⟩
  refine rdE_step R re h fun d S1 io1 H1 v p1 m1 R1 re1 q1 h1 => ?_
  split at h1
  · rename_i hk
    obtain ⟨n, a, rfl, rfl, ha, hd⟩ := isD_of R1 q1 hk
    refine ⟨a, rfl, hd, ?_⟩
    refine rdE_step R1 re1 h1 fun y S2 io2 H2 w p2 m2 R2 re2 q2 h2 => ?_
    refine rdE_step R2 re2 h2 fun z S3 io3 H3 u p3 m3 R3 re3 q3 h3 => ?_
    split at h3
    · rename_i n' kk e1 e2
      injection e1 with e1
      subst e1
      split at h3
      · rename_i kvs hs
        have ha3 := pre_get (p2.trans p3) ha
        obtain ⟨ws, hw, rk⟩ := R3.ob _ _ _ hs ha3
        refine ⟨_, .inl ⟨ws, kk, .inl hw, keyD_rel e2 q2, rfl⟩, ?_⟩
        obtain ⟨k1, k2⟩ := rk.val kk
        cases hv : valD kvs kk with
        | none =>
          rw [hv] at h3
          rw [k1 hv]
          exact h3.fin R3 q3
        | some d =>
          rw [hv] at h3
          obtain ⟨v, hv', rv⟩ := k2 d hv
          rw [hv']
          exact h3.fin R3 rv
      · exact h3.elim
    · exact h3.elim
  · exact h1.elim
theorem qe_get1 (hu : X.A.units + 1 < cLine) (ho : QE X C o mo) (he : QE X C e me) (m : M1 X o "get" apos e cpos := by exact ⟨rfl, rfl, rfl, rfl⟩) : QE X C (.Call (.Attribute o "get" apos) [e] [] cpos) (mGet1 mo me) := by
  refine PE_imp (pe_dget1 hu ho he m) ?_
  rintro σ H Q ⟨io, ρ, S, R, re, h⟩
  refine rdE_step R re h fun d S1 io1 H1 v p1 m1 R1 re1 q1 h1 => ?_
  split at h1
  · rename_i hk
    obtain ⟨n, a, rfl, rfl, ha, hd⟩ := isD_of R1 q1 hk
    refine ⟨a, rfl, hd, ?_⟩
    refine rdE_step R1 re1 h1 fun y S3 io3 H3 w p3 m3 R3 re3 q2 h3 => ?_
    split at h3
    · rename_i n' kk e1 e2
      injection e1 with e1
      subst e1
      split at h3
      · rename_i kvs hs
        have ha3 := pre_get p3 ha
        obtain ⟨ws, hw, rk⟩ := R3.ob _ _ _ hs ha3
        refine ⟨_, .inl ⟨ws, kk, .inl hw, keyD_rel e2 q2, rfl⟩, ?_⟩
        obtain ⟨k1, k2⟩ := rk.val kk
        cases hv : valD kvs kk with
        | none =>
          rw [hv] at h3
          rw [k1 hv]
          exact h3.fin R3 rfl
        | some d =>
          rw [hv] at h3
          obtain ⟨v, hv', rv⟩ := k2 d hv
          rw [hv']
          exact h3.fin R3 rv
      · exact h3.elim
    · exact h3.elim
  · exact h1.elim
theorem mt_updK : MtR X "dict.update" (fun x xs H Q => ∃ (a b : Addr) (ps qs : List (Key × V)), x = .ref a ∧ xs = [.ref b] ∧ a ≠ b ∧ H a = some (.dK ps) ∧ H b = some (.dK qs) ∧ ps.length + qs.length ≤ sizeLine ∧ Q .non (upd H a (.dK (mergeK ps qs)))) := by
  intro pins s σ H x xs v us Q I rx rv h
  obtain ⟨a, b, ps, qs, rfl, rfl, ne, ea, eb, hz, q⟩ := h
  cases rx
  obtain ⟨u, rfl, ru⟩ := rv.one
  have ru : u = Value.ref b := ru
  subst ru
  obtain ⟨z1, n1, vs, r1, d1⟩ := dk_of I.hok ea
  obtain ⟨z2, n2, ws, r2, d2⟩ := dk_of I.hok eb
  have l1 : vs.length = ps.length := (Paired.length r1).symm
  have l2 : ws.length = qs.length := (Paired.length r2).symm
  refine call_meetsIn PySem.F.slot_dict_update d1.typeIs PySem.F.entry_dict_update (PySem.F.args_dict_update_2 _ _) (meets_dict_update (mixKind X.prog X.w) a b ne n2) ⟨vs, ws, d1, d2, by omega, fun h' e1 e2 hs => ?_⟩
  have hx : ∃ q, h'.get? a = some q := let ⟨q, _, _, hq, _⟩ := e1; ⟨q, hq⟩
  have sz := length_mergeK qs ps
  exact ⟨.non, _, d_write (t' := s.toks) I (by rw [ea]; exact True.intro) hs hx (dk_new (by omega) n1 (r2.merge r1) e1), rfl, q⟩
theorem ms_update : MtS X "dict.update" fUpdate := by
  refine MtS.of mt_updK fun cl W io S d ds x vs H Q R q0 q1 z => ?_
  unfold fUpdate at z
  split at z
  · rename_i n m
    split at z
    · exact z.elim
    · rename_i ne
      split at z
      · rename_i ka kb sa sb
        split at z
        · rename_i hz
          obtain ⟨v, rfl, q2⟩ := rds1 q1
          obtain ⟨a, rfl, ha⟩ := q0
          obtain ⟨b, rfl, hb⟩ := q2
          obtain ⟨ws, hw, ra⟩ := R.ob _ _ _ sa ha
          obtain ⟨zs, hv, rb⟩ := R.ob _ _ _ sb hb
          refine ⟨a, b, ws, zs, rfl, rfl, fun e => ne (R.nd n m a ha (e ▸ hb)), hw, hv, by rw [ra.length, rb.length]; exact hz, ?_⟩
          obtain ⟨mo, R'⟩ := R.put (o := .dK (mergeK ws zs)) (ob := .dct (mergeD ka kb)) sa ha fun mo => ⟨_, upd_same, (rb.merge ra).mono (List.prefix_rfl) mo⟩
          exact z.finP (List.prefix_rfl) mo R' rfl
        · exact z.elim
      · exact z.elim
  · exact z.elim
end
/-! ### calls with keywords -/
def gPm {α : Type} (is : List Nat) (us ws : List α) : List α := is.filterMap fun i => (us ++ ws)[i]?
def mKw (fn : F) (is : List Nat) (n k : Nat) (a kw : MA) : M := fun ρ S => (a ρ S).bind fun ds S => (kw ρ S).bind fun es S => if ds.length = n ∧ es.length = k then fn (gPm is ds es) S else .bad
theorem Vals.pick {xs : List V} {us : List Value} (r : Vals xs us) : ∀ is : List Nat, Vals (is.filterMap fun i => xs[i]?) (is.filterMap fun i => us[i]?)
  | [] => .nil
  | i :: is => by
    rw [List.filterMap_cons, List.filterMap_cons]
    cases h : xs[i]? with
    | none =>
      rw [r.none_of h]
      exact Vals.pick r is
    | some x =>
      obtain ⟨u, hu, ru⟩ := r.get h
      rw [hu]
      exact .cons ru (Vals.pick r is)
theorem RDs.pick {K : PySem.W.Frag} {io : List Addr} {H : Hp} {ds : List D} {vs : List V} (r : RDs K io H ds vs) : ∀ is : List Nat, RDs K io H (is.filterMap fun i => ds[i]?) (is.filterMap fun i => vs[i]?)
  | [] => rfl
  | i :: is => by
    rw [List.filterMap_cons, List.filterMap_cons]
    cases h : ds[i]? with
    | none =>
      have l := r.length
      have h1 : vs[i]? = none := List.getElem?_eq_none (by have := List.getElem?_eq_none_iff.mp h; omega)
      rw [h1]
      exact RDs.pick r is
    | some x =>
      obtain ⟨u, hu, ru⟩ := r.get h
      rw [hu]
      exact .cons ru (RDs.pick r is)
/-- how it binds: n arguments by place, those of ks by name -/
def BindKw (K : PySem.W.Frag) (fd : FuncData) (ps ks : List Str) (is : List Nat) (n : Nat) : Prop := ∀ (s : Shared) (us ws : List Value), K.In s.heap → us.length = n → ws.length = ks.length → BindsTo s fd ⟨us, ks.zip ws⟩ (ps.zip (gPm is us ws))
theorem bindKw_of {K : PySem.W.Frag} {x qual : Str} {params : Arguments} {body : List Stmt} {scope : Scope} {kws : List (Str × V)} {f : Addr} {fd : FuncData} {ps ks : List Str} {is : List Nat} {n : Nat} (F : FunD K x qual params body scope [] kws f fd)
    (h : ∀ (kV doc pm : Value) (an : Option Addr) (cdv ct : Value) (us ws : List Value), us.length = n → ws.length = ks.length → bindArgs (PySem.W.fnOf x qual params body scope .none kV doc pm an cdv ct) ⟨us, ks.zip ws⟩ = pure (ps.zip (gPm is us ws))) : BindKw K fd ps ks is n := by
  obtain ⟨oc, od, dV, kV, doc, pm, an, cdv, ct, osl, rfl, lk, hcd, hD, hK⟩ := F.ex
  rcases hD with ⟨_, rfl⟩ | ⟨e, _⟩
  · exact fun s us ws _ h1 h2 => .of_eq (h kV doc pm an cdv ct us ws h1 h2)
  · exact absurd rfl e
section
variable {X : Cx} {C : Cn} {k n : Nat} {is : List Nat} {f : Addr} {fd : FuncData} {ps ks : List Str} {fn : F} {x : Str} {p pos : Pos} {e : Expr} {es : List Expr} {kws : List Keyword} {ma mk : MA} {nm : Option Str} {kpos : Pos} {m : M}
theorem qk_cons (ha : QE X C e m) (hr : QK X C kws mk) : QK X C (⟨nm, e, kpos⟩ :: kws) (aCons m mk) := by
  refine PK_imp (pk_cons ha hr) ?_
  rintro σ H Q ⟨io, ρ, S, R, re, h⟩
  refine rdE_step R re h fun d S1 io1 H1 v p1 m1 R1 re1 q1 h1 => ?_
  refine rdA_step R1 re1 h1 fun ds S2 io2 H2 vs p2 m2 R2 re2 q2 h2 => ?_
  exact h2.fin R2 ⟨v, vs, rfl, q1.mono p2 m2, q2⟩
theorem run_kw {pins : List (Addr × Obj)} {σ : L2.St} {H : Hp} {s : Shared} {Q : VK} {us ws : List Value} {vs zs : List V} (G : FnG X.prog X.w X.K X.mg X.base k f fd ps (spF X.K C.cl fn)) (hr : Room k X.A) (hgd : X.A.guards = some []) (hb : BindKw X.K fd ps ks is n) (tk : Takes X C.W)
    (I : Inv X pins σ H s) (r : Vals vs us) (rz : Vals zs ws) (l1 : vs.length = n) (l2 : zs.length = ks.length) (h : spF X.K C.cl fn (gPm is vs zs) H Q (WE C.W σ)) : wpAny (model X.prog X.w) X.A (call (.ref f) us (ks.zip ws)) (EP X pins σ Q) X.xe s := by
  have rr : Vals (gPm is vs zs) (gPm is us ws) := Vals.pick (Vals.append r rz) is
  refine wpAny_call (codeAny_mono (run_g (us := gPm is us ws) G hr hgd tk I (hb s us ws I.kIn (r.length.symm.trans l1) (rz.length.symm.trans l2)) rr h) fun z s' hz => ?_)
  cases z with
  | error e => exact hz
  | ok fl => cases fl <;> exact hz
theorem qe_kw (G : FnG X.prog X.w X.K X.mg X.base k f fd ps (spF X.K C.cl fn)) (hr : Room k X.A) (hgd : X.A.guards = some []) (hm : X.mg x = some (.ref f)) (hk : PySem.W.keepIn X.K (.ref f) = true) (hb : BindKw X.K fd ps ks is n) (tk : Takes X C.W) (ha : QA X C (e :: es) ma) (hkw : QK X C kws mk)
    (hg : Gl X x := by rfl) (hall : (backToKw pos (keywordEach kws X.env)).all (·.1.isSome) = true := by rfl) (hks : (backToKw pos (keywordEach kws X.env)).filterMap (·.1) = ks := by rfl) (hdb : (x == ("__debug__" : Str)) = false := by decide)
    (he : starEach (e :: es) X.env = (false, eval e X.env) :: starEach es X.env := by rfl) (hpl : ((backTo pos (starEach (e :: es) X.env)).any (·.1) || (backToKw pos (keywordEach kws X.env)).any (·.1.isNone)) = false := by rfl) :
    QE X C (.Call (.Name x p) (e :: es) kws pos) (mKw fn is n ks.length ma mk) := by
  refine ⟨fun pins s σ H Q I h => ?_⟩
  obtain ⟨io, ρ, S, R, re, h⟩ := h
  have ra : rdA X.K C ma σ H fun vs H1 => rdA X.K C mk σ H1 fun zs H2 => vs.length = n ∧ zs.length = ks.length ∧ spF X.K C.cl fn (gPm is vs zs) H2 Q (WE C.W σ) := by
    refine rdA_step R re h fun ds S1 io1 H1 vs p1 m1 R1 re1 q1 h1 => ?_
    refine rdA_step R1 re1 h1 fun es S2 io2 H2 zs p2 m2 R2 re2 q2 h2 => ?_
    split at h2
    · rename_i hc
      exact ⟨by rw [q1.length]; exact hc.1, by rw [q2.length]; exact hc.2, io2, S2, gPm is ds es, R2, RDs.pick ((q1.mono p2 m2).append q2) is, h2⟩
    · exact h2.elim
  refine wpAny_Call_Name_kw (ld_glob I hg hm ?_ hdb)
  refine PySem.W.callWith_KW (h₀ := X.base) I.ok.mod.kin hk hall (thn (ha.run pos pins s σ H _ I ra) fun us s1 ⟨vs, H1, I1, r, q⟩ => ?_) hpl he
  refine thn (hkw.run pos pins s1 σ H1 _ I1 q) fun ws s2 ⟨zs, H2, I2, rz, l1, l2, q2⟩ => ⟨I2.kIn, ?_⟩
  rw [hks]
  exact run_kw G hr hgd hb tk I2 r rz l1 l2 q2
theorem qe_kw0 (G : FnG X.prog X.w X.K X.mg X.base k f fd ps (spF X.K C.cl fn)) (hr : Room k X.A) (hgd : X.A.guards = some []) (hm : X.mg x = some (.ref f)) (hk : PySem.W.keepIn X.K (.ref f) = true) (hb : BindKw X.K fd ps ks is 0) (tk : Takes X C.W) (hkw : QK X C kws mk)
    (hg : Gl X x := by rfl) (hall : (backToKw pos (keywordEach kws X.env)).all (·.1.isSome) = true := by rfl) (hks : (backToKw pos (keywordEach kws X.env)).filterMap (·.1) = ks := by rfl) (hdb : (x == ("__debug__" : Str)) = false := by decide)
    (hpl : ((backTo pos (starEach [] X.env)).any (·.1) || (backToKw pos (keywordEach kws X.env)).any (·.1.isNone)) = false := by rfl) :
    QE X C (.Call (.Name x p) [] kws pos) (mKw fn is 0 ks.length aNil mk) := by
  refine ⟨fun pins s σ H Q I h => ?_⟩
  obtain ⟨io, ρ, S, R, re, h⟩ := h
  have ra : rdA X.K C mk σ H fun zs H2 => zs.length = ks.length ∧ spF X.K C.cl fn (gPm is [] zs) H2 Q (WE C.W σ) := by
    refine rdA_step (k := fun es S => if ([] : List D).length = 0 ∧ es.length = ks.length then fn (gPm is [] es) S else .bad) R re h fun es S1 io1 H1 zs p1 m1 R1 re1 q1 h1 => ?_
    split at h1
    · rename_i hc
      exact ⟨by rw [q1.length]; exact hc.2, io1, S1, gPm is [] es, R1, q1.pick is, h1⟩
    · exact h1.elim
  refine wpAny_Call_Name_kw (ld_glob I hg hm ?_ hdb)
  refine PySem.W.callWith_KW0 (h₀ := X.base) I.ok.mod.kin hk hall (thn (hkw.run pos pins s σ H _ I ra) fun ws s2 ⟨zs, H2, I2, rz, l2, q2⟩ => ⟨I2.kIn, ?_⟩) hpl
  rw [hks]
  exact run_kw (us := []) (vs := []) G hr hgd hb tk I2 .nil rz rfl l2 q2
end
end Mn

set_option Elab.async false
set_option linter.all false
set_option maxRecDepth 100000
set_option maxHeartbeats 4000000
/-! Mn: zip of two sequences, each a list or a tuple. -/
namespace Mn
open PySem PySem.Spec PyProof.Rows L2 RZ

/-- a sequence in the heap: a tuple (true), a list (false); its iterator -/
def SqB : Bool → Heap → Addr → Array Value → Prop
  | true, h, l, xs => h.IsTuple l xs
  | false, h, l, xs => h.IsList l xs
def ItB : Bool → Heap → Addr → Addr → Nat → Prop
  | true, h, it, l, i => h.IsTupleIter it l i
  | false, h, it, l, i => h.IsListIter it l i
def itName : Bool → String
  | true => "tuple_iterator"
  | false => "list_iterator"
def SqK (K : PySem.W.Frag) : Bool → Hp → Addr → List V → Prop
  | true, H, a, xs => SqT K H a xs
  | false, H, a, xs => SqL K H a xs
section
variable {h h' : Heap} {k : Bool} {l it c : Addr} {xs : Array Value} {i : Nat}
theorem SqB.ext (q : SqB k h l xs) (e : Heap.ExtBut c h h') (ne : l ≠ c) : SqB k h' l xs := by
  cases k with
  | true => exact Heap.IsTuple.extBut q e ne
  | false => exact Heap.IsList.extBut q e ne
theorem ItB.ext (q : ItB k h it l i) (e : Heap.ExtBut c h h') (ne : it ≠ c) : ItB k h' it l i := by
  cases k with
  | true => exact Heap.IsTupleIter.extBut q e ne
  | false => exact Heap.IsListIter.extBut q e ne
theorem ItB.moved (q : ItB k h it l i) (e : ∀ o, h.get? it = some o → h'.get? it = some o) : ItB k h' it l i := by
  cases k with
  | true => exact Heap.IsTupleIter.at q e
  | false => exact Heap.IsListIter.at q e
theorem ItB.there (q : ItB k h it l i) : ∃ o, h.get? it = some o ∧ ∃ vs, o.data = .fields vs := by
  cases k with
  | true => obtain ⟨o, e, _, d⟩ := q; exact ⟨o, e, _, d⟩
  | false => obtain ⟨o, e, _, d⟩ := q; exact ⟨o, e, _, d⟩
theorem SqB.there (q : SqB k h l xs) : ∃ o, h.get? l = some o := by
  cases k with
  | true => obtain ⟨o, e, _⟩ := q; exact ⟨o, e⟩
  | false => obtain ⟨o, e, _⟩ := q; exact ⟨o, e⟩
theorem SqB.pushed (q : SqB k h l xs) (o : Obj) : SqB k (h.push o) l xs := by
  cases k with
  | true => exact Heap.IsTuple.push q o
  | false => exact Heap.IsList.push q o
end
section
variable {prog : Program} {w : World} {A : Around} {E : Value → Shared → Prop} {s : Shared} {k : Bool} {it l : Addr} {i : Nat} {xs : Array Value}
theorem step_b {x : Value} {Q : Value → Shared → Prop} (a : ItB k s.heap it l i) (b : SqB k s.heap l xs) (hx : xs[i]? = some x) (q : ∀ h', ItB k h' it l (i + 1) → Heap.SameBut it s.heap h' → Q x { s with heap := h' }) : wpAny (model prog w) A (Builtin.SmallTypes.nextOf (.ref it)) Q E s := by
  cases k with
  | true => exact nextOf_tuple_item a b hx q
  | false => exact wpAny_nextOf_list_item a b hx q
theorem stop_b {Q : Value → Shared → Prop} (hh : A.handled = none) (a : ItB k s.heap it l i) (b : SqB k s.heap l xs) (hx : xs[i]? = none) (q : ∀ h' e, Heap.ExtBut it s.heap h' → (∃ o, h'.get? e = some o ∧ o.cls = .type "StopIteration") → E (.ref e) { s with heap := h' }) : wpAny (model prog w) A (Builtin.SmallTypes.nextOf (.ref it)) Q E s := by
  cases k with
  | true => exact nextOf_tuple_end hh a b hx q
  | false => exact wpAny_nextOf_list_end hh a b hx q
theorem iter_b {Q : Value → Shared → Prop} (b : SqB k s.heap l xs) (q : Q (.ref s.heap.objs.size) { s with heap := s.heap.push { cls := .type (itName k), data := .fields #[.ref l, .int 0 0] } }) : wpAny (model prog w) A (pyIter (.ref l)) Q E s := by
  cases k with
  | true => exact wpAny_pyIter_tuple b q
  | false => exact wpAny_pyIter_list b q
theorem ItB.made (h : Heap) : ItB k (h.push { cls := .type (itName k), data := .fields #[.ref l, .int 0 0] }) h.objs.size l 0 := by
  cases k with
  | true => exact ⟨_, Heap.get?_push_size _ rfl, rfl, rfl⟩
  | false => exact ⟨_, Heap.get?_push_size _ rfl, rfl, rfl⟩
end
section
variable {prog : Program} {w : World} {A : Around} {E : Value → Shared → Prop} {s : Shared} {k m : Bool} {z TI TO i1 i2 l1 l2 : Addr} {n1 n2 : Nat} {xs ys : Array Value} {x y a b : Value}
/-- one turn of zip -/
theorem zipB_item {Q : Option Value → Shared → Prop} (D : ZipApart z TI TO i1 i2 l1 l2) (hz : IsZip s.heap z TI TO .none) (hI : IsPair s.heap TI (.ref i1) (.ref i2)) (hO : IsPair s.heap TO a b)
    (a1 : ItB k s.heap i1 l1 n1) (a2 : ItB m s.heap i2 l2 n2) (b1 : SqB k s.heap l1 xs) (b2 : SqB m s.heap l2 ys) (hx : xs[n1]? = some x) (hy : ys[n2]? = some y)
    (q : ∀ h', IsZip h' z TI TO (rawInt s.heap.objs.size) → IsPair h' TO x y → ItB k h' i1 l1 (n1 + 1) → ItB m h' i2 l2 (n2 + 1) → IsPair h' s.heap.objs.size x y → h'.objs.size = s.heap.objs.size + 1 →
      (∀ c o, c ≠ z → c ≠ TO → c ≠ i1 → c ≠ i2 → s.heap.get? c = some o → h'.get? c = some o) → Q (some (.ref s.heap.objs.size)) { s with heap := h' }) : wpAny (model prog w) A (pyNext (.ref z)) Q E s := by
  have ty : s.TypeIs (.ref z) "zip" := ⟨_, hz, rfl⟩
  unfold pyNext
  refine wpAny_bind (wpAny_attempt (wpAny_callSpecial?_slot (name := Str.ofString "__next__") ty F.slot_zip_next (wpAny_call_entry F.slot_zip_next ty F.entry_zip_next ?_ (F.args_zip_next_1 _))))
  show wpAny _ _ (field (.ref z) 2 >>= _) _ _ _
  refine wpAny_bind (wpAny_field hz rfl (x := .bool false) rfl ?_)
  show wpAny _ _ (field (.ref z) 3 >>= _) _ _ _
  refine wpAny_bind (wpAny_field hz rfl (x := .ref TI) rfl (wpAny_bind (wpAny_seqItems hI rfl ?_)))
  show wpAny _ _ (Builtin.SmallTypes.ownedTupleIsFree (.ref z) >>= _) _ _ _
  refine wpAny_bind ?_
  unfold Builtin.SmallTypes.ownedTupleIsFree
  refine wpAny_bind (wpAny_field hz rfl (x := .none) rfl (wpAny_pure ?_))
  simp only [if_true]
  refine wpAny_bind (wpAny_rule (wpAny_bind (wpAny_field hz rfl (x := .ref TO) rfl (wpAny_bind (wpAny_setField_rec hz (by simp) fun g1 zz1 sb1 => ?_)))))
  have zz1 : IsZip g1 z TI TO .ellipsis := zz1
  refine wpAny_bind ?_
  simp only [List.zipIdx_cons, List.zipIdx_nil, List.forIn_cons, List.forIn_nil]
  refine wpAny_bind (wpAny_bind (wpAny_onRaise ?_))
  show wpAny _ _ (Builtin.SmallTypes.nextOf (.ref i1) >>= _) _ _ _
  refine wpAny_bind (step_b (a1.ext sb1.extBut D.i1z) (b1.ext sb1.extBut D.l1z) hx fun g2 u1 sb2 => wpAny_pure ?_)
  have o2 : IsPair g2 TO a b := sb2.extBut _ _ D.TOi1 (sb1.extBut _ _ D.TOz hO)
  refine wpAny_bind (wpAny_seqItems o2 rfl (wpAny_bind (wpAny_updateSeq_pair o2 fun g3 o3 sb3 => ?_)))
  have o3 : IsPair g3 TO x b := o3
  refine wpAny_bind (wpAny_letGo (wpAny_pure (wpAny_bind (wpAny_bind (wpAny_onRaise ?_)))))
  show wpAny _ _ (Builtin.SmallTypes.nextOf (.ref i2) >>= _) _ _ _
  refine wpAny_bind (step_b (((a2.ext sb1.extBut D.i2z).ext sb2.extBut D.i12.symm).ext sb3.extBut D.TOi2.symm) (((b2.ext sb1.extBut D.l2z).ext sb2.extBut D.l2i1).ext sb3.extBut D.l2TO) hy fun g4 u2 sb4 => wpAny_pure ?_)
  have o4 : IsPair g4 TO x b := sb4.extBut _ _ D.TOi2 o3
  refine wpAny_bind (wpAny_seqItems o4 rfl (wpAny_bind (wpAny_updateSeq_pair o4 fun g5 o5 sb5 => ?_)))
  have o5 : IsPair g5 TO x y := o5
  refine wpAny_bind (wpAny_letGo (wpAny_pure (wpAny_pure (wpAny_bind (wpAny_seqItems o5 rfl (wpAny_bind (wpAny_newTuple ?_)))))))
  have sz : g5.objs.size = s.heap.objs.size := by rw [sb5.1, sb4.1, sb3.1, sb2.1, sb1.1]
  have zz5 : IsZip g5 z TI TO .ellipsis := sb5.extBut _ _ D.TOz.symm (sb4.extBut _ _ D.i2z.symm (sb3.extBut _ _ D.TOz.symm (sb2.extBut _ _ D.i1z.symm zz1)))
  have keep : ∀ c o, c ≠ z → c ≠ TO → c ≠ i1 → c ≠ i2 → s.heap.get? c = some o → g5.get? c = some o := fun c o c1 c2 c3 c4 e =>
    sb5.extBut _ _ c2 (sb4.extBut _ _ c4 (sb3.extBut _ _ c2 (sb2.extBut _ _ c3 (sb1.extBut _ _ c1 e))))
  have v1 : ItB k g5 i1 l1 (n1 + 1) := ((u1.ext sb3.extBut D.TOi1.symm).ext sb4.extBut D.i12).ext sb5.extBut D.TOi1.symm
  have v2 : ItB m g5 i2 l2 (n2 + 1) := u2.ext sb5.extBut D.TOi2.symm
  have zlt : z < g5.objs.size := Heap.lt_size zz5
  show wpAny _ _ (Builtin.SmallTypes.ownedTupleHandOut (.ref z) (.ref g5.objs.size) >>= _) _ _ _
  refine wpAny_bind ?_
  unfold Builtin.SmallTypes.ownedTupleHandOut
  have zz6 : IsZip (g5.push { cls := .type "tuple", data := .seq #[x, y] }) z TI TO .ellipsis := Heap.get?_push_of_some _ zz5
  refine wpAny_bind (wpAny_setField_rec zz6 (by simp) fun g7 zz7 sb7 => ?_)
  have zz7 : IsZip g7 z TI TO (rawInt g5.objs.size) := zz7
  refine wpAny_setField_rec zz7 (by simp) fun g8 zz8 sb8 => ?_
  have zz8 : IsZip g8 z TI TO (rawInt g5.objs.size) := zz8
  have up : ∀ c o, c ≠ z → g5.get? c = some o → g8.get? c = some o := fun c o c1 e => sb8.extBut _ _ c1 (sb7.extBut _ _ c1 (Heap.get?_push_of_some _ e))
  have t8 : IsPair g8 g5.objs.size x y := sb8.extBut _ _ (Nat.ne_of_gt zlt) (sb7.extBut _ _ (Nat.ne_of_gt zlt) (Heap.get?_push_size _ rfl))
  have s8 : g8.objs.size = g5.objs.size + 1 := by rw [sb8.1, sb7.1, Heap.size_push]
  rw [sz] at zz8 t8 s8
  refine wpAny_pure ⟨_, rfl, ?_⟩
  rw [sz]
  exact wpAny_pure (q g8 zz8 (up _ _ D.TOz o5) (v1.moved fun o e => up _ o D.i1z e) (v2.moved fun o e => up _ o D.i2z e) t8 s8 fun c o c1 c2 c3 c4 e => up c o c1 (keep c o c1 c2 c3 c4 e))
theorem zipB_stop {Q : Fin → Shared → Prop} (hh : A.handled = none) (D : ZipApart z TI TO i1 i2 l1 l2) (hz : IsZip s.heap z TI TO .none) (hI : IsPair s.heap TI (.ref i1) (.ref i2)) (hO : IsPair s.heap TO a b)
    (a1 : ItB k s.heap i1 l1 n1) (a2 : ItB m s.heap i2 l2 n2) (b1 : SqB k s.heap l1 xs) (b2 : SqB m s.heap l2 ys) (hend : xs[n1]? = none ∨ ys[n2]? = none)
    (q : ∀ h' e, (∀ c o, c ≠ z → c ≠ TO → c ≠ i1 → c ≠ i2 → s.heap.get? c = some o → h'.get? c = some o) → (∃ o, h'.get? e = some o ∧ o.cls = .type "StopIteration") → E (.ref e) { s with heap := h' }) : wpAny (model prog w) A (Builtin.«zip.__next__» ⟨[.ref z], []⟩) Q E s := by
  show wpAny _ _ (field (.ref z) 2 >>= _) _ _ _
  refine wpAny_bind (wpAny_field hz rfl (x := .bool false) rfl ?_)
  show wpAny _ _ (field (.ref z) 3 >>= _) _ _ _
  refine wpAny_bind (wpAny_field hz rfl (x := .ref TI) rfl (wpAny_bind (wpAny_seqItems hI rfl ?_)))
  show wpAny _ _ (Builtin.SmallTypes.ownedTupleIsFree (.ref z) >>= _) _ _ _
  refine wpAny_bind ?_
  unfold Builtin.SmallTypes.ownedTupleIsFree
  refine wpAny_bind (wpAny_field hz rfl (x := .none) rfl (wpAny_pure ?_))
  simp only [if_true]
  refine wpAny_bind (wpAny_rule (wpAny_bind (wpAny_field hz rfl (x := .ref TO) rfl (wpAny_bind (wpAny_setField_rec hz (by simp) fun g1 zz1 sb1 => ?_)))))
  have zz1 : IsZip g1 z TI TO .ellipsis := zz1
  refine wpAny_bind ?_
  simp only [List.zipIdx_cons, List.zipIdx_nil, List.forIn_cons, List.forIn_nil]
  refine wpAny_bind (wpAny_bind (wpAny_onRaise ?_))
  show wpAny _ _ (Builtin.SmallTypes.nextOf (.ref i1) >>= _) _ _ _
  cases hx : xs[n1]? with
  | none =>
    refine wpAny_bind (stop_b hh (a1.ext sb1.extBut D.i1z) (b1.ext sb1.extBut D.l1z) hx fun g2 e sb2 he => ?_)
    obtain ⟨oe, e1, e2⟩ := he
    have zz2 : IsZip g2 z TI TO .ellipsis := sb2 _ _ D.i1z.symm zz1
    have ne : e ≠ z := fun x => by subst x; rw [zz2] at e1; cases e1; simp at e2
    exact wpAny_setField_rec zz2 (by simp) fun g3 _ sb3 => q g3 e (fun c o c1 _ c3 _ x => sb3.extBut _ _ c1 (sb2 _ _ c3 (sb1.extBut _ _ c1 x))) ⟨oe, sb3.extBut _ _ ne e1, e2⟩
  | some x =>
    have hy : ys[n2]? = none := by
      rcases hend with g | g
      · rw [hx] at g; cases g
      · exact g
    refine wpAny_bind (step_b (a1.ext sb1.extBut D.i1z) (b1.ext sb1.extBut D.l1z) hx fun g2 u1 sb2 => wpAny_pure ?_)
    have o2 : IsPair g2 TO a b := sb2.extBut _ _ D.TOi1 (sb1.extBut _ _ D.TOz hO)
    refine wpAny_bind (wpAny_seqItems o2 rfl (wpAny_bind (wpAny_updateSeq_pair o2 fun g3 o3 sb3 => ?_)))
    refine wpAny_bind (wpAny_letGo (wpAny_pure (wpAny_bind (wpAny_bind (wpAny_onRaise ?_)))))
    show wpAny _ _ (Builtin.SmallTypes.nextOf (.ref i2) >>= _) _ _ _
    refine wpAny_bind (stop_b hh (((a2.ext sb1.extBut D.i2z).ext sb2.extBut D.i12.symm).ext sb3.extBut D.TOi2.symm) (((b2.ext sb1.extBut D.l2z).ext sb2.extBut D.l2i1).ext sb3.extBut D.l2TO) hy fun g4 e sb4 he => ?_)
    obtain ⟨oe, e1, e2⟩ := he
    have zz4 : IsZip g4 z TI TO .ellipsis := sb4 _ _ D.i2z.symm (sb3.extBut _ _ D.TOz.symm (sb2.extBut _ _ D.i1z.symm zz1))
    have ne : e ≠ z := fun x => by subst x; rw [zz4] at e1; cases e1; simp at e2
    exact wpAny_setField_rec zz4 (by simp) fun g5 _ sb5 => q g5 e (fun c o c1 c2 c3 c4 x => sb5.extBut _ _ c1 (sb4 _ _ c4 (sb3.extBut _ _ c2 (sb2.extBut _ _ c3 (sb1.extBut _ _ c1 x))))) ⟨oe, sb5.extBut _ _ ne e1, e2⟩
/-- the end of zip -/
theorem zipB_end {Q : Option Value → Shared → Prop} (hh : A.handled = none) (D : ZipApart z TI TO i1 i2 l1 l2) (hz : IsZip s.heap z TI TO .none) (hI : IsPair s.heap TI (.ref i1) (.ref i2)) (hO : IsPair s.heap TO a b)
    (a1 : ItB k s.heap i1 l1 n1) (a2 : ItB m s.heap i2 l2 n2) (b1 : SqB k s.heap l1 xs) (b2 : SqB m s.heap l2 ys) (hend : xs[n1]? = none ∨ ys[n2]? = none)
    (q : ∀ h', (∀ c o, c ≠ z → c ≠ TO → c ≠ i1 → c ≠ i2 → s.heap.get? c = some o → h'.get? c = some o) → Q none { s with heap := h' }) : wpAny (model prog w) A (pyNext (.ref z)) Q E s := by
  have ty : s.TypeIs (.ref z) "zip" := ⟨_, hz, rfl⟩
  unfold pyNext
  refine wpAny_bind (wpAny_attempt (wpAny_callSpecial?_slot (name := Str.ofString "__next__") ty F.slot_zip_next (wpAny_call_entry F.slot_zip_next ty F.entry_zip_next (zipB_stop hh D hz hI hO a1 a2 b1 b2 hend fun h' e hk he => ?_) (F.args_zip_next_1 _))))
  obtain ⟨o, ho, hc⟩ := he
  exact wpAny_bind (wpAny_isInstance (T := "StopIteration") (b := true) ⟨o, ho, hc⟩ isSubtype_stop (wpAny_pure (q _ hk)))
end

abbrev zb1 (k : Bool) (h : Heap) (l1 : Addr) : Heap := h.push { cls := .type (itName k), data := .fields #[.ref l1, .int 0 0] }
abbrev zb2 (k m : Bool) (h : Heap) (l1 l2 : Addr) : Heap := (zb1 k h l1).push { cls := .type (itName m), data := .fields #[.ref l2, .int 0 0] }
abbrev zb3 (k m : Bool) (h : Heap) (l1 l2 : Addr) : Heap := (zb2 k m h l1 l2).push { cls := .type "tuple", data := .seq #[.ref h.objs.size, .ref (zb1 k h l1).objs.size] }
abbrev zb4 (k m : Bool) (h : Heap) (l1 l2 : Addr) : Heap := (zb3 k m h l1 l2).push { cls := .type "tuple", data := .seq #[.none, .none] }
abbrev zb5 (k m : Bool) (h : Heap) (l1 l2 : Addr) : Heap := (zb4 k m h l1 l2).push { cls := .type "zip", data := .fields #[.none, .bool false, .bool false, .ref (zb2 k m h l1 l2).objs.size, .ref (zb3 k m h l1 l2).objs.size] }
theorem meets_zipB (k m : Bool) (l1 l2 : Addr) (xs ys : Array Value) :
    Meets (Builtin.«zip.__new__» ⟨[.type "zip", .ref l1, .ref l2], []⟩) (fun _ R s => SqB k s.heap l1 xs ∧ SqB m s.heap l2 ys ∧ R (.ok (.ret (.ref (zb4 k m s.heap l1 l2).objs.size))) { s with heap := zb5 k m s.heap l1 l2 }) :=
  .of_wp fun prog w A R s h => by
    obtain ⟨hp, g, d, tk, os⟩ := s
    obtain ⟨q1, q2, h⟩ := h
    have hsub := sub_zip
    cases k <;> cases m
    · have e1 : Heap.IsList (Shared.heap ⟨hp, g, d, tk, os⟩) l1 xs := q1
      have e2 : Heap.IsList (Shared.heap ⟨hp.push { cls := .type "list_iterator", data := .fields #[.ref l1, .int 0 0] }, g, d, tk, os⟩) l2 ys := Heap.IsList.push q2 _
      wp_walk using wpAny_pyIter_list e1, wpAny_pyIter_list e2
      exact ⟨_, rfl, h⟩
    · have e1 : Heap.IsList (Shared.heap ⟨hp, g, d, tk, os⟩) l1 xs := q1
      have e2 : Heap.IsTuple (Shared.heap ⟨hp.push { cls := .type "list_iterator", data := .fields #[.ref l1, .int 0 0] }, g, d, tk, os⟩) l2 ys := Heap.IsTuple.push q2 _
      wp_walk using wpAny_pyIter_list e1, wpAny_pyIter_tuple e2
      exact ⟨_, rfl, h⟩
    · have e1 : Heap.IsTuple (Shared.heap ⟨hp, g, d, tk, os⟩) l1 xs := q1
      have e2 : Heap.IsList (Shared.heap ⟨hp.push { cls := .type "tuple_iterator", data := .fields #[.ref l1, .int 0 0] }, g, d, tk, os⟩) l2 ys := Heap.IsList.push q2 _
      wp_walk using wpAny_pyIter_tuple e1, wpAny_pyIter_list e2
      exact ⟨_, rfl, h⟩
    · have e1 : Heap.IsTuple (Shared.heap ⟨hp, g, d, tk, os⟩) l1 xs := q1
      have e2 : Heap.IsTuple (Shared.heap ⟨hp.push { cls := .type "tuple_iterator", data := .fields #[.ref l1, .int 0 0] }, g, d, tk, os⟩) l2 ys := Heap.IsTuple.push q2 _
      wp_walk using wpAny_pyIter_tuple e1, wpAny_pyIter_tuple e2
      exact ⟨_, rfl, h⟩
section
variable {prog : Program} {w : World} {A : Around} {E : Value → Shared → Prop} {s : Shared} {k m : Bool} {l1 l2 : Addr} {xs ys : Array Value}
theorem call_zipB {Q : Value → Shared → Prop} (b1 : SqB k s.heap l1 xs) (b2 : SqB m s.heap l2 ys)
    (q : ∀ h', IsZip h' (s.heap.objs.size + 4) (s.heap.objs.size + 2) (s.heap.objs.size + 3) .none → IsPair h' (s.heap.objs.size + 2) (.ref s.heap.objs.size) (.ref (s.heap.objs.size + 1)) → IsPair h' (s.heap.objs.size + 3) .none .none →
      ItB k h' s.heap.objs.size l1 0 → ItB m h' (s.heap.objs.size + 1) l2 0 → (∀ c o, s.heap.get? c = some o → h'.get? c = some o) → Q (.ref (s.heap.objs.size + 4)) { s with heap := h' }) : wpAny (model prog w) A (call (.type "zip") [.ref l1, .ref l2]) Q E s := by
  refine callType_new F.called_zip (by decide) (F.typeCall_zip_2 _ _) (F.newCall_zip_2 _ _) (fun obj => F.args_object_init_3 obj _ _) F.entry_zip_new (meets_zipB k m l1 l2 xs ys) ⟨b1, b2, ?_⟩
  have c1 : (zb1 k s.heap l1).objs.size = s.heap.objs.size + 1 := Heap.size_push ..
  have c2 : (zb2 k m s.heap l1 l2).objs.size = s.heap.objs.size + 2 := by rw [Heap.size_push, c1]
  have c3 : (zb3 k m s.heap l1 l2).objs.size = s.heap.objs.size + 3 := by rw [Heap.size_push, c2]
  have c4 : (zb4 k m s.heap l1 l2).objs.size = s.heap.objs.size + 4 := by rw [Heap.size_push, c3]
  have p5 : ∀ c o, (zb4 k m s.heap l1 l2).get? c = some o → (zb5 k m s.heap l1 l2).get? c = some o := fun c o e => Heap.get?_push_of_some _ e
  have p4 : ∀ c o, (zb3 k m s.heap l1 l2).get? c = some o → (zb5 k m s.heap l1 l2).get? c = some o := fun c o e => p5 _ _ (Heap.get?_push_of_some _ e)
  have p3 : ∀ c o, (zb2 k m s.heap l1 l2).get? c = some o → (zb5 k m s.heap l1 l2).get? c = some o := fun c o e => p4 _ _ (Heap.get?_push_of_some _ e)
  have p2 : ∀ c o, (zb1 k s.heap l1).get? c = some o → (zb5 k m s.heap l1 l2).get? c = some o := fun c o e => p3 _ _ (Heap.get?_push_of_some _ e)
  have g5 : (zb5 k m s.heap l1 l2).get? (zb4 k m s.heap l1 l2).objs.size = some _ := Heap.get?_push_size _ rfl
  have g4 : (zb5 k m s.heap l1 l2).get? (zb3 k m s.heap l1 l2).objs.size = some _ := p5 _ _ (Heap.get?_push_size _ rfl)
  have g3 : (zb5 k m s.heap l1 l2).get? (zb2 k m s.heap l1 l2).objs.size = some _ := p4 _ _ (Heap.get?_push_size _ rfl)
  have i2 : ItB m (zb5 k m s.heap l1 l2) (zb1 k s.heap l1).objs.size l2 0 := (ItB.made (k := m) (l := l2) (zb1 k s.heap l1)).moved fun o e => p3 _ _ e
  have i1 : ItB k (zb5 k m s.heap l1 l2) s.heap.objs.size l1 0 := (ItB.made (k := k) (l := l1) s.heap).moved fun o e => p2 _ _ e
  rw [c2, c3, c4] at g5
  rw [c1, c2] at g3
  rw [c3] at g4
  rw [c1] at i2
  rw [c4]
  exact ⟨⟨_, g5, rfl⟩, q _ g5 g3 g4 i1 i2 fun c o e => p2 _ _ (Heap.get?_push_of_some _ e)⟩
end
/-- the sequences at a and b as they stand at each turn -/
def ItM (K : PySem.W.Frag) (k m : Bool) (a b : Addr) : It :=
  ⟨fun i H => ∃ (xs ys : List V) (x y : V), SqK K k H a xs ∧ SqK K m H b ys ∧ xs[i]? = some x ∧ ys[i]? = some y,
    fun i H v H' => ∃ T x y, v = .ref T ∧ H T = none ∧ H' = upd H T (.tup [x, y]) ∧ (∀ xs, SqK K k H a xs → xs[i]? = some x) ∧ ∀ ys, SqK K m H b ys → ys[i]? = some y,
    fun i H => ∃ xs ys : List V, SqK K k H a xs ∧ SqK K m H b ys ∧ (xs.length ≤ i ∨ ys.length ≤ i)⟩
section
variable {X : Cx} {pins : List (Addr × Obj)} {σ : L2.St} {H : Hp} {s : Shared} {k : Bool} {a : Addr} {xs ys : List V}
theorem sqK_of (I : Inv X pins σ H s) (q : SqK X.K k H a xs) : ∃ its : List Value, Vals xs its ∧ SqB k s.heap a its.toArray := by
  cases k with
  | true =>
    obtain ⟨its, r, p, _⟩ := I.tuple q
    exact ⟨its, r, p⟩
  | false =>
    obtain ⟨its, r, p, _⟩ := I.list q
    exact ⟨its, r, p.isList⟩
theorem sqK_inj (I : Inv X pins σ H s) (q : SqK X.K k H a xs) (q' : SqK X.K k H a ys) : xs = ys := by
  cases k with
  | true => exact I.tuple_inj q q'
  | false => exact I.list_inj q q'
end
theorem turnB {P : Program} {w : World} {K : PySem.W.Frag} {k m : Bool} {elts : List Expr} {kk : Nat} {tpos : Pos} {a b z TI TO i1 i2 : Addr} (D : ZipApart z TI TO i1 i2 a b) :
    Turn P w K (.Tuple elts kk tpos) (ItM K k m a b) [z, TI, TO, i1, i2] z (fun i h => IsZip h z TI TO .none ∧ IsPair h TI (.ref i1) (.ref i2) ∧ (∃ x y, IsPair h TO x y) ∧ ItB k h i1 a i ∧ ItB m h i2 b i) where
  mem := by simp
  obj := fun i h st c hc => by
    obtain ⟨hz, hI, ⟨x, y, hO⟩, a1, a2⟩ := st
    obtain ⟨o1, e1, v1, d1⟩ := a1.there
    obtain ⟨o2, e2, v2, d2⟩ := a2.there
    have hc : c = z ∨ c = TI ∨ c = TO ∨ c = i1 ∨ c = i2 := by simpa using hc
    rcases hc with rfl | rfl | rfl | rfl | rfl
    · exact ⟨_, hz, fun v q => nomatch q⟩
    · exact ⟨_, hI, fun v q => nomatch q⟩
    · exact ⟨_, hO, fun v q => nomatch q⟩
    · exact ⟨o1, e1, fun v q => by rw [d1] at q; cases q⟩
    · exact ⟨o2, e2, fun v q => by rw [d2] at q; cases q⟩
  keep := fun i h h' st g => by
    obtain ⟨hz, hI, ⟨x, y, hO⟩, a1, a2⟩ := st
    exact ⟨g z (by simp) _ hz, g TI (by simp) _ hI, ⟨x, y, g TO (by simp) _ hO⟩, a1.moved fun o q => g i1 (by simp) o q, a2.moved fun o q => g i2 (by simp) o q⟩
  item := by
    intro X hP hw hK hc i pins s σ H E I hf st hg
    subst hP hw hK
    obtain ⟨hz, hI, ⟨x0, y0, hO⟩, a1, a2⟩ := st
    obtain ⟨xs, ys, x, y, qx, qy, hx, hy⟩ := hg
    obtain ⟨its, rv, p⟩ := sqK_of I qx
    obtain ⟨its2, rv2, p2⟩ := sqK_of I qy
    obtain ⟨u, hu, ru⟩ := rv.get hx
    obtain ⟨u2, hu2, ru2⟩ := rv2.get hy
    have zlt : z < s.heap.objs.size := Heap.lt_size hz
    refine zipB_item D hz hI hO a1 a2 p p2 (x := u) (y := u2) (by simpa using hu) (by simpa using hu2) fun h1 zz oo b1 b2 tt sz hk => ?_
    refine ⟨_, rfl, wpAny_letOwnedTupleGo_zip (s := { s with heap := h1 }) zz fun h2 zz2 sb => ?_⟩
    have t2 : h2.get? s.heap.objs.size = some { cls := .type "tuple", data := .seq #[u, u2] } := (sb.2 _ (Nat.ne_of_gt zlt)).trans tt
    have ob : ObjOk X.prog X.w (upd H s.heap.objs.size (.tup [x, y])) h2 s.heap.objs.size (.tup [x, y]) := ⟨by show 2 ≤ sizeLine; decide, [u, u2], .cons ru (.cons ru2 .nil), ⟨_, t2, rfl, _, rfl⟩⟩
    have J : Inv X pins σ (upd H s.heap.objs.size (.tup [x, y])) { s with heap := h2 } := I.turnedNew (t' := s.toks) (ch := [z, TI, TO, i1, i2]) (fun c o hb q =>
      (sb.2 c (fun q' => hb (by simp [q']))).trans (hk c o (fun q' => hb (by simp [q'])) (fun q' => hb (by simp [q'])) (fun q' => hb (by simp [q'])) (fun q' => hb (by simp [q'])) q)) hf (Nat.le_refl _) ob
    refine ⟨.ref s.heap.objs.size, _, J, rfl, ⟨_, x, y, rfl, I.hok.fresh (Nat.le_refl _), rfl, fun l hl => by rw [sqK_inj I hl qx]; exact hx, fun l hl => by rw [sqK_inj I hl qy]; exact hy⟩, ⟨zz2, ?_, ⟨u, u2, ?_⟩, ?_, ?_⟩, fun c hcm => ?_⟩
    · exact (sb.2 _ D.TIz).trans (hk _ _ D.TIz D.TITO D.TIi1 D.TIi2 hI)
    · exact (sb.2 _ D.TOz).trans oo
    · exact b1.moved fun o q => (sb.2 _ D.i1z).trans q
    · exact b2.moved fun o q => (sb.2 _ D.i2z).trans q
    · have lt : c < s.heap.objs.size := by
        have hcm : c = z ∨ c = TI ∨ c = TO ∨ c = i1 ∨ c = i2 := by simpa using hcm
        rcases hcm with rfl | rfl | rfl | rfl | rfl
        · exact zlt
        · exact Heap.lt_size hI
        · exact Heap.lt_size hO
        · obtain ⟨_, e1, _⟩ := a1.there; exact Heap.lt_size e1
        · obtain ⟨_, e1, _⟩ := a2.there; exact Heap.lt_size e1
      rw [upd_ne (Nat.ne_of_lt lt)]
      exact (hf c hcm).1
  done := by
    intro X hP hw hK hc i pins s σ H E I hf st hg
    subst hP hw hK
    obtain ⟨hz, hI, ⟨x0, y0, hO⟩, a1, a2⟩ := st
    obtain ⟨xs, ys, qx, qy, hend⟩ := hg
    obtain ⟨its, rv, p⟩ := sqK_of I qx
    obtain ⟨its2, rv2, p2⟩ := sqK_of I qy
    have l1 := rv.length
    have l2 := rv2.length
    have he : its.toArray[i]? = none ∨ its2.toArray[i]? = none := by
      rcases hend with q | q
      · exact .inl (by simp; omega)
      · exact .inr (by simp; omega)
    exact zipB_end (I.ok.hd hc) D hz hI hO a1 a2 p p2 he fun h' hk => ⟨rfl, I.turnedL (t' := s.toks) (ch := [z, TI, TO, i1, i2]) (fun c o hb q =>
      hk c o (fun q' => hb (by simp [q'])) (fun q' => hb (by simp [q'])) (fun q' => hb (by simp [q'])) (fun q' => hb (by simp [q'])) q) hf⟩
  self := fun A i s Q E st h => wpAny_pyIter_zip st.1 h
/-- what zip walks -/
def iZip2 (a : MA) : MI := fun ρ S => (a ρ S).bind fun ds S1 => match ds with
  | [x, y] => match itD S1 x, itD S1 y with
    | some p, some q => if kOf S1 x = "str" ∨ kOf S1 y = "str" then .bad else .ok (List.zipWith (fun u v => D.tup [u, v]) p.1 q.1, fun S => p.2 S && q.2 S) S1
    | _, _ => .bad
  | _ => .bad
/-- a list or tuple as a source of zip -/
structure SrcB (K : PySem.W.Frag) (k : Bool) (a : Addr) (io : List Addr) (H : Hp) (ds : List D) (chk : Sto → Bool) : Prop where
  now : ∃ xs, SqK K k H a xs ∧ RDs K io H ds xs
  later : ∀ io' S' H', io <+: io' → Mo H H' → Rep K io' S' H' → chk S' = true → ∃ xs, SqK K k H' a xs ∧ RDs K io' H' ds xs
theorem srcB_of {K : PySem.W.Frag} {io : List Addr} {S : Sto} {H : Hp} {d : D} {v : V} {z : It0} (R : Rep K io S H) (q : RD K io H d v) (h : itD S d = some z) (ns : kOf S d ≠ "str") : ∃ k a, v = .ref a ∧ SrcB K k a io H z.1 z.2 := by
  unfold itD at h
  split at h
  · injection h with h
    subst h
    obtain ⟨a, xs, rfl, hs, r⟩ := q
    exact ⟨true, a, rfl, ⟨xs, hs, r⟩, fun io' S' H' p m R' _ => ⟨xs, m.sqT hs, r.mono p m⟩⟩
  · injection h with h
    subst h
    obtain ⟨a, xs, rfl, hs, r⟩ := q
    exact ⟨false, a, rfl, ⟨xs, hs.sq, r⟩, fun io' S' H' p m R' _ => ⟨xs, (m.fzL hs).sq, r.mono p m⟩⟩
  · exact absurd rfl ns
  · rename_i n
    split at h
    · rename_i ds hs
      injection h with h
      subst h
      obtain ⟨a, rfl, ha⟩ := q
      obtain ⟨xs, hx, r⟩ := R.ob _ _ _ hs ha
      refine ⟨false, a, rfl, ⟨xs, SqL.of hx, r⟩, fun io' S' H' p m R' c => ?_⟩
      have c : S'[n]? = some (.lst ds) := of_decide_eq_true c
      obtain ⟨ys, h1, h2⟩ := R'.ob _ _ _ c (pre_get p ha)
      exact ⟨ys, SqL.of h1, h2⟩
    · cases h
  · cases h
theorem wk_zip {K : PySem.W.Frag} {io : List Addr} {H : Hp} {k m : Bool} {a b : Addr} {ds es : List D} {c1 c2 : Sto → Bool} (p : SrcB K k a io H ds c1) (q : SrcB K m b io H es c2) :
    WkD K (ItM K k m a b) io H (List.zipWith (fun u v => D.tup [u, v]) ds es) (fun S => c1 S && c2 S) := by
  refine ⟨fun H' => ∃ xs ys, SqK K k H' a xs ∧ SqK K m H' b ys ∧ xs.length = ds.length ∧ ys.length = es.length, fun i H' v H2 => ∃ T x y, v = .ref T ∧ H' T = none ∧ H2 = upd H' T (.tup [x, y]) ∧ (∀ xs, SqK K k H' a xs → xs[i]? = some x) ∧ ∀ ys, SqK K m H' b ys → ys[i]? = some y, ?_, ?_, ?_⟩
  · rw [List.length_zipWith]
    refine ⟨fun i H' hi ⟨xs, ys, q1, q2, l1, l2⟩ => ⟨xs, ys, xs[i]'(by omega), ys[i]'(by omega), q1, q2, by simp, by simp⟩, fun H' ⟨xs, ys, q1, q2, l1, l2⟩ => ⟨xs, ys, q1, q2, by omega⟩, fun i H' x H2 hi g y => y⟩
  · intro io' S' H' p1 m1 R' hc
    rw [Bool.and_eq_true] at hc
    obtain ⟨xs, q1, r1⟩ := p.later io' S' H' p1 m1 R' hc.1
    obtain ⟨ys, q2, r2⟩ := q.later io' S' H' p1 m1 R' hc.2
    exact ⟨xs, ys, q1, q2, r1.length, r2.length⟩
  · intro i io' S' H' v H2 p1 m1 R' hc hi y
    rw [Bool.and_eq_true] at hc
    obtain ⟨xs, q1, r1⟩ := p.later io' S' H' p1 m1 R' hc.1
    obtain ⟨ys, q2, r2⟩ := q.later io' S' H' p1 m1 R' hc.2
    obtain ⟨T, x, y', rfl, hT, rfl, f1, f2⟩ := y
    obtain ⟨d, e1, rd1⟩ := r1.back (f1 xs q1)
    obtain ⟨e, e2, rd2⟩ := r2.back (f2 ys q2)
    refine ⟨.tup [d, e], by rw [List.getElem?_zipWith, e1, e2], Mo.new hT, R'.tup hT, T, _, rfl, SqT.of upd_same, (RDs.two rd1 rd2).mono (List.prefix_rfl) (Mo.new hT)⟩
section
variable {X : Cx} {C : Cn} {e e2 : Expr} {ma : MA} {p pos tpos : Pos} {elts : List Expr} {kk : Nat}
theorem qi_zip (hm : X.mg "zip" = none) (ha : QA X C [e, e2] ma) (hg : Gl X "zip" := by rfl) (hs : starEach [e, e2] X.env = (false, eval e X.env) :: starEach [e2] X.env := by rfl) (hpl : (backTo pos (starEach [e2] X.env)).any (·.1) = false := by rfl) :
    QI X C (.Tuple elts kk tpos) (.Call (.Name "zip" p) [e, e2] [] pos) (iZip2 ma) := by
  refine ⟨fun pins s σ H R I h => ?_⟩
  obtain ⟨io, ρ, S, R0, re, h⟩ := h
  have ra : rdA X.K C ma σ H fun vs H1 => ∃ k m a b xs ys, vs = [V.ref a, V.ref b] ∧ SqK X.K k H1 a xs ∧ SqK X.K m H1 b ys ∧ R (ItM X.K k m a b) H1 := by
    refine rdA_step R0 re h fun ds S1 io1 H1 vs p1 m1 R1 re1 q1 h1 => ?_
    split at h1
    · rename_i x y
      split at h1
      · rename_i z1 z2 e1 e2
        split at h1
        · exact h1.elim
        · rename_i ns
          obtain ⟨v, w, rfl, r1, r2⟩ := rds2 q1
          obtain ⟨k, a, rfl, s1⟩ := srcB_of R1 r1 e1 fun z => ns (.inl z)
          obtain ⟨m, b, rfl, s2⟩ := srcB_of R1 r2 e2 fun z => ns (.inr z)
          obtain ⟨xs, g1, _⟩ := s1.now
          obtain ⟨ys, g2, _⟩ := s2.now
          exact ⟨k, m, a, b, xs, ys, rfl, g1, g2, h1.fin R1 (wk_zip s1 s2)⟩
      · exact h1.elim
    · exact h1.elim
  refine Call_ (ld_blt I hg hm PyProof.Rows.boot_zip (PyProof.Rows.callWith_type1 (thn (ha.run pos pins s σ H _ I ra) fun us s1 ⟨vs, H1, I1, r1, q1⟩ => ?_) hs hpl))
  obtain ⟨k, m, a, b, xs, ys, rfl, g1, g2, q⟩ := q1
  obtain ⟨u, v, rfl, ru, rv⟩ := r1.two
  have ru : u = Value.ref a := ru
  have rv : v = Value.ref b := rv
  subst ru rv
  obtain ⟨its, w1, b1⟩ := sqK_of I1 g1
  obtain ⟨its2, w2, b2⟩ := sqK_of I1 g2
  obtain ⟨o1, e1⟩ := b1.there
  obtain ⟨o2, e2'⟩ := b2.there
  refine call_zipB b1 b2 fun h' hz hI hO i1 i2 hk => wpAny_pyIter_zip hz ?_
  have I2 : Inv X pins σ H1 { s1 with heap := h' } := I1.kept (t' := s1.toks) hk
  refine ⟨s1.heap.objs.size + 4, [s1.heap.objs.size + 4, s1.heap.objs.size + 2, s1.heap.objs.size + 3, s1.heap.objs.size, s1.heap.objs.size + 1], _, _, H1, rfl, I2, turnB (PySem.W.ktu_apart s1.heap.objs.size a b (Heap.lt_size e1) (Heap.lt_size e2')), ⟨hz, hI, ⟨_, _, hO⟩, i1, i2⟩, fun c hcm => ?_, q⟩
  have hle : s1.heap.objs.size ≤ c := by
    have hcm : c = s1.heap.objs.size + 4 ∨ c = s1.heap.objs.size + 2 ∨ c = s1.heap.objs.size + 3 ∨ c = s1.heap.objs.size ∨ c = s1.heap.objs.size + 1 := by simpa using hcm
    rcases hcm with e | e | e | e | e <;> rw [e] <;> first | exact Nat.le_refl _ | exact Nat.le_add_right _ _
  exact I1.fpOk hle (I1.hok.fresh hle)
end
end Mn

set_option Elab.async false
set_option linter.all false
set_option maxRecDepth 100000
set_option maxHeartbeats 4000000
/-! Mn: what the head tells: constants of any depth, tables, defs, free names. -/
namespace Mn
open PySem PySem.Spec PyProof.Rows L2
mutual
def chkD (K : PySem.W.Frag) : D → Value → Bool
  | .non, .none => true
  | .bl b, .bool c => b == c
  | .int i, .int j _ => decide (i = j)
  | .str x, .str y _ => decide (x = y)
  | .tup ds, .ref a => match K.lookup a with
    | some ⟨.type c, _, .seq its _, _⟩ => decide (c = "tuple") && (decide (its.size ≤ sizeLine) && chkDs K ds its.toList)
    | _ => false
  | .fls ds, .ref a => match K.lookup a with
    | some ⟨.type c, none, .seq its _, _⟩ => decide (c = "list") && (decide (its.size ≤ sizeLine) && chkDs K ds its.toList)
    | _ => false
  | _, _ => false
def chkDs (K : PySem.W.Frag) : List D → List Value → Bool
  | [], [] => true
  | d :: ds, u :: us => chkD K d u && chkDs K ds us
  | _, _ => false
end
mutual
theorem chkD_ok {K : PySem.W.Frag} : ∀ {d : D} {u : Value}, chkD K d u = true → KD K d u
  | .non, u, h => by
    cases u with
    | none => exact ⟨.non, rfl, fun _ _ => rfl⟩
    | _ => cases h
  | .bl b, u, h => by
    cases u with
    | bool c =>
      have h : (b == c) = true := h
      rw [eq_of_beq h]
      exact ⟨.bl c, rfl, fun _ _ => rfl⟩
    | _ => cases h
  | .int i, u, h => by
    cases u with
    | int j t =>
      have h : i = j := of_decide_eq_true h
      rw [h]
      exact ⟨.int j, ⟨t, rfl⟩, fun _ _ => rfl⟩
    | _ => cases h
  | .str x, u, h => by
    cases u with
    | str y t =>
      have h : x = y := of_decide_eq_true h
      rw [h]
      exact ⟨.str y, ⟨t, rfl⟩, fun _ _ => rfl⟩
    | _ => cases h
  | .tup ds, u, h => by
    cases u with
    | ref a =>
      unfold chkD at h
      split at h
      · rename_i c _ its n _ q
        obtain ⟨h1, h2⟩ := He.ba h
        obtain ⟨h3, h4⟩ := He.ba h2
        obtain ⟨vs, rv, rs⟩ := chkDs_ok h4
        exact ⟨.ref a, rfl, fun io H => ⟨a, vs, rfl, .inr ⟨_, its, n, q, congrArg Value.type (of_decide_eq_true h1), rfl, of_decide_eq_true h3, rv⟩, rs io H⟩⟩
      · cases h
    | _ => cases h
  | .fls ds, u, h => by
    cases u with
    | ref a =>
      unfold chkD at h
      split at h
      · rename_i c its n _ q
        obtain ⟨h1, h2⟩ := He.ba h
        obtain ⟨h3, h4⟩ := He.ba h2
        obtain ⟨vs, rv, rs⟩ := chkDs_ok h4
        exact ⟨.ref a, rfl, fun io H => ⟨a, vs, rfl, .inr ⟨_, its, n, q, congrArg Value.type (of_decide_eq_true h1), rfl, rfl, of_decide_eq_true h3, rv⟩, rs io H⟩⟩
      · cases h
    | _ => cases h
  | .ref n, u, h => by cases u <;> cases h
theorem chkDs_ok {K : PySem.W.Frag} : ∀ {ds : List D} {us : List Value}, chkDs K ds us = true → ∃ vs, Vals vs us ∧ ∀ io H, RDs K io H ds vs
  | [], us, h => by
    cases us with
    | nil => exact ⟨[], .nil, fun _ _ => rfl⟩
    | cons _ _ => cases h
  | d :: ds, us, h => by
    cases us with
    | nil => cases h
    | cons u us =>
      obtain ⟨h1, h2⟩ := He.ba (show (chkD K d u && chkDs K ds us) = true from h)
      obtain ⟨v, r1, q1⟩ := chkD_ok h1
      obtain ⟨vs, r2, q2⟩ := chkDs_ok h2
      exact ⟨v :: vs, .cons r1 r2, fun io H => ⟨v, vs, rfl, q1 io H, q2 io H⟩⟩
end
/-- the module's constants, its tables -/
structure Cs where
  cons : List (Str × D) := []
  tabs : List (Str × List (Str × D)) := []
  free : List Str := []
  more : List He.Fa := []
def Cs.ok (c : Cs) (K : PySem.W.Frag) : Bool := (c.cons.all fun p => match PySem.W.nsIn K mainGlobals p.1 with
    | some (some u) => chkD K p.2 u
    | _ => false) && ((c.tabs.all fun p => p.2.all fun q => match PySem.W.nsIn K (He.ga K p.1) q.1 with
    | some (some u) => chkD K q.2 u
    | _ => false) && (c.free.all fun x => (He.Fa.free x).ok K))
def Cs.fa (c : Cs) (fn : List He.DefD) : List He.Fa := ((fn.map fun d => .glo d.at_.1) ++ c.tabs.map fun p => .glo p.1) ++ c.more
def Cs.ts (c : Cs) : List He.Tab := c.tabs.map fun p => (fun K => He.ga K p.1, p.2.map (·.1))
abbrev AlM : Type := Bool × He.AlT
def obsM (n : Nat) (c : Cs) (fn : List He.DefD) (g : Addr → Option Obj) : AlM := (c.ok (He.frG g (He.asD g n)), He.obsTG n (c.fa fn) fn c.ts g)
/-- what the head tells -/
def SaysM (c : Cs) (fn : List He.DefD) (w : World) (K : PySem.W.Frag) : Prop := c.ok K = true ∧ He.SaysT (c.fa fn) fn c.ts w K
def hookM (n : Nat) (c : Cs) (fn : List He.DefD) : PySem.W.Hook where
  α := AlM
  obs := fun s => obsM n c fn s.heap.get?
  val := fun w => (true, He.valT fn c.ts w)
  says := fun w h => ∃ K : PySem.W.Frag, K.In h ∧ SaysM c fn w K
  of := fun _ _ e => ⟨_, He.frG_in, congrArg (fun z : AlM => z.1) e, congrArg (fun z : AlM => z.2) e⟩
  keeps := fun _ _ _ ⟨K, hK, q⟩ k => ⟨K, PySem.W.Frag.In.keeps hK k, q⟩
theorem obsM_eq {n : Nat} {c : Cs} {fn : List He.DefD} {g : Addr → Option Obj} {s : Shared} (h : ∀ a, g a = s.heap.get? a) : obsM n c fn g = (hookM n c fn).obs s := by
  have e : g = s.heap.get? := funext h
  rw [e]
  rfl
/-- what the bodies lean on -/
structure Amb (w : World) (K : PySem.W.Frag) (mg : Str → Option Value) (c : Cs) (fn : List He.DefD) : Prop where
  def_ : ∀ (i : Nat) {d : He.DefD}, fn[i]? = some d → ∃ fd, FunD K d.name d.qual d.params d.body d.scope (d.dvs K) (d.kws K) (He.fAd K d.at_) fd
  glo : ∀ (i : Nat) {d : He.DefD}, fn[i]? = some d → d.at_.2 = none → mg d.at_.1 = some (.ref (He.fAd K d.at_))
  con : ∀ (i : Nat) {x : Str} {d : D}, c.cons[i]? = some (x, d) → ∃ u, mg x = some u ∧ KD K d u
  tab : ∀ (i : Nat) {x : Str} {kvs : List (Str × D)}, c.tabs[i]? = some (x, kvs) → mg x = some (.ref (He.ga K x)) ∧ (∃ es n, KDict K w (He.ga K x) es n) ∧ ∀ q ∈ kvs, ∃ u, PySem.W.nsIn K (He.ga K x) q.1 = some (some u) ∧ KD K q.2 u
  free : ∀ (i : Nat) {x : Str}, c.free[i]? = some x → mg x = none
  more : ∀ (i : Nat) {f : He.Fa}, c.more[i]? = some f → f.ok K = true
  mglo : ∀ (i : Nat) {x : Str}, c.more[i]? = some (.glo x) → mg x = some (.ref (He.ga K x))
theorem amb_of {w : World} {K : PySem.W.Frag} {h : Heap} {mg : Str → Option Value} {c : Cs} {fn : List He.DefD} (X : K.In h) (G : h.Ns mainGlobals mg) (s : SaysM c fn w K) : Amb w K mg c fn := by
  obtain ⟨ok, sT⟩ := s
  obtain ⟨o1, o2⟩ := He.ba ok
  obtain ⟨o2, o3⟩ := He.ba o2
  refine ⟨fun i d h => sT.d.def_ i h, fun i d h hm => ?_, fun i x d h => ?_, fun i x kvs h => ⟨?_, ?_, fun q hq => ?_⟩, fun i x h => ?_, fun i f h => ?_, fun i x h => ?_⟩
  · have hf : (c.fa fn)[i]? = some (.glo d.at_.1) := by
      unfold Cs.fa
      have hl : i < (fn.map fun d => He.Fa.glo d.at_.1).length := by
        rw [List.length_map]
        exact (List.getElem?_eq_some_iff.mp h).1
      rw [List.getElem?_append_left (by rw [List.length_append]; omega), List.getElem?_append_left hl, List.getElem?_map, h]
      rfl
    have q := He.glo_ok X G (sT.d.fact i hf)
    rw [q]
    unfold He.fAd
    rw [hm]
  · have q := List.all_eq_true.mp o1 _ (List.mem_of_getElem? h)
    have q : (match PySem.W.nsIn K mainGlobals x with
      | some (some u) => chkD K d u
      | _ => false) = true := q
    split at q
    · rename_i u e
      exact ⟨u, PySem.W.mg_of X G e, chkD_ok q⟩
    · cases q
  · have hf : (c.fa fn)[fn.length + i]? = some (.glo x) := by
      unfold Cs.fa
      have hi := (List.getElem?_eq_some_iff.mp h).1
      rw [List.getElem?_append_left (by rw [List.length_append, List.length_map, List.length_map]; omega), List.getElem?_append_right (by rw [List.length_map]; omega), List.length_map, Nat.add_sub_cancel_left, List.getElem?_map, h]
      rfl
    exact He.glo_ok X G (sT.d.fact (fn.length + i) hf)
  · have ht : c.ts[i]? = some (fun K => He.ga K x, kvs.map (·.1)) := by
      unfold Cs.ts
      rw [List.getElem?_map, h]
      rfl
    exact sT.tab i ht
  · have q1 := List.all_eq_true.mp (List.all_eq_true.mp o2 _ (List.mem_of_getElem? h)) q hq
    have q1 : (match PySem.W.nsIn K (He.ga K x) q.1 with
      | some (some u) => chkD K q.2 u
      | _ => false) = true := q1
    split at q1
    · rename_i u e
      exact ⟨u, e, chkD_ok q1⟩
    · cases q1
  · exact He.free_ok X G (List.all_eq_true.mp o3 _ (List.mem_of_getElem? h))
  · have hf : (c.fa fn)[fn.length + c.tabs.length + i]? = some f := by
      unfold Cs.fa
      rw [List.getElem?_append_right (by rw [List.length_append, List.length_map, List.length_map]; omega), List.length_append, List.length_map, List.length_map, Nat.add_sub_cancel_left, h]
    exact sT.d.fact _ hf
  · have hf : (c.fa fn)[fn.length + c.tabs.length + i]? = some (.glo x) := by
      unfold Cs.fa
      rw [List.getElem?_append_right (by rw [List.length_append, List.length_map, List.length_map]; omega), List.length_append, List.length_map, List.length_map, Nat.add_sub_cancel_left, h]
    exact He.glo_ok X G (sT.d.fact _ hf)
/-! ### the rules by these facts -/
/-- the i-th def keeps its mirror's promise -/
structure FG (P : Program) (w : World) (K : PySem.W.Frag) (mg : Str → Option Value) (base : Heap) (cl : Nat → Value) (k : Nat) (d : He.DefD) (ps : List Str) (fn : F) : Prop where
  ex : ∃ (f : Addr) (fd : FuncData), FunD K d.name d.qual d.params d.body d.scope [] (d.kws K) f fd ∧ (f = He.fAd K d.at_ ∧ (d.at_.2 = none → mg d.at_.1 = some (.ref f))) ∧ PySem.W.keepIn K (.ref f) = true ∧ Binds K fd ps [] ∧ FnG P w K mg base (2 * k) f fd ps (spF K cl fn)
theorem FG.mono {P : Program} {w : World} {K : PySem.W.Frag} {mg : Str → Option Value} {base : Heap} {cl : Nat → Value} {j k : Nat} {x : He.DefD} {ps : List Str} {fn : F} (G : FG P w K mg base cl j x ps fn) (h : j ≤ k) : FG P w K mg base cl k x ps fn := by
  obtain ⟨f, fd, h0, h1, h2, h3, h4⟩ := G.ex
  exact ⟨f, fd, h0, h1, h2, h3, h4.mono (by omega)⟩
theorem fg_def {P : Program} {w : World} {K : PySem.W.Frag} {mg : Str → Option Value} {base : Heap} {cl : Nat → Value} {c : Cs} {fn : List He.DefD} (a : Amb w K mg c fn) (i : Nat) {d : He.DefD} {ps N : List Str} {k : Nat} {m : MS} (h : fn[i]? = some d) (hd : d.dfl = []) (Sc : FnScope N ps d.scope)
    (hb : ∀ (kV doc pm : Value) (an : Option Addr) (cdv ct : Value) (us : List Value), us.length = ps.length → bindArgs (PySem.W.fnOf d.name d.qual d.params d.body d.scope .none kV doc pm an cdv ct) ⟨us, []⟩ = pure (ps.zip us))
    (hbody : ∀ (f : Addr) (cdv : Value) (A : Around) (outer : List Env) (s : Shared) (H : Hp) (E : XK), Room (2 * k + 1) (A.deeper (envOfC d.qual d.scope s.heap.objs.size f cdv)) → (A.deeper (envOfC d.qual d.scope s.heap.objs.size f cdv)).guards = some [] →
      QSs (cxOf (L2.CX P w) P w K mg base N d.qual d.scope f cdv A outer s H E) ⟨cl, fun c d _ H => E c d H⟩ d.body m) : FG P w K mg base cl (k + 1) d ps (mDef ps.length N.length m) := by
  obtain ⟨fd, Fu⟩ := a.def_ i h
  have e : d.dvs K = [] := by unfold He.DefD.dvs; rw [hd]; rfl
  rw [e] at Fu
  exact ⟨_, fd, Fu, ⟨rfl, fun hm => a.glo i h hm⟩, Fu.kp, Fu.bindsN hb, fg_of Fu Sc fun cdv A outer s H E r g => hbody _ cdv A outer s H E r g⟩
theorem fg_bad {P : Program} {w : World} {K : PySem.W.Frag} {mg : Str → Option Value} {base : Heap} {cl : Nat → Value} {c : Cs} {fn : List He.DefD} (a : Amb w K mg c fn) (i : Nat) {d : He.DefD} {ps : List Str} (h : fn[i]? = some d) (hd : d.dfl = [])
    (hb : ∀ (kV doc pm : Value) (an : Option Addr) (cdv ct : Value) (us : List Value), us.length = ps.length → bindArgs (PySem.W.fnOf d.name d.qual d.params d.body d.scope .none kV doc pm an cdv ct) ⟨us, []⟩ = pure (ps.zip us)) : FG P w K mg base cl 0 d ps fun _ _ => .bad := by
  obtain ⟨fd, Fu⟩ := a.def_ i h
  have e : d.dvs K = [] := by unfold He.DefD.dvs; rw [hd]; rfl
  rw [e] at Fu
  exact ⟨_, fd, Fu, ⟨rfl, fun hm => a.glo i h hm⟩, Fu.kp, Fu.bindsN hb, .bad⟩
theorem fd_inj {K : PySem.W.Frag} {x qual x' qual' : Str} {params params' : Arguments} {body body' : List Stmt} {scope scope' : Scope} {dvs dvs' : List V} {kws kws' : List (Str × V)} {f : Addr} {fd fd' : FuncData} (a : FunD K x qual params body scope dvs kws f fd) (b : FunD K x' qual' params' body' scope' dvs' kws' f fd') : fd = fd' := by
  obtain ⟨_, _, _, _, _, _, _, _, _, _, e, l, _, _, _⟩ := a.ex
  obtain ⟨_, _, _, _, _, _, _, _, _, _, e', l', _, _, _⟩ := b.ex
  rw [l] at l'
  injection l' with l'
  injection l' with _ _ l' _
  injection l' with l'
theorem room_q {k : Nat} {A : Around} (r : Room k A) : A.units + eqK ≤ cLine := by have := r.un; unfold eqK; omega
theorem room_i {k : Nat} {A : Around} (r : Room k A) : A.units + 1 + eqK ≤ cLine := by have := r.un; unfold eqK; omega
theorem room_p {k : Nat} {A : Around} (r : Room k A) : A.units + 152 ≤ cLine := by have := r.un; omega
theorem room_1 {k : Nat} {A : Around} (r : Room k A) : A.units + 1 < cLine := by have := r.un; omega
/-! ### a, b = x, y -/
def sPar (i j : Nat) (m : MA) : MS := fun ρ S => (m ρ S).st ρ fun ds S1 => match ds with
  | [d, e] => .nx ((ρ.set i (some d)).set j (some e)) S1
  | _ => .bad
def sPar3 (i j l : Nat) (m : MA) : MS := fun ρ S => (m ρ S).st ρ fun ds S1 => match ds with
  | [d, e, f] => .nx (((ρ.set i (some d)).set j (some e)).set l (some f)) S1
  | _ => .bad
section
variable {X : Cx} {C : Cn} {a b d : Expr} {ma : MA} {px py pz pt pos : Pos} {kt k2 : Nat} {pt2 : Pos} {x y z : Str}
theorem qs_par (i j : Nat) (hc : X.calm = true) (hN : X.N.Nodup) (ha : QA X C [a, b] ma) (hi : X.N[i]? = some x := by rfl) (hj : X.N[j]? = some y := by rfl) (hij : i ≠ j := by decide) (hx : X.env.scope.names.lookup x = some .local := by rfl) (hy : X.env.scope.names.lookup y = some .local := by rfl)
    (hw : swappedStores [.Tuple [.Name x px, .Name y py] kt pt] (.Tuple [a, b] k2 pt2) X.env = pure (some [x, y]) := by rfl) (hs : swapsWithSole [.Tuple [.Name x px, .Name y py] kt pt] (.Tuple [a, b] k2 pt2) pos.line X.env = pure false := by rfl) :
    QS X C (.Assign [.Tuple [.Name x px, .Name y py] kt pt] (.Tuple [a, b] k2 pt2) pos) (sPar i j ma) := by
  refine PS_imp (ps_par hc hN hi hj hij hx hy ha hw hs) ?_
  rintro E σ H ⟨io, ρ, S, R, re, h⟩
  refine ⟨io, ρ, S, R, re, st_step (rel := RDs X.K) re h fun ds S1 io1 H1 vs p m R1 re1 q h1 => ?_⟩
  split at h1
  · obtain ⟨v, w, rfl, q1, q2⟩ := rds2 q
    exact ⟨v, w, rfl, h1.next R1 ((re1.set i q1).set j q2)⟩
  · exact h1.elim
theorem qs_par3 (i j l : Nat) (hc : X.calm = true) (hN : X.N.Nodup) (ha : QA X C [a, b, d] ma) (hi : X.N[i]? = some x := by rfl) (hj : X.N[j]? = some y := by rfl) (hl : X.N[l]? = some z := by rfl) (hij : i ≠ j := by decide) (hil : i ≠ l := by decide) (hjl : j ≠ l := by decide)
    (hx : X.env.scope.names.lookup x = some .local := by rfl) (hy : X.env.scope.names.lookup y = some .local := by rfl) (hz : X.env.scope.names.lookup z = some .local := by rfl)
    (hw : swappedStores [.Tuple [.Name x px, .Name y py, .Name z pz] kt pt] (.Tuple [a, b, d] k2 pt2) X.env = pure (some [x, y, z]) := by rfl) (hs : swapsWithSole [.Tuple [.Name x px, .Name y py, .Name z pz] kt pt] (.Tuple [a, b, d] k2 pt2) pos.line X.env = pure false := by rfl) :
    QS X C (.Assign [.Tuple [.Name x px, .Name y py, .Name z pz] kt pt] (.Tuple [a, b, d] k2 pt2) pos) (sPar3 i j l ma) := by
  refine PS_imp (ps_par3 hc hN hi hj hl hij hil hjl hx hy hz ha hw hs) ?_
  rintro E σ H ⟨io, ρ, S, R, re, h⟩
  refine ⟨io, ρ, S, R, re, st_step (rel := RDs X.K) re h fun ds S1 io1 H1 vs p m R1 re1 q h1 => ?_⟩
  split at h1
  · obtain ⟨u, r, rfl, q1, q2⟩ := q
    obtain ⟨v, w, rfl, q3, q4⟩ := rds2 q2
    exact ⟨u, v, w, rfl, h1.next R1 (((re1.set i q1).set j q3).set l q4)⟩
  · exact h1.elim
end
/-- a table: text keys -/
def tabD (kvs : List (Str × D)) (x : Str) : Option D := (kvs.find? fun q => decide (q.1 = x)).map (·.2)
def mTab (kvs : List (Str × D)) (a : M) : M := fun ρ S => (a ρ S).bind fun d S => match d with
  | .str x => match tabD kvs x with
    | some e => .ok e S
    | none => .bad
  | _ => .bad
/-- nothing is let out of a comprehension -/
theorem takes_no (X : Cx) : Takes X fun _ _ _ _ => False := fun u s' ⟨_, _, _, _, _, _, _, _, _, _, _, _, _, _, _, _, z⟩ => z.elim
def fNeg : D → Sto → Res D := fun x S => match x with
  | .int i => .ok (.int (-i)) S
  | _ => .bad
section
variable {X : Cx} {C : Cn} {c : Cs} {fn : List He.DefD} {e : Expr} {es : List Expr} {m : M} {ma : MA} {p pos : Pos} {k : Nat} {x : Str} {dd : He.DefD} {ps : List Str} {fnc : F}
theorem us_neg : UnR X (unaryOp .USub) (rd1 X.K fNeg) := by
  intro pins s σ H x v Q I rx q
  obtain ⟨cl, W, io, S, d, R, q1, z⟩ := q
  unfold fNeg at z
  split at z
  · exact un_neg pins s σ H x v Q I rx ⟨_, q1, z.fin R rfl⟩
  · exact z.elim
theorem qe_con (a : Amb X.w X.K X.mg c fn) (i : Nat) {d : D} (h : c.cons[i]? = some (x, d)) (hg : Gl X x := by rfl) (hd : (x == ("__debug__" : Str)) = false := by decide) : QE X C (.Name x pos) (mC d) := by
  obtain ⟨u, h1, h2⟩ := a.con i h
  exact qe_glob hg h1 h2 hd
theorem qe_tab (a : Amb X.w X.K X.mg c fn) (i : Nat) {kvs : List (Str × D)} (h : c.tabs[i]? = some (x, kvs)) (he : QE X C e m) (hs : PlainIx e := by exact fun _ _ => rfl) (hg : Gl X x := by rfl) (hd : (x == ("__debug__" : Str)) = false := by decide) : QE X C (.Subscript (.Name x p) e pos) (mTab kvs m) := by
  obtain ⟨h1, ⟨es, n, kd⟩, h3⟩ := a.tab i h
  refine PE_imp (pe_ix ix_kdict (pe_glob (v := .ref (He.ga X.K x)) hg h1 rfl hd) he hs) ?_
  rintro σ H Q ⟨io, ρ, S, R, re, h⟩
  refine rdE_step R re h fun d S1 io1 H1 v p1 m1 R1 re1 q1 h1 => ?_
  split at h1
  · rename_i z
    split at h1
    · rename_i d' hz
      unfold tabD at hz
      obtain ⟨q, hq, rfl⟩ := Option.map_eq_some_iff.mp hz
      have hk := List.find?_some (p := fun q : Str × D => decide (q.1 = z)) hq
      have hk : q.1 = z := of_decide_eq_true hk
      obtain ⟨u, e1, v', r1, r2⟩ := h3 q (List.mem_of_find?_eq_some hq)
      rw [hk] at e1
      exact ⟨_, z, v', rfl, q1, ⟨es, n, u, kd.at_, kd.lit, e1, r1⟩, h1.fin R1 (r2 _ _)⟩
    · exact h1.elim
  · exact h1.elim
theorem qe_fn (G : FG X.prog X.w X.K X.mg X.base C.cl k dd ps fnc) (hr : Room (2 * k) X.A) (hgd : X.A.guards = some []) (tk : Takes X C.W) (ha : QA X C (e :: es) ma)
    (hx : dd.at_ = (x, none) := by rfl) (hg : Gl X x := by rfl) (hdb : (x == ("__debug__" : Str)) = false := by decide) (he : starEach (e :: es) X.env = (false, eval e X.env) :: starEach es X.env := by rfl) (hpl : (backTo pos (starEach es X.env)).any (·.1) = false := by rfl) :
    QE X C (.Call (.Name x p) (e :: es) [] pos) (mCB fnc ma) := by
  obtain ⟨f, fd, h0, ⟨_, h1⟩, h2, h3, h4⟩ := G.ex
  have h1 : X.mg x = some (.ref f) := by
    have := h1 (by rw [hx])
    rw [hx] at this
    exact this
  exact qe_call h4 hr hgd h1 h2 h3 tk ha hg hdb he hpl
theorem qe_fn0 (G : FG X.prog X.w X.K X.mg X.base C.cl k dd ps fnc) (hr : Room (2 * k) X.A) (hgd : X.A.guards = some []) (tk : Takes X C.W) (hx : dd.at_ = (x, none) := by rfl) (hg : Gl X x := by rfl) (hdb : (x == ("__debug__" : Str)) = false := by decide) : QE X C (.Call (.Name x p) [] [] pos) (mCB fnc aNil) := by
  obtain ⟨f, fd, h0, ⟨_, h1⟩, h2, h3, h4⟩ := G.ex
  have h1 : X.mg x = some (.ref f) := by
    have := h1 (by rw [hx])
    rw [hx] at this
    exact this
  exact qe_call0 h4 hr hgd h1 h2 h3 tk hg hdb
theorem qe_fnk0 {ks : List Str} {is : List Nat} {kws : List Keyword} {mk : MA} (G : FG X.prog X.w X.K X.mg X.base C.cl k dd ps fnc) (hr : Room (2 * k) X.A) (hgd : X.A.guards = some []) (tk : Takes X C.W) (hkw : QK X C kws mk)
    (hb : ∀ (kV doc pm : Value) (an : Option Addr) (cdv ct : Value) (us ws : List Value), us.length = 0 → ws.length = ks.length → bindArgs (PySem.W.fnOf dd.name dd.qual dd.params dd.body dd.scope .none kV doc pm an cdv ct) ⟨us, ks.zip ws⟩ = pure (ps.zip (gPm is us ws)))
    (hx : dd.at_ = (x, none) := by rfl) (hg : Gl X x := by rfl) (hall : (backToKw pos (keywordEach kws X.env)).all (·.1.isSome) = true := by rfl) (hks : (backToKw pos (keywordEach kws X.env)).filterMap (·.1) = ks := by rfl) (hdb : (x == ("__debug__" : Str)) = false := by decide)
    (hpl : ((backTo pos (starEach [] X.env)).any (·.1) || (backToKw pos (keywordEach kws X.env)).any (·.1.isNone)) = false := by rfl) : QE X C (.Call (.Name x p) [] kws pos) (mKw fnc is 0 ks.length aNil mk) := by
  obtain ⟨f, fd, h0, ⟨_, h1⟩, h2, h3, h4⟩ := G.ex
  have h1 : X.mg x = some (.ref f) := by
    have := h1 (by rw [hx])
    rw [hx] at this
    exact this
  exact qe_kw0 h4 hr hgd h1 h2 (bindKw_of h0 hb) tk hkw hg hall hks hdb hpl
theorem qe_fnk {ks : List Str} {is : List Nat} {n : Nat} {kws : List Keyword} {mk : MA} (G : FG X.prog X.w X.K X.mg X.base C.cl k dd ps fnc) (hr : Room (2 * k) X.A) (hgd : X.A.guards = some []) (tk : Takes X C.W) (ha : QA X C (e :: es) ma) (hkw : QK X C kws mk)
    (hb : ∀ (kV doc pm : Value) (an : Option Addr) (cdv ct : Value) (us ws : List Value), us.length = n → ws.length = ks.length → bindArgs (PySem.W.fnOf dd.name dd.qual dd.params dd.body dd.scope .none kV doc pm an cdv ct) ⟨us, ks.zip ws⟩ = pure (ps.zip (gPm is us ws)))
    (hx : dd.at_ = (x, none) := by rfl) (hg : Gl X x := by rfl) (hall : (backToKw pos (keywordEach kws X.env)).all (·.1.isSome) = true := by rfl) (hks : (backToKw pos (keywordEach kws X.env)).filterMap (·.1) = ks := by rfl) (hdb : (x == ("__debug__" : Str)) = false := by decide)
    (he : starEach (e :: es) X.env = (false, eval e X.env) :: starEach es X.env := by rfl) (hpl : ((backTo pos (starEach (e :: es) X.env)).any (·.1) || (backToKw pos (keywordEach kws X.env)).any (·.1.isNone)) = false := by rfl) : QE X C (.Call (.Name x p) (e :: es) kws pos) (mKw fnc is n ks.length ma mk) := by
  obtain ⟨f, fd, h0, ⟨_, h1⟩, h2, h3, h4⟩ := G.ex
  have h1 : X.mg x = some (.ref f) := by
    have := h1 (by rw [hx])
    rw [hx] at this
    exact this
  exact qe_kw h4 hr hgd h1 h2 (bindKw_of h0 hb) tk ha hkw hg hall hks hdb he hpl
end
end Mn

set_option Elab.async false
set_option linter.all false
set_option maxRecDepth 100000
set_option maxHeartbeats 4000000
/-! Mn: instances of own classes: attributes, methods, making; what is never reached. -/
namespace Mn
open PySem PySem.Spec PyProof.Rows L2
/-- an instance of c: its place, its attributes -/
def insD (S : Sto) (c : Str) : D → Option (Nat × List (Str × D))
  | .ref n => match S[n]? with
    | some (.ins c' fs) => if c' = c then some (n, fs) else none
    | _ => none
  | _ => none
theorem insD_eq {S : Sto} {c : Str} {d : D} {n : Nat} {fs : List (Str × D)} (h : insD S c d = some (n, fs)) : d = .ref n ∧ S[n]? = some (.ins c fs) := by
  unfold insD at h
  split at h
  · split at h
    · rename_i n' c' fs' e
      split at h
      · rename_i hc
        injection h with h
        injection h with h1 h2
        subst h1 h2 hc
        exact ⟨rfl, e⟩
      · cases h
    · cases h
  · cases h
/-- e.f of an instance of c -/
def mAtt (c f : Str) (m : M) : M := fun ρ S => (m ρ S).bind fun d S1 => match insD S1 c d with
  | some (_, fs) => match fs.lookup f with
    | some e => .ok e S1
    | none => .bad
  | none => .bad
/-- o.f = v -/
def sAtt (c f : Str) (mo mv : M) : MS := fun ρ S => (mv ρ S).st ρ fun y S1 => (mo ρ S1).st ρ fun x S2 => match insD S2 c x with
  | some (n, fs) => if fs.length < 1000 then .nx ρ (S2.set n (.ins c (putFD f y fs))) else .bad
  | none => .bad
/-- o.f += v, ints -/
def sAttAdd (c f : Str) (mo mv : M) : MS := fun ρ S => (mo ρ S).st ρ fun x S1 => match insD S1 c x with
  | some (n, fs) => match fs.lookup f with
    | some (.int i) => (mv ρ S1).st ρ fun y S2 => match y with
      | .int j => match S2[n]? with
        | some (.ins c' fs') => if c' = c ∧ fs'.length < 1000 then .nx ρ (S2.set n (.ins c (putFD f (.int (i + j)) fs'))) else .bad
        | _ => .bad
      | _ => .bad
    | _ => .bad
  | none => .bad
/-- o.m(..) -/
def mMeth (c m : Str) (fn : F) (mo : M) (ma : MA) : M := fun ρ S => (mo ρ S).bind fun x S1 => match insD S1 c x with
  | some (_, fs) => if fs.lookup m = none then (ma ρ S1).bind fun ds S2 => fn (x :: ds) S2 else .bad
  | none => .bad
/-- c(..) -/
def mMake (c : Str) (fn : F) (ma : MA) : M := fun ρ S => (ma ρ S).bind fun ds S1 => (fn (.ref S1.length :: ds) (S1 ++ [.ins c []])).bind fun d S2 => match d with
  | .non => .ok (.ref S1.length) S2
  | _ => .bad
/-- never reached -/
def sBad : MS := fun _ _ => .bad
section
variable {X : Cx} {C : Cn} {o e v : Expr} {es : List Expr} {mo mv m : M} {ma : MA} {c f mn : Str} {pos pos' tpos apos p : Pos} {k : Nat} {dd : He.DefD} {ps : List Str} {fnc : F} {x : Str}
theorem qs_bad {st : Stmt} : QS X C st sBad := ⟨fun pins s σ H E I h => by
  obtain ⟨io, ρ, S, R, re, h⟩ := h
  exact h.elim⟩
theorem ins_of {K : PySem.W.Frag} {io : List Addr} {S : Sto} {H : Hp} {d : D} {u : V} {n : Nat} {fs : List (Str × D)} (R : Rep K io S H) (q : RD K io H d u) (h : insD S c d = some (n, fs)) : ∃ a dx ws, u = .ref a ∧ io[n]? = some a ∧ H a = some (.ins (He.ga K c) dx ws) ∧ RFs K io H fs ws := by
  obtain ⟨rfl, hs⟩ := insD_eq h
  obtain ⟨a, rfl, ha⟩ := q
  obtain ⟨dx, ws, h1, h2⟩ := R.ob _ _ _ hs ha
  exact ⟨a, dx, ws, rfl, ha, h1, h2⟩
theorem qe_att (cl : Cls X.K (He.ga X.K c)) (na : NoAttr X.K (He.ga X.K c) f) (he : QE X C e m) (hb : attributeBase e f X.env (eval e X.env) = eval e X.env := by rfl) : QE X C (.Attribute e f pos) (mAtt c f m) := by
  refine PE_imp (pe_fld he hb) ?_
  rintro σ H Q ⟨io, ρ, S, R, re, h⟩
  refine rdE_step R re h fun d S1 io1 H1 u p1 m1 R1 re1 q1 h1 => ?_
  split at h1
  · rename_i n fs hi
    split at h1
    · rename_i d' hl
      obtain ⟨a, dx, ws, rfl, ha, hH, rf⟩ := ins_of R1 q1 hi
      obtain ⟨w, hw, rw'⟩ := (rf.look (f := f)).1 _ hl
      exact ⟨a, _, dx, ws, w, rfl, hH, cl, na, hw, h1.fin R1 rw'⟩
    · exact h1.elim
  · exact h1.elim
theorem qs_att (cl : Cls X.K (He.ga X.K c)) (na : NoAttr X.K (He.ga X.K c) f) (ho : QE X C o mo) (hv : QE X C v mv) (hs : swapsWith v (some (.Attribute o f pos')) pos.line X.env = pure false := by rfl) : QS X C (.Assign [.Attribute o f pos'] v pos) (sAtt c f mo mv) := by
  refine PS_imp (ps_fld ho hv hs) ?_
  rintro E σ H ⟨io, ρ, S, R, re, h⟩
  refine rdE_st R re h fun y S1 io1 H1 u p1 m1 R1 re1 q1 h1 => ?_
  refine rdE_st R1 re1 h1 fun x S2 io2 H2 w p2 m2 R2 re2 q2 h2 => ?_
  split at h2
  · rename_i n fs hi
    split at h2
    · rename_i hz
      obtain ⟨a, dx, ws, rfl, ha, hH, rf⟩ := ins_of R2 q2 hi
      have hs := (insD_eq hi).2
      refine ⟨a, _, dx, ws, rfl, hH, cl, na, by rw [rf.length]; exact hz, ?_⟩
      obtain ⟨mo', R'⟩ := R2.put (o := .ins (He.ga X.K c) dx (putF f u ws)) (ob := .ins c (putFD f y fs)) hs ha fun mo' => ⟨dx, _, upd_same, (RFs.put (q1.mono p2 m2) rf).mono (List.prefix_rfl) mo'⟩
      exact h2 io2 _ σ (List.prefix_rfl) mo' R' (re2.mono (List.prefix_rfl) mo')
    · exact h2.elim
  · exact h2.elim
theorem qs_attAdd (cl : Cls X.K (He.ga X.K c)) (na : NoAttr X.K (He.ga X.K c) f) (ho : QE X C o mo) (hv : QE X C v mv) : QS X C (.AugAssign (.Attribute o f tpos) .Add v pos) (sAttAdd c f mo mv) := by
  refine PS_imp (ps_fldaug ho hv in_add) ?_
  rintro E σ H ⟨io, ρ, S, R, re, h⟩
  refine rdE_st R re h fun x S1 io1 H1 u p1 m1 R1 re1 q1 h1 => ?_
  split at h1
  · rename_i n fs hi
    split at h1
    · rename_i i hl
      obtain ⟨a, dx, ws, rfl, ha, hH, rf⟩ := ins_of R1 q1 hi
      obtain ⟨w, hw, rw'⟩ := (rf.look (f := f)).1 _ hl
      have rw' : w = _ := rw'
      subst rw'
      refine ⟨a, _, dx, ws, _, rfl, hH, cl, na, hw, ?_⟩
      refine rdE_st R1 re1 h1 fun y S2 io2 H2 w2 p2 m2 R2 re2 q2 h2 => ?_
      split at h2
      · rename_i j
        split at h2
        · rename_i c' fs' hs
          split at h2
          · rename_i hz
            obtain ⟨rfl, hz⟩ := hz
            have q2 : w2 = _ := q2
            subst q2
            have ha2 := pre_get p2 ha
            obtain ⟨dx', ws', h1', rf'⟩ := R2.ob _ _ _ hs ha2
            refine ⟨i, j, rfl, rfl, dx', ws', h1', by rw [rf'.length]; exact hz, ?_⟩
            obtain ⟨mo', R'⟩ := R2.put (o := .ins (He.ga X.K c') dx' (putF f (.int (i + j)) ws')) (ob := .ins c' (putFD f (.int (i + j)) fs')) hs ha2 fun mo' => ⟨dx', _, upd_same, (RFs.put (d := .int (i + j)) rfl rf').mono (List.prefix_rfl) mo'⟩
            exact h2 io2 _ σ (List.prefix_rfl) mo' R' (re2.mono (List.prefix_rfl) mo')
          · exact h2.elim
        · exact h2.elim
      · exact h2.elim
    · exact h1.elim
  · exact h1.elim
theorem wp_run {pins : List (Addr × Obj)} {σ : L2.St} {H : Hp} {s : Shared} {Q : VK} {g : Addr} {fd : FuncData} {us : List Value} {vs : List V} (G : FnG X.prog X.w X.K X.mg X.base k g fd ps (spF X.K C.cl fnc)) (hr : Room k X.A) (hg : X.A.guards = some []) (tk : Takes X C.W) (hb : Binds X.K fd ps []) (I : Inv X pins σ H s)
    (r : Vals vs us) (h : spF X.K C.cl fnc vs H Q (WE C.W σ)) : wpAny (model X.prog X.w) X.A (call (.ref g) us) (EP X pins σ Q) X.xe s := by
  have hl : us.length = ps.length := by rw [← r.length]; exact G.len _ _ _ _ h
  have b := hb s us I.kIn (by rw [List.append_nil]; exact hl)
  rw [List.append_nil] at b
  refine wpAny_call (codeAny_mono (run_g G hr hg tk I b r h) fun z s' hz => ?_)
  cases z with
  | error e => exact hz
  | ok fl => cases fl <;> exact hz
theorem qe_meth {pl : Sem Bool} (cl : Cls X.K (He.ga X.K c)) (hm : Meth X.K (He.ga X.K c) mn (He.ma X.K (He.ga X.K c) mn)) (G : FG X.prog X.w X.K X.mg X.base C.cl k dd ps fnc) (hr : Room (2 * k) X.A) (hgd : X.A.guards = some []) (tk : Takes X C.W) (ho : QE X C o mo) (ha : QA X C (e :: es) ma)
    (hx : dd.at_ = (c, some mn) := by rfl) (hst : starEach (e :: es) X.env = (false, eval e X.env) :: starEach es X.env := by rfl) (hpl : (backTo pos (starEach es X.env)).any (·.1) = false := by rfl)
    (ht : eval (.Call (.Attribute o mn apos) (e :: es) [] pos) X.env = (do
      let ov ← eval o X.env
      standAt apos.atName
      let (f, first) ← holding [ov] (getMethod ov mn pl)
      callWith pos f first (backTo pos (starEach (e :: es) X.env)) (backToKw pos (keywordEach [] X.env))) := by rfl) :
    QE X C (.Call (.Attribute o mn apos) (e :: es) [] pos) (mMeth c mn fnc mo ma) := by
  obtain ⟨g, fd, h0, ⟨hf, _⟩, h2, h3, h4⟩ := G.ex
  have hf : g = He.ma X.K (He.ga X.K c) mn := by rw [hf, hx]; rfl
  subst hf
  refine ⟨fun pins s σ H Q I h => ?_⟩
  obtain ⟨io, ρ, S, R, re, h⟩ := h
  have r1 : rdE X.K C mo σ H fun x H1 => ∃ a dx fs, x = .ref a ∧ H1 a = some (.ins (He.ga X.K c) dx fs) ∧ fs.lookup mn = none ∧ rdA X.K C ma σ H1 fun vs H2 => spF X.K C.cl fnc (x :: vs) H2 Q (WE C.W σ) := by
    refine rdE_step R re h fun d S1 io1 H1 u p1 m1 R1 re1 q1 h1 => ?_
    split at h1
    · rename_i n fs hi
      split at h1
      · rename_i hl
        obtain ⟨a, dx, ws, rfl, ha', hH, rf⟩ := ins_of R1 q1 hi
        refine ⟨a, dx, ws, rfl, hH, (rf.look (f := mn)).2 hl, ?_⟩
        exact rdA_step R1 re1 h1 fun ds S2 io2 H2 vs p2 m2 R2 re2 q2 h2 => ⟨io2, S2, d :: ds, R2, RDs.cons (q1.mono p2 m2) q2, h2⟩
      · exact h1.elim
    · exact h1.elim
  refine PySem.W.methodCall_KW (pl := pl) (thn (ho.run pins s σ H _ I r1) fun u s1 ⟨x, H1, I1, rx, a, dx, fs, ex, ea, l, q⟩ => ?_) ht
  subst ex
  obtain rfl : u = Value.ref a := rx
  refine getmeth_ok I1 ea cl hm l ?_
  refine PySem.W.callWith_K (first := [.ref a]) (h₀ := X.base) I.ok.mod.kin hm.kp (thn (ha.run pos pins s1 σ H1 _ I1 q) fun us s2 ⟨vs, H2, I2, r, q2⟩ => ⟨I2.kIn, ?_⟩) hst hpl
  exact wp_run (us := .ref a :: us) (vs := .ref a :: vs) h4 hr hgd tk h3 I2 (.cons rfl r) q2
theorem qe_meth0 {pl : Sem Bool} (cl : Cls X.K (He.ga X.K c)) (hm : Meth X.K (He.ga X.K c) mn (He.ma X.K (He.ga X.K c) mn)) (G : FG X.prog X.w X.K X.mg X.base C.cl k dd ps fnc) (hr : Room (2 * k) X.A) (hgd : X.A.guards = some []) (tk : Takes X C.W) (ho : QE X C o mo)
    (hx : dd.at_ = (c, some mn) := by rfl)
    (ht : eval (.Call (.Attribute o mn apos) [] [] pos) X.env = (do
      let ov ← eval o X.env
      standAt apos.atName
      let (f, first) ← holding [ov] (getMethod ov mn pl)
      callWith pos f first (backTo pos (starEach [] X.env)) (backToKw pos (keywordEach [] X.env))) := by rfl) :
    QE X C (.Call (.Attribute o mn apos) [] [] pos) (mMeth c mn fnc mo aNil) := by
  obtain ⟨g, fd, h0, ⟨hf, _⟩, h2, h3, h4⟩ := G.ex
  have hf : g = He.ma X.K (He.ga X.K c) mn := by rw [hf, hx]; rfl
  subst hf
  refine ⟨fun pins s σ H Q I h => ?_⟩
  obtain ⟨io, ρ, S, R, re, h⟩ := h
  have r1 : rdE X.K C mo σ H fun x H1 => ∃ a dx fs, x = .ref a ∧ H1 a = some (.ins (He.ga X.K c) dx fs) ∧ fs.lookup mn = none ∧ spF X.K C.cl fnc [x] H1 Q (WE C.W σ) := by
    refine rdE_step R re h fun d S1 io1 H1 u p1 m1 R1 re1 q1 h1 => ?_
    split at h1
    · rename_i n fs hi
      split at h1
      · rename_i hl
        obtain ⟨a, dx, ws, rfl, ha', hH, rf⟩ := ins_of R1 q1 hi
        exact ⟨a, dx, ws, rfl, hH, (rf.look (f := mn)).2 hl, io1, S1, [d], R1, RDs.one q1, h1⟩
      · exact h1.elim
    · exact h1.elim
  refine PySem.W.methodCall_KW (pl := pl) (thn (ho.run pins s σ H _ I r1) fun u s1 ⟨x, H1, I1, rx, a, dx, fs, ex, ea, l, q⟩ => ?_) ht
  subst ex
  obtain rfl : u = Value.ref a := rx
  refine getmeth_ok I1 ea cl hm l ?_
  exact PySem.W.callWith_K0 (first := [.ref a]) I1.kIn hm.kp (wp_run (us := [.ref a]) (vs := [.ref a]) h4 hr hgd tk h3 I1 (.cons rfl .nil) q)
theorem Around.guards_make {A : Around} {C : Addr} {us : List Value} {kw : List (Str × Value)} (h : A.guards = some []) : (A.under (.builtin "type.__call__" ⟨.ref C :: us, kw⟩)).guards = some [] := by
  first | exact h | simpa [Around.under] using h
/-- a new instance of c: its mirror's store -/
theorem Rep.ins {K : PySem.W.Frag} {io : List Addr} {S : Sto} {H : Hp} (R : Rep K io S H) {xa dx : Addr} (h1 : H xa = none) (h2 : H dx = none) (hne : dx ≠ xa) (c : Str) : Mo H (upd (upd H dx (.own xa)) xa (.ins (He.ga K c) dx [])) ∧ Rep K (io ++ [xa]) (S ++ [.ins c []]) (upd (upd H dx (.own xa)) xa (.ins (He.ga K c) dx [])) := by
  have ha : upd H dx (.own xa) xa = none := by rw [upd_ne (Ne.symm hne)]; exact h1
  refine ⟨(Mo.new h2).trans (Mo.new ha), ?_⟩
  exact (R.tup (o := .own xa) h2).new ha ⟨dx, [], upd_same, rfl⟩
theorem qe_make (M : Mk X.K (He.ga X.K c) (He.ma X.K (He.ga X.K c) "__init__")) (hmg : X.mg c = some (.ref (He.ga X.K c))) (G : FG X.prog X.w X.K X.mg X.base C.cl k dd ps fnc) (hr : Room (2 * k + 1) X.A) (hgd : X.A.guards = some []) (tk : Takes X C.W) (ha : QA X C (e :: es) ma)
    (hx : dd.at_ = (c, some ("__init__" : Str)) := by rfl) (hg : Gl X c := by rfl) (hdb : (c == ("__debug__" : Str)) = false := by decide) (he : starEach (e :: es) X.env = (false, eval e X.env) :: starEach es X.env := by rfl) (hpl : (backTo pos (starEach es X.env)).any (·.1) = false := by rfl) :
    QE X C (.Call (.Name c p) (e :: es) [] pos) (mMake c fnc ma) := by
  obtain ⟨g, fd, h0, ⟨hf, _⟩, h2, h3, h4⟩ := G.ex
  have hf : g = He.ma X.K (He.ga X.K c) "__init__" := by rw [hf, hx]; rfl
  subst hf
  refine ⟨fun pins s σ H Q I h => ?_⟩
  obtain ⟨io, ρ, S, R, re, h⟩ := h
  have ra : rdA X.K C ma σ H fun vs H1 => ∀ xa dx, H1 xa = none → H1 dx = none → dx ≠ xa → spF X.K C.cl fnc (.ref xa :: vs) (upd (upd H1 dx (.own xa)) xa (.ins (He.ga X.K c) dx [])) (fun v H2 => v = .non ∧ Q (.ref xa) H2) (WE C.W σ) := by
    refine rdA_step R re h fun ds S1 io1 H1 vs p1 m1 R1 re1 q1 h1 => fun xa dx n1 n2 ne => ?_
    obtain ⟨mo', R'⟩ := R1.ins n1 n2 ne c
    have pp : io1 <+: io1 ++ [xa] := List.prefix_append _ _
    have hx' : (io1 ++ [xa])[S1.length]? = some xa := by rw [← R1.len]; exact List.getElem?_concat_length
    refine ⟨io1 ++ [xa], S1 ++ [.ins c []], .ref S1.length :: ds, R', RDs.cons ⟨xa, rfl, hx'⟩ (q1.mono pp mo'), ?_⟩
    refine Po.imp (relg := rD X.K) (Po.mono pp mo' h1) fun d S2 io2 H2 v _ p2 m2 R2 q2 h2 => ?_
    split at h2
    · have q2 : v = _ := q2
      exact ⟨q2, h2.fin R2 ⟨xa, rfl, pre_get p2 hx'⟩⟩
    · exact h2.elim
  refine wpAny_Call_Name_kw (ld_glob I hg hmg ?_ hdb)
  refine PySem.W.callWith_K (h₀ := X.base) I.ok.mod.kin M.kp (thn (ha.run pos pins s σ H _ I ra) fun us s1 ⟨vs, H1, I1, r, q⟩ => ⟨I1.kIn, ?_⟩) he hpl
  have hq := q (s1.heap.objs.size + 1) s1.heap.objs.size (I1.hok.fresh (Nat.le_succ _)) (I1.hok.fresh (Nat.le_refl _)) (Nat.ne_of_lt (Nat.lt_succ_self _))
  have I2 := Inv.made (C := He.ga X.K c) I1
  have r2 : Vals (V.ref (s1.heap.objs.size + 1) :: vs) (Value.ref (s1.heap.objs.size + 1) :: us) := .cons rfl r
  have hl : (Value.ref (s1.heap.objs.size + 1) :: us).length = ps.length := by
    rw [← r2.length]
    exact h4.len _ _ _ _ hq
  have b := h3 _ (Value.ref (s1.heap.objs.size + 1) :: us) I2.kIn (by rw [List.append_nil]; exact hl)
  rw [List.append_nil] at b
  refine wpAny_call (make_map I1.kIn M.makes M.init (beq_iff_eq.mp M.fn) (codeAny_mono (h4.run _ X.stack _ _ ⟨Value.ref (s1.heap.objs.size + 1) :: us, []⟩ (Value.ref (s1.heap.objs.size + 1) :: us) _ _ (WE C.W σ) (hr.make _ us []) (Around.guards_make hgd) (I2.env0.make _ us []) b r2 hq) fun r s' hq' => ?_))
  cases r with
  | error e => exact passAt tk σ pins _ _ e s' I2 hq'
  | ok fl =>
    cases fl with
    | ret u =>
      obtain ⟨v, H', I3, rv, ev, q3⟩ := I2.after hq'
      subst ev
      exact ⟨rv, ⟨V.ref (s1.heap.objs.size + 1), H', I3, rfl, q3⟩⟩
    | next => exact False.elim hq'
    | brk => exact False.elim hq'
    | cont => exact False.elim hq'
end
end Mn

set_option Elab.async false
set_option linter.all false
set_option maxRecDepth 100000
set_option maxHeartbeats 4000000
/-! Mn: enumerate of a list or a tuple. -/
namespace Mn
open PySem PySem.Spec PyProof.Rows L2 RZ
abbrev en2 (k : Bool) (h : Heap) (l : Addr) : Heap := (zb1 k h l).push { cls := .type "enumerate", data := .fields #[.none, .bool false, .ref h.objs.size, rawInt 0, .none, .none] }
theorem meets_enumB (k : Bool) (l : Addr) (xs : Array Value) :
    Meets (Builtin.«enumerate.__new__» ⟨[.type "enumerate", .ref l], []⟩) (fun _ R s => SqB k s.heap l xs ∧ R (.ok (.ret (.ref (zb1 k s.heap l).objs.size))) { s with heap := en2 k s.heap l }) :=
  .of_wp fun prog w A R s h => by
    obtain ⟨hp, g, d, tk, os⟩ := s
    obtain ⟨q, h⟩ := h
    have hsub := sub_enumerate
    cases k
    · have e : Heap.IsList (Shared.heap ⟨hp, g, d, tk, os⟩) l xs := q
      obtain ⟨ol, hl, r⟩ := id e
      wp_walk using AutoSeq1.wpAny_loadPart' hl
      refine wpAny_stack_any fun st => wpAny_pure ?_
      split
      · rename_i c _ _ _ _ _
        cases (c == Value.type "enumerate") <;> (wp_walk using AutoSeq1.wpAny_loadPart' hl, wpAny_pyIter_list e; exact ⟨_, rfl, h⟩)
      · wp_walk using AutoSeq1.wpAny_loadPart' hl, wpAny_pyIter_list e
        exact ⟨_, rfl, h⟩
    · have e : Heap.IsTuple (Shared.heap ⟨hp, g, d, tk, os⟩) l xs := q
      obtain ⟨ol, hl, r⟩ := id e
      wp_walk using AutoSeq1.wpAny_loadPart' hl
      refine wpAny_stack_any fun st => wpAny_pure ?_
      split
      · rename_i c _ _ _ _ _
        cases (c == Value.type "enumerate") <;> (wp_walk using AutoSeq1.wpAny_loadPart' hl, wpAny_pyIter_tuple e; exact ⟨_, rfl, h⟩)
      · wp_walk using AutoSeq1.wpAny_loadPart' hl, wpAny_pyIter_tuple e
        exact ⟨_, rfl, h⟩
section
variable {prog : Program} {w : World} {A : Around} {E : Value → Shared → Prop} {s : Shared} {k : Bool} {l : Addr} {xs : Array Value}
theorem call_enumB {Q : Value → Shared → Prop} (b : SqB k s.heap l xs)
    (q : ∀ h', IsEnum h' (s.heap.objs.size + 1) s.heap.objs.size 0 .none → ItB k h' s.heap.objs.size l 0 → (∀ c o, s.heap.get? c = some o → h'.get? c = some o) → Q (.ref (s.heap.objs.size + 1)) { s with heap := h' }) : wpAny (model prog w) A (call (.type "enumerate") [.ref l]) Q E s := by
  refine callType_new F.called_enumerate (by decide) (F.typeCall_enumerate_1 _) (F.newCall_enumerate_1 _) (fun obj => F.args_object_init_2 obj _) F.entry_enumerate_new (meets_enumB k l xs) ⟨b, ?_⟩
  have c1 : (zb1 k s.heap l).objs.size = s.heap.objs.size + 1 := Heap.size_push ..
  have g : (en2 k s.heap l).get? (zb1 k s.heap l).objs.size = some _ := Heap.get?_push_size _ rfl
  have i : ItB k (en2 k s.heap l) s.heap.objs.size l 0 := (ItB.made (k := k) (l := l) s.heap).moved fun o e => Heap.get?_push_of_some _ e
  rw [c1] at g
  rw [c1]
  exact ⟨⟨_, g, rfl⟩, q _ g i fun c o e => Heap.get?_push_of_some _ (Heap.get?_push_of_some _ e)⟩
theorem enumB_next {e it : Addr} {i : Nat} {x old : Value} {Q : Value → Shared → Prop}
    (he : IsEnum s.heap e it i old) (hit : ItB k s.heap it l i) (hl : SqB k s.heap l xs) (hx : xs[i]? = some x) (hne : e ≠ it)
    (hQ : ∀ h', IsEnumOut h' e it ((i : Int) + 1) x s.heap.objs.size → ItB k h' it l (i + 1) → h'.get? s.heap.objs.size = some { cls := .type "tuple", data := .seq #[.int i s.toks, x] } → (∀ b o, b ≠ e → b ≠ it → s.heap.get? b = some o → h'.get? b = some o) → Q (.ref s.heap.objs.size) { s with heap := h', toks := s.toks + 1 }) :
    wpAny (model prog w) A (Builtin.«enumerate.__next__» ⟨[.ref e], []⟩) (fun fin s' => ∃ v, fin = .done (.ret v) ∧ Q v s') E s := by
  obtain ⟨hp, g, d, tk, os⟩ := s
  show wpAny _ _ (field (.ref e) 2 >>= _) _ _ _
  refine wpAny_bind (wpAny_field he rfl (x := .ref it) rfl (wpAny_bind (step_b hit hl hx fun ha hit1 hs1 => ?_)))
  replace hs1 : Heap.SameBut it hp ha := hs1
  have he1 : IsEnum ha e it i old := (hs1.2 e hne).trans he
  show wpAny _ _ (field (.ref e) 3 >>= _) _ _ ⟨ha, g, d, tk, os⟩
  refine wpAny_bind (wpAny_field he1 rfl (x := rawInt i) rfl ?_)
  show wpAny _ _ (field (.ref e) 4 >>= _) _ _ ⟨ha, g, d, tk, os⟩
  refine wpAny_bind (wpAny_field he1 rfl (x := .none) rfl ?_)
  show wpAny _ _ (mkInt i >>= _) _ _ ⟨ha, g, d, tk, os⟩
  refine wpAny_bind (wpAny_mkInt ?_)
  show wpAny _ _ (setField (.ref e) 3 (rawInt ((i : Int) + 1)) >>= _) _ _ ⟨ha, g, d, tk + 1, os⟩
  refine wpAny_bind (wpAny_setField_rec he1 (by simp) fun hb he2 hs2 => ?_)
  replace hs2 : Heap.SameBut e ha hb := hs2
  replace he2 : IsEnum hb e it ((i : Int) + 1) old := he2
  show wpAny _ _ (setField (.ref e) 4 .none >>= _) _ _ ⟨hb, g, d, tk + 1, os⟩
  refine wpAny_bind (wpAny_setField_rec he2 (by simp) fun hc he3 hs3 => ?_)
  replace hs3 : Heap.SameBut e hb hc := hs3
  replace he3 : IsEnum hc e it ((i : Int) + 1) old := he3
  show wpAny _ _ (newTuple [.int i tk, x] >>= _) _ _ ⟨hc, g, d, tk + 1, os⟩
  refine wpAny_bind (wpAny_newTuple ?_)
  have he4 : IsEnum (hc.push { cls := .type "tuple", data := .seq #[.int i tk, x] }) e it ((i : Int) + 1) old := Heap.get?_push_of_some _ he3
  generalize hh : hc.push { cls := .type "tuple", data := .seq #[.int i tk, x] } = hd at he4
  have hsz : hc.objs.size = hp.objs.size := by rw [hs3.1, hs2.1, hs1.1]
  have hel : e < hp.objs.size := Heap.lt_size he
  have ht4 : hd.get? hp.objs.size = some { cls := .type "tuple", data := .seq #[.int i tk, x] } := by rw [← hh, ← hsz]; exact Heap.get?_push_size _ rfl
  have hk4 : ∀ b o, b ≠ e → b ≠ it → hp.get? b = some o → hd.get? b = some o := fun b o h1 h2 hb => by
    rw [← hh]; exact Heap.get?_push_of_some _ (hs3.extBut b o h1 (hs2.extBut b o h1 (hs1.extBut b o h2 hb)))
  have hit4 : ItB k hd it l (i + 1) := by
    rw [← hh]
    exact ((hit1.ext hs2.extBut (Ne.symm hne)).ext hs3.extBut (Ne.symm hne)).moved fun o q => Heap.get?_push_of_some _ q
  show wpAny _ _ (Builtin.SmallTypes.ownedTupleIsFree (.ref e) >>= _) _ _ ⟨hd, g, d, tk + 1, os⟩
  rw [hsz]
  clear hh he3 hs3 he2 hs2 he1 hs1 hit1 hsz hc hb ha
  refine wpAny_bind ?_
  unfold Builtin.SmallTypes.ownedTupleIsFree
  refine wpAny_bind (wpAny_field he4 rfl (x := .none) rfl (wpAny_pure ?_))
  simp only [if_true]
  refine wpAny_bind (wpAny_rule ?_)
  refine wpAny_bind (wpAny_field he4 rfl (x := old) rfl ?_)
  refine wpAny_bind (wpAny_setField_rec he4 (by simp) fun h5 he5 hs5 => ?_)
  replace hs5 : Heap.SameBut e hd h5 := hs5
  replace he5 : IsEnum h5 e it ((i : Int) + 1) x := he5
  show wpAny _ _ (Builtin.SmallTypes.ownedTupleHandOut (.ref e) (.ref hp.objs.size) >>= _) _ _ ⟨h5, g, d, tk + 1, os⟩
  refine wpAny_bind ?_
  unfold Builtin.SmallTypes.ownedTupleHandOut
  refine wpAny_bind (wpAny_setField_rec he5 (by simp) fun h6 he6 hs6 => ?_)
  replace hs6 : Heap.SameBut e h5 h6 := hs6
  replace he6 : IsEnumOut h6 e it ((i : Int) + 1) x hp.objs.size := he6
  refine wpAny_setField_rec he6 (by simp) fun h7 he7 hs7 => ?_
  replace hs7 : Heap.SameBut e h6 h7 := hs7
  replace he7 : IsEnumOut h7 e it ((i : Int) + 1) x hp.objs.size := he7
  refine wpAny_bind (wpAny_letGo (wpAny_pure ⟨_, rfl, hQ h7 he7 ?_ ?_ ?_⟩))
  · exact ((hit4.ext hs5.extBut (Ne.symm hne)).ext hs6.extBut (Ne.symm hne)).ext hs7.extBut (Ne.symm hne)
  · exact hs7.extBut _ _ (Nat.ne_of_gt hel) (hs6.extBut _ _ (Nat.ne_of_gt hel) (hs5.extBut _ _ (Nat.ne_of_gt hel) ht4))
  · exact fun b o h1 h2 hb => hs7.extBut b o h1 (hs6.extBut b o h1 (hs5.extBut b o h1 (hk4 b o h1 h2 hb)))
theorem enumB_item {e it : Addr} {i : Nat} {x old : Value} {Q : Option Value → Shared → Prop}
    (he : IsEnum s.heap e it i old) (hit : ItB k s.heap it l i) (hl : SqB k s.heap l xs) (hx : xs[i]? = some x) (hne : e ≠ it)
    (hQ : ∀ h', IsEnumOut h' e it ((i : Int) + 1) x s.heap.objs.size → ItB k h' it l (i + 1) → h'.get? s.heap.objs.size = some { cls := .type "tuple", data := .seq #[.int i s.toks, x] } → (∀ b o, b ≠ e → b ≠ it → s.heap.get? b = some o → h'.get? b = some o) → Q (some (.ref s.heap.objs.size)) { s with heap := h', toks := s.toks + 1 }) :
    wpAny (model prog w) A (pyNext (.ref e)) Q E s := by
  have hT : s.TypeIs (.ref e) "enumerate" := ⟨_, he, rfl⟩
  unfold pyNext
  exact wpAny_bind (wpAny_attempt (wpAny_callSpecial?_slot (name := Str.ofString "__next__") hT F.slot_enumerate_next
    (wpAny_call_entry F.slot_enumerate_next hT F.entry_enumerate_next (enumB_next he hit hl hx hne fun h' a b c d => wpAny_pure (hQ h' a b c d)) (F.args_enumerate_next_1 _))))
theorem enumB_end {e it : Addr} {i : Nat} {old : Value} {Q : Option Value → Shared → Prop} (hh : A.handled = none)
    (he : IsEnum s.heap e it i old) (hit : ItB k s.heap it l i) (hl : SqB k s.heap l xs) (hx : xs[i]? = none) (hQ : ∀ h', Heap.ExtBut it s.heap h' → Q none { s with heap := h' }) : wpAny (model prog w) A (pyNext (.ref e)) Q E s := by
  have hT : s.TypeIs (.ref e) "enumerate" := ⟨_, he, rfl⟩
  unfold pyNext
  refine wpAny_bind (wpAny_attempt (wpAny_callSpecial?_slot (name := Str.ofString "__next__") hT F.slot_enumerate_next (wpAny_call_entry F.slot_enumerate_next hT F.entry_enumerate_next ?_ (F.args_enumerate_next_1 _))))
  show wpAny _ _ (field (.ref e) 2 >>= _) _ _ _
  refine wpAny_bind (wpAny_field he rfl (x := .ref it) rfl (wpAny_bind (stop_b hh hit hl hx fun h' x he' hx' => ?_)))
  obtain ⟨o, ho, hc⟩ := hx'
  exact wpAny_bind (wpAny_isInstance (T := "StopIteration") (b := true) ⟨o, ho, hc⟩ isSubtype_stop (wpAny_pure (hQ _ he')))
end
/-- the sequence at a as it stands at each turn, each item in a new pair -/
def ItN (K : PySem.W.Frag) (k : Bool) (a : Addr) : It :=
  ⟨fun i H => ∃ (xs : List V) (x : V), SqK K k H a xs ∧ xs[i]? = some x, fun i H v H' => ∃ T x, v = .ref T ∧ H T = none ∧ H' = upd H T (.tup [.int (i : Nat), x]) ∧ ∀ xs, SqK K k H a xs → xs[i]? = some x, fun i H => ∃ xs : List V, SqK K k H a xs ∧ xs.length ≤ i⟩
theorem turnN {P : Program} {w : World} {K : PySem.W.Frag} {k : Bool} {elts : List Expr} {kk : Nat} {tpos : Pos} (a e it : Addr) :
    Turn P w K (.Tuple elts kk tpos) (ItN K k a) [e, it] e (fun i h => (∃ old, IsEnum h e it ((i : Nat) : Int) old) ∧ ItB k h it a i ∧ e ≠ it) where
  mem := by simp
  obj := fun i h st b hb => by
    obtain ⟨⟨old, he⟩, hi, _⟩ := st
    obtain ⟨o, ho, vs, hd⟩ := hi.there
    have e' : b = e ∨ b = it := by simpa using hb
    rcases e' with z | z
    · rw [z]; exact ⟨_, he, fun v q => nomatch q⟩
    · rw [z]; exact ⟨o, ho, fun v q => by rw [hd] at q; cases q⟩
  keep := fun i h h' st kp => let ⟨⟨old, he⟩, hi, hne⟩ := st; ⟨⟨old, kp e (by simp) _ he⟩, hi.moved fun o q => kp it (by simp) o q, hne⟩
  item := by
    intro X hP hw hK hc i pins s σ H E I hf st hg
    subst hP hw hK
    obtain ⟨⟨old, he⟩, hit, hne⟩ := st
    obtain ⟨xs, x, hq, hx⟩ := hg
    obtain ⟨its, rv, p⟩ := sqK_of I hq
    obtain ⟨u, hu, ru⟩ := rv.get hx
    have hel : e < s.heap.objs.size := Heap.lt_size he
    have hil : it < s.heap.objs.size := by obtain ⟨_, q, _⟩ := hit.there; exact Heap.lt_size q
    refine enumB_item he hit p (x := u) (by simpa using hu) hne fun h' ho hit' hT hk => ?_
    refine ⟨_, rfl, wpAny_letOwnedTupleGo_enum (s := { s with heap := h', toks := s.toks + 1 }) ho fun h'' he' sb => ?_⟩
    have hT2 : h''.get? s.heap.objs.size = some { cls := .type "tuple", data := .seq #[.int i s.toks, u] } := (sb.2 _ (Nat.ne_of_gt hel)).trans hT
    have new : ObjOk X.prog X.w (upd H s.heap.objs.size (.tup [.int (i : Nat), x])) h'' s.heap.objs.size (.tup [.int (i : Nat), x]) :=
      ⟨by show 2 ≤ sizeLine; decide, [.int i s.toks, u], .cons ⟨_, rfl⟩ (.cons ru .nil), ⟨_, hT2, rfl, _, rfl⟩⟩
    have I1 : Inv X pins σ (upd H s.heap.objs.size (.tup [.int (i : Nat), x])) { s with heap := h'', toks := s.toks + 1 } :=
      I.turnedNew (ch := [e, it]) (fun b ob hb q => (sb.2 b (fun z => hb (by simp [z]))).trans (hk b ob (fun z => hb (by simp [z])) (fun z => hb (by simp [z])) q)) hf (Nat.le_refl _) new
    refine ⟨.ref s.heap.objs.size, _, I1, rfl, ⟨_, x, rfl, I.hok.fresh (Nat.le_refl _), rfl, fun ys hy => by rw [sqK_inj I hy hq]; exact hx⟩, ⟨⟨u, ?_⟩, hit'.moved fun o q => (sb.2 it (Ne.symm hne)).trans q, hne⟩, fun b hb => ?_⟩
    · have e1 : ((i + 1 : Nat) : Int) = (i : Int) + 1 := by omega
      rw [e1]; exact he'
    · have hb' : b < s.heap.objs.size := by
        have e' : b = e ∨ b = it := by simpa using hb
        rcases e' with z | z
        · rw [z]; exact hel
        · rw [z]; exact hil
      rw [upd_ne (Nat.ne_of_lt hb')]
      exact (hf b hb).1
  done := by
    intro X hP hw hK hc i pins s σ H E I hf st hg
    subst hP hw hK
    obtain ⟨⟨old, he⟩, hit, hne⟩ := st
    obtain ⟨xs, hq, hx⟩ := hg
    obtain ⟨its, rv, p⟩ := sqK_of I hq
    obtain ⟨f0, f1, f2, f3, f4, f5⟩ := hf it (by simp)
    have hl := rv.length
    exact enumB_end (I.ok.hd hc) he hit p (by simp; omega) fun h' eb => ⟨rfl, I.turned (t' := s.toks) (fun b o hb q => eb b o hb q) f0 f1 f3 f4 f5⟩
  self := fun A i s Q E st h => let ⟨⟨_, he⟩, _⟩ := st; wpAny_pyIter_enum he h
/-- what enumerate walks -/
def numD : Nat → List D → List D
  | _, [] => []
  | n, d :: r => .tup [.int (n : Nat), d] :: numD (n + 1) r
theorem numD_len : ∀ (ds : List D) (n : Nat), (numD n ds).length = ds.length
  | [], _ => rfl
  | _ :: r, n => congrArg Nat.succ (numD_len r (n + 1))
theorem numD_get : ∀ (ds : List D) (n i : Nat) {d : D}, ds[i]? = some d → (numD n ds)[i]? = some (.tup [.int ((n + i : Nat) : Int), d])
  | [], _, i, d, h => by simp at h
  | x :: r, n, 0, d, h => by
    have h : some x = some d := h
    injection h with h
    subst h
    rfl
  | x :: r, n, i + 1, d, h => by
    have h : r[i]? = some d := by simpa using h
    have := numD_get r (n + 1) i h
    show (numD (n + 1) r)[i]? = _
    rw [this, show n + 1 + i = n + (i + 1) by omega]
def iEnum2 (a : MA) : MI := fun ρ S => (a ρ S).bind fun ds S1 => match ds with
  | [x] => match itD S1 x with
    | some p => if kOf S1 x = "str" then .bad else .ok (numD 0 p.1, p.2) S1
    | none => .bad
  | _ => .bad
theorem wk_enum {K : PySem.W.Frag} {io : List Addr} {H : Hp} {k : Bool} {a : Addr} {ds : List D} {c1 : Sto → Bool} (p : SrcB K k a io H ds c1) : WkD K (ItN K k a) io H (numD 0 ds) c1 := by
  refine ⟨fun H' => ∃ xs, SqK K k H' a xs ∧ xs.length = ds.length, fun i H' v H2 => ∃ T x, v = .ref T ∧ H' T = none ∧ H2 = upd H' T (.tup [.int (i : Nat), x]) ∧ ∀ xs, SqK K k H' a xs → xs[i]? = some x, ?_, ?_, ?_⟩
  · rw [numD_len]
    refine ⟨fun i H' hi ⟨xs, q1, l1⟩ => ⟨xs, xs[i]'(by omega), q1, by simp⟩, fun H' ⟨xs, q1, l1⟩ => ⟨xs, q1, by omega⟩, fun i H' x H2 hi g y => y⟩
  · intro io' S' H' p1 m1 R' hc
    obtain ⟨xs, q1, r1⟩ := p.later io' S' H' p1 m1 R' hc
    exact ⟨xs, q1, r1.length⟩
  · intro i io' S' H' v H2 p1 m1 R' hc hi y
    obtain ⟨xs, q1, r1⟩ := p.later io' S' H' p1 m1 R' hc
    obtain ⟨T, x, rfl, hT, rfl, f1⟩ := y
    obtain ⟨d, e1, rd1⟩ := r1.back (f1 xs q1)
    refine ⟨.tup [.int (i : Nat), d], by rw [numD_get ds 0 i e1, Nat.zero_add], Mo.new hT, R'.tup hT, T, _, rfl, SqT.of upd_same, (RDs.two (show RD K io' H' (.int (i : Nat)) (.int (i : Nat)) from rfl) rd1).mono (List.prefix_rfl) (Mo.new hT)⟩
section
variable {X : Cx} {C : Cn} {e : Expr} {ma : MA} {p pos tpos : Pos} {elts : List Expr} {kk : Nat}
theorem qi_enum (hm : X.mg "enumerate" = none) (ha : QA X C [e] ma) (hg : Gl X "enumerate" := by rfl) (hs : starEach [e] X.env = [(false, eval e X.env)] := by rfl) : QI X C (.Tuple elts kk tpos) (.Call (.Name "enumerate" p) [e] [] pos) (iEnum2 ma) := by
  refine ⟨fun pins s σ H R I h => ?_⟩
  obtain ⟨io, ρ, S, R0, re, h⟩ := h
  have ra : rdA X.K C ma σ H fun vs H1 => ∃ k a xs, vs = [V.ref a] ∧ SqK X.K k H1 a xs ∧ R (ItN X.K k a) H1 := by
    refine rdA_step R0 re h fun ds S1 io1 H1 vs p1 m1 R1 re1 q1 h1 => ?_
    split at h1
    · rename_i x
      split at h1
      · rename_i z e1
        split at h1
        · exact h1.elim
        · rename_i ns
          obtain ⟨v, rfl, r1⟩ := rds1 q1
          obtain ⟨k, a, rfl, s1⟩ := srcB_of R1 r1 e1 ns
          obtain ⟨xs, g1, _⟩ := s1.now
          exact ⟨k, a, xs, rfl, g1, h1.fin R1 (wk_enum s1)⟩
      · exact h1.elim
    · exact h1.elim
  refine Call_ (ld_blt I hg hm boot_enumerate (PyProof.Rows.callWith_type1 (thn (ha.run pos pins s σ H _ I ra) fun us s1 ⟨vs, H1, I1, r1, q1⟩ => ?_) hs rfl))
  obtain ⟨k, a, xs, rfl, g1, q⟩ := q1
  obtain ⟨u, rfl, ru⟩ := vals1 r1
  have ru : u = Value.ref a := ru
  subst ru
  obtain ⟨its, w1, b1⟩ := sqK_of I1 g1
  refine call_enumB b1 fun h' he hit hk => wpAny_pyIter_enum he ?_
  have I2 : Inv X pins σ H1 { s1 with heap := h' } := I1.kept (t' := s1.toks) hk
  refine ⟨s1.heap.objs.size + 1, [s1.heap.objs.size + 1, s1.heap.objs.size], _, _, H1, rfl, I2, turnN a (s1.heap.objs.size + 1) s1.heap.objs.size, ⟨⟨.none, he⟩, hit, Nat.succ_ne_self _⟩, fun b hb => ?_, q⟩
  have e' : b = s1.heap.objs.size + 1 ∨ b = s1.heap.objs.size := by simpa using hb
  have hle : s1.heap.objs.size ≤ b := by
    rcases e' with z | z
    · rw [z]; exact Nat.le_add_right _ _
    · rw [z]; exact Nat.le_refl _
  exact I1.fpOk hle (I1.hok.fresh hle)
end
end Mn

set_option Elab.async false
set_option linter.all false
set_option maxRecDepth 100000
set_option maxHeartbeats 4000000
/-! Mn: more methods of texts and lists, text * int, str(..), name += int. -/
namespace Mn
open PySem PySem.Spec PyProof.Rows L2
/-- the texts of a list -/
def strsOf : List D → Option (List Str)
  | [] => some []
  | .str x :: r => (strsOf r).map (x :: ·)
  | _ :: _ => none
theorem strsOf_eq : ∀ {ds : List D} {xs : List Str}, strsOf ds = some xs → ds = xs.map D.str
  | [], xs, h => by
    have h : some [] = some xs := h
    injection h with h
    subst h
    rfl
  | d :: r, xs, h => by
    cases d with
    | str x =>
      have h : (strsOf r).map (x :: ·) = some xs := h
      obtain ⟨t, ht, rfl⟩ := Option.map_eq_some_iff.mp h
      rw [strsOf_eq ht]
      rfl
    | _ => cases h
theorem strsOf_map : ∀ xs : List Str, strsOf (xs.map D.str) = some xs
  | [] => rfl
  | x :: r => by
    show (strsOf (r.map D.str)).map (x :: ·) = _
    rw [strsOf_map r]
    rfl
def fSplit : D → F := fun x ds S => match x, ds with
  | .str a, [.str b] => if (b.length == 0) = false ∧ a.length + 2 ≤ sizeLine then .ok (.ref S.length) (S ++ [.lst ((Txt.split a b).map .str)]) else .bad
  | _, _ => .bad
def fCount : D → F := fun x ds S => match x, ds with
  | .str a, [.str b] => .ok (.int (Txt.count a b)) S
  | _, _ => .bad
def fStarts : D → F := fun x ds S => match x, ds with
  | .str a, [.str b] => .ok (.bl (Txt.startswith a b)) S
  | _, _ => .bad
def fEnds : D → F := fun x ds S => match x, ds with
  | .str a, [.str b] => .ok (.bl (Txt.endswith a b)) S
  | _, _ => .bad
def fAlnum : D → F := fun x ds S => match x, ds with
  | .str a, [] => .ok (.bl (Txt.isalnum a)) S
  | _, _ => .bad
def fRstripC : D → F := fun x ds S => match x, ds with
  | .str a, [.str b] => if a.length ≤ sizeLine then .ok (.str (Txt.rstripChars a b)) S else .bad
  | _, _ => .bad
def fLstripC : D → F := fun x ds S => match x, ds with
  | .str a, [.str b] => if a.length ≤ sizeLine then .ok (.str (Txt.lstripChars a b)) S else .bad
  | _, _ => .bad
def fJoin : D → F := fun x ds S => match x, ds with
  | .str a, [.ref n] => match S[n]? with
    | some (.lst xs) => match strsOf xs with
      | some ys => if (ys.map (·.length)).sum + ys.length * a.length ≤ 16777216 then .ok (.str (Txt.join a ys)) S else .bad
      | none => .bad
    | _ => .bad
  | .str a, [.tup xs] => match strsOf xs with
    | some ys => if (ys.map (·.length)).sum + ys.length * a.length ≤ 16777216 then .ok (.str (Txt.join a ys)) S else .bad
    | none => .bad
  | _, _ => .bad
def fExtend : D → F := fun x ds S => match x, ds with
  | .ref n, [.ref m] => match S[n]?, S[m]? with
    | some (.lst xs), some (.lst ys) => if xs.length + ys.length ≤ sizeLine then .ok .non (S.set n (.lst (xs ++ ys))) else .bad
    | _, _ => .bad
  | _, _ => .bad
section
variable {X : Cx}
theorem ms_split : MtS X "str.split" fSplit := by
  refine MtS.of mt_split fun cl W io S d ds x vs H Q R q0 q1 z => ?_
  unfold fSplit at z
  split at z
  · split at z
    · rename_i a b hz
      obtain ⟨v, rfl, q2⟩ := rds1 q1
      have q2 : v = _ := q2
      subst q2
      refine ⟨a, b, q0, rfl, hz.1, hz.2, fun t ht => ?_⟩
      have pp : io <+: io ++ [t] := List.prefix_append _ _
      refine z.finP pp (Mo.new ht) (R.new ht ⟨_, upd_same, RDs.of_strs _⟩) ⟨t, rfl, ?_⟩
      rw [← R.len]
      exact List.getElem?_concat_length
    · exact z.elim
  · exact z.elim
theorem ms1 {id : String} {g : Str → Str → D} {f : D → F} {gv : Str → Str → V} (h : MtR X id (fun x xs H Q => ∃ a b, x = .str a ∧ xs = [.str b] ∧ Q (gv a b) H)) (hg : ∀ io H a b, RD X.K io H (g a b) (gv a b))
    (hf : ∀ a b S, f (.str a) [.str b] S = .ok (g a b) S) (hb : ∀ d ds S, (∀ a b, d = .str a → ds = [.str b] → False) → f d ds S = .bad) : MtS X id f := by
  refine MtS.of h fun cl W io S d ds x vs H Q R q0 q1 z => ?_
  by_cases hc : ∃ a b, d = .str a ∧ ds = [.str b]
  · obtain ⟨a, b, rfl, rfl⟩ := hc
    obtain ⟨v, rfl, q2⟩ := rds1 q1
    have q2 : v = _ := q2
    subst q2
    rw [hf] at z
    exact ⟨a, b, q0, rfl, z.fin R (hg _ _ a b)⟩
  · rw [hb d ds S fun a b h1 h2 => hc ⟨a, b, h1, h2⟩] at z
    exact z.elim
theorem ms_count : MtS X "str.count" fCount := ms1 mt_count (g := fun a b => .int (Txt.count a b)) (fun _ _ _ _ => rfl) (fun _ _ _ => rfl) fun d ds S h => by
  unfold fCount
  split
  · exact (h _ _ rfl rfl).elim
  · rfl
theorem ms_starts : MtS X "str.startswith" fStarts := ms1 mt_startswith (g := fun a b => .bl (Txt.startswith a b)) (fun _ _ _ _ => rfl) (fun _ _ _ => rfl) fun d ds S h => by
  unfold fStarts
  split
  · exact (h _ _ rfl rfl).elim
  · rfl
theorem ms_ends : MtS X "str.endswith" fEnds := ms1 mt_endswith (g := fun a b => .bl (Txt.endswith a b)) (fun _ _ _ _ => rfl) (fun _ _ _ => rfl) fun d ds S h => by
  unfold fEnds
  split
  · exact (h _ _ rfl rfl).elim
  · rfl
theorem ms_alnum : MtS X "str.isalnum" fAlnum := by
  refine MtS.of mt_isalnum fun cl W io S d ds x vs H Q R q0 q1 z => ?_
  unfold fAlnum at z
  split at z
  · have q1 : vs = [] := q1
    subst q1
    exact ⟨_, q0, rfl, trivial, z.fin R rfl⟩
  · exact z.elim
theorem ms_rstripC : MtS X "str.rstrip" fRstripC := by
  refine MtS.of mt_rstripChars fun cl W io S d ds x vs H Q R q0 q1 z => ?_
  unfold fRstripC at z
  split at z
  · split at z
    · rename_i hz
      obtain ⟨v, rfl, q2⟩ := rds1 q1
      have q2 : v = _ := q2
      subst q2
      exact ⟨_, _, q0, rfl, hz, z.fin R rfl⟩
    · exact z.elim
  · exact z.elim
theorem ms_lstripC : MtS X "str.lstrip" fLstripC := by
  refine MtS.of mt_lstripChars fun cl W io S d ds x vs H Q R q0 q1 z => ?_
  unfold fLstripC at z
  split at z
  · split at z
    · rename_i hz
      obtain ⟨v, rfl, q2⟩ := rds1 q1
      have q2 : v = _ := q2
      subst q2
      exact ⟨_, _, q0, rfl, hz, z.fin R rfl⟩
    · exact z.elim
  · exact z.elim
theorem ms_join : MtS X "str.join" fJoin := by
  refine MtS.of mt_join fun cl W io S d ds x vs H Q R q0 q1 z => ?_
  unfold fJoin at z
  split at z
  · split at z
    · rename_i a n _ xs hs
      split at z
      · rename_i ys hy
        split at z
        · rename_i hz
          obtain ⟨v, rfl, q2⟩ := rds1 q1
          obtain ⟨p, rfl, hp⟩ := q2
          obtain ⟨ws, hw, r⟩ := R.ob _ _ _ hs hp
          rw [strsOf_eq hy] at r
          have e := RDs.strs r
          subst e
          exact ⟨a, p, ys, q0, rfl, .inl (SqL.of hw), hz, z.fin R rfl⟩
        · exact z.elim
      · exact z.elim
    · exact z.elim
  · split at z
    · rename_i a xs _ ys hy
      split at z
      · rename_i hz
        obtain ⟨v, rfl, q2⟩ := rds1 q1
        obtain ⟨p, ws, rfl, hw, r⟩ := q2
        rw [strsOf_eq hy] at r
        have e := RDs.strs r
        subst e
        exact ⟨a, p, ys, q0, rfl, .inr hw, hz, z.fin R rfl⟩
      · exact z.elim
    · exact z.elim
  · exact z.elim
theorem ms_extend : MtS X "list.extend" fExtend := by
  refine MtS.of mt_extend fun cl W io S d ds x vs H Q R q0 q1 z => ?_
  unfold fExtend at z
  split at z
  · rename_i n m
    split at z
    · rename_i xs ys hs hs2
      split at z
      · rename_i hz
        obtain ⟨v, rfl, q2⟩ := rds1 q1
        obtain ⟨a, rfl, ha⟩ := q0
        obtain ⟨b, rfl, hb⟩ := q2
        obtain ⟨ws, hw, rs⟩ := R.ob _ _ _ hs ha
        obtain ⟨zs, hzs, rz⟩ := R.ob _ _ _ hs2 hb
        refine ⟨a, b, ws, zs, rfl, rfl, hw, hzs, by rw [rs.length, rz.length]; exact hz, ?_⟩
        obtain ⟨mo, R'⟩ := R.put (o := .lst (ws ++ zs)) (ob := .lst (xs ++ ys)) hs ha fun mo => ⟨_, upd_same, (rs.append rz).mono (List.prefix_rfl) mo⟩
        exact z.finP (List.prefix_rfl) mo R' rfl
      · exact z.elim
    · exact z.elim
  · exact z.elim
/-! ### text * int -/
def mulSOk (x : Str) (n : Int) : Bool := decide (-(2 ^ 62) ≤ n) && (decide (n.toNat ≤ 16777216) && decide (x.length * n.toNat ≤ 16777216))
def fMulS : D → D → Sto → Res D := fun x y S => match x, y with
  | .str a, .int n => if mulSOk a n = true then .ok (.str (Txt.mul a n)) S else .bad
  | _, _ => .bad
theorem op_mulS : OpR X (binaryOp .Mult) (fun x y H Q => ∃ a n, x = .str a ∧ y = .int n ∧ MulOk a n ∧ Q (.str (Txt.mul a n)) H) := by
  intro pins s σ H x y v u Q I rx ry h
  obtain ⟨a, n, rfl, rfl, hz, q⟩ := h
  obtain ⟨t, rfl⟩ := rx
  obtain ⟨t', rfl⟩ := ry
  exact PySem.SB.mul hz fun t'' k => ⟨.str (Txt.mul a n), H, I.tok _, ⟨_, rfl⟩, q⟩
theorem os_mulS : OpS X (binaryOp .Mult) fMulS := by
  refine OpS.of op_mulS fun cl W io S d e x y H Q R q1 q2 z => ?_
  unfold fMulS at z
  split at z
  · rename_i a n
    split at z
    · rename_i hc
      unfold mulSOk at hc
      rw [Bool.and_eq_true, Bool.and_eq_true] at hc
      have h1 := of_decide_eq_true hc.1
      have h2 := of_decide_eq_true hc.2.1
      have h3 := of_decide_eq_true hc.2.2
      exact ⟨a, n, q1, q2, PyProof.Rows.mulOk_of a.length n.toNat (Nat.le_refl _) (by omega) (by omega) h2 h3, z.fin R rfl⟩
    · exact z.elim
  · exact z.elim
/-! ### str(..) -/
def cStr : F := fun ds S => match ds with
  | [.int i] => if i.natAbs.log2 < 1920 then .ok (.str (toString i)) S else .bad
  | [.str x] => .ok (.str x) S
  | _ => .bad
theorem cs_str : CaS X (.type "str") cStr := by
  refine CaS.of (CallR.or call_str_int SkE.call_str_str) fun cl W io S ds vs H Q R q z => ?_
  unfold cStr at z
  split at z
  · split at z
    · rename_i hz
      obtain ⟨v, rfl, q0⟩ := rds1 q
      have q0 : v = _ := q0
      subst q0
      exact .inl ⟨_, rfl, hz, z.fin R rfl⟩
    · exact z.elim
  · obtain ⟨v, rfl, q0⟩ := rds1 q
    have q0 : v = _ := q0
    subst q0
    exact .inr ⟨_, rfl, z.fin R rfl⟩
  · exact z.elim
/-- is not, of truths -/
def fNotB : D → D → Sto → Res D := fun x y S => match x, y with
  | .bl a, .bl b => .ok (.bl (!decide (a = b))) S
  | _, _ => .bad
theorem os_notB : OpS X (compareOp .IsNot) fNotB := by
  refine OpS.of op_isnot_bl fun cl W io S d e x y H Q R q1 q2 z => ?_
  unfold fNotB at z
  split at z
  · exact ⟨_, _, q1, q2, z.fin R rfl⟩
  · exact z.elim
/-! ### name += int -/
def sAugI (i : Nat) (m : M) : MS := fun ρ S => match ρ[i]? with
  | some (some (.int a)) => (m ρ S).st ρ fun y S1 => match y with
    | .int b => .nx (ρ.set i (some (.int (a + b)))) S1
    | _ => .bad
  | _ => .bad
variable {C : Cn} {e : Expr} {m : M} {pos pos' : Pos}
theorem qs_augI (i : Nat) {x : Str} (hN : X.N.Nodup) (he : QE X C e m) (hi : X.N[i]? = some x := by rfl) (hx : Loc X.env.scope x := by first | exact Or.inl rfl | exact Or.inr rfl) (hf : X.fn x = true ∨ X.env.scope.names.lookup x = some .local := by first | exact .inl rfl | exact .inr rfl) : QS X C (.AugAssign (.Name x pos') .Add e pos) (sAugI i m) := by
  refine PS_imp (ps_aug hN hi hx he ip_add hf) ?_
  rintro E σ H ⟨io, ρ, S, R, re, h⟩
  unfold sAugI at h
  split at h
  · rename_i a ea
    obtain ⟨v, hv, rv⟩ := re.2 i _ ea
    have rv : v = _ := rv
    subst rv
    refine ⟨_, hv, ?_⟩
    refine rdE_st R re h fun y S1 io1 H1 w p1 m1 R1 re1 q1 h1 => ?_
    split at h1
    · rename_i b
      have q1 : w = _ := q1
      subst q1
      exact ⟨a, b, rfl, rfl, h1.next R1 (re1.set i rfl)⟩
    · exact h1.elim
  · exact h.elim
/-! ### range of three -/
@[irreducible] def rOk (i j c : Int) : Bool := decide (c ≠ 0 ∧ c.natAbs < 1073741824 ∧ Builtin.Range.small i j c = true ∧ 0 ≤ Builtin.Range.rangeSize i j c)
theorem rOk_iff {i j c : Int} : rOk i j c = true ↔ (c ≠ 0 ∧ c.natAbs < 1073741824 ∧ Builtin.Range.small i j c = true ∧ 0 ≤ Builtin.Range.rangeSize i j c) := by
  unfold rOk
  exact decide_eq_true_iff
def iRange3 (a : MA) : MI := fun ρ S => (a ρ S).bind fun ds S1 => match ds with
  | [.int i, .int j, .int c] => if rOk i j c = true then .ok ((List.range (Builtin.Range.rangeSize i j c).toNat).map fun k => .int (i + (k : Nat) * c), always) S1 else .bad
  | _ => .bad
theorem qi_range3 {tg a b c : Expr} {ma : MA} {p pos : Pos} (hm : X.mg "range" = none) (ha : QA X C [a, b, c] ma) (hg : Gl X "range" := by rfl) (hs : starEach [a, b, c] X.env = (false, eval a X.env) :: starEach [b, c] X.env := by rfl) (hpl : (backTo pos (starEach [b, c] X.env)).any (·.1) = false := by rfl) : QI X C tg (.Call (.Name "range" p) [a, b, c] [] pos) (iRange3 ma) := by
  refine PI_imp (pi_range3 hg hm ha hs hpl) ?_
  rintro σ H Q ⟨io, ρ, S, R, re, h⟩
  refine rdA_step R re h fun ds S1 io1 H1 vs p1 m1 R1 re1 q1 h1 => ?_
  split at h1
  · split at h1
    · rename_i i j c hj
      have hj := rOk_iff.mp hj
      obtain ⟨v, r, rfl, q2, w, r', rfl, q3, u, r'', rfl, q4, q5⟩ := q1
      have q2 : v = .int i := q2
      have q3 : w = .int j := q3
      have q4 : u = .int c := q4
      have q5 : r'' = [] := q5
      subst q2 q3 q4 q5
      refine ⟨i, j, c, (Builtin.Range.rangeSize i j c).toNat, rfl, ⟨hj.1, hj.2.1, hj.2.2.1, ?_⟩, h1.fin R1 (wk_rangeC i c _)⟩
      have := hj.2.2.2
      omega
    · exact h1.elim
  · exact h1.elim
theorem qs_ret0 : QS X C (.Return none pos) (sRet (mC .non)) := by
  refine PS_imp ps_retN ?_
  rintro E σ H ⟨io, ρ, S, R, re, h⟩
  exact h io H .non (List.prefix_rfl) (Mo.refl H) R rfl
end
end Mn
namespace Mn
/-- turns of a while loop, at most -/
def wN : Nat := 1000000
end Mn

set_option Elab.async false
set_option linter.all false
set_option maxRecDepth 100000
set_option maxHeartbeats 4000000
/-! mirrors of the defs of law_k07_kinds_by_hand -/
namespace LK
open PySem PySem.Spec PyProof.Rows L2 Mn
abbrev c_LETTERS : D := .str "abcdefghijklmnopqrstuvwxyz"
abbrev c_DIGITS : D := .str "0123456789"
abbrev c_FOUR : D := .tup [.str "if", .str "else", .str "loop", .str "give"]
abbrev c_NOTE : D := .str "#"
abbrev c_BLANK : D := .str " "
abbrev c_FEED : D := .str "\n"
abbrev c_MOST_LETTERS : D := .int 8
abbrev c_MOST_DIGITS : D := .int 6
abbrev c_MOST_IN_NOTE : D := .int 40
abbrev c_PLUS : D := .str "+"
abbrev c_MINUS : D := .str "-"
abbrev c_PAIR : D := .int 2
abbrev c_TERMS : D := .tup [.str "name", .str "number", .str "call", .str "list", .str "in"]
abbrev c_EXPRESSIONS : D := .tup [.str "name", .str "number", .str "call", .str "list", .str "in", .str "sum"]
abbrev c_STATEMENTS : D := .tup [.str "set", .str "run", .str "give", .str "if", .str "loop", .str "note"]
abbrev c_NAMED : D := .tup [.str "set", .str "run", .str "call", .str "name"]
abbrev c_ONE : D := .str "one E"
abbrev c_SOME : D := .str "E's"
abbrev c_BLOCK : D := .str "a block"
abbrev c_ELSE : D := .str "perhaps an else"
abbrev c_ADDED : D := .str "terms with signs"
abbrev c_TERM : D := .str "one term"
def t_LOTS : List (Str × D) := [("set", .tup [.str "one E"]), ("run", .tup [.str "E's"]), ("give", .tup [.str "one E"]), ("if", .tup [.str "one E", .str "a block", .str "perhaps an else"]), ("loop", .tup [.str "one E", .str "a block"]), ("else", .tup [.str "a block"]), ("note", .tup []), ("name", .tup []), ("number", .tup []), ("call", .tup [.str "E's"]), ("list", .tup [.str "E's"]), ("in", .tup [.str "one E"]), ("sum", .tup [.str "terms with signs"]), ("plus", .tup [.str "one term"]), ("minus", .tup [.str "one term"])]
def t_FORMS : List (Str × D) := [("one E", .tup [.tup [.str "name", .str "number", .str "call", .str "list", .str "in", .str "sum"], .int 1, .int 1]), ("E's", .tup [.tup [.str "name", .str "number", .str "call", .str "list", .str "in", .str "sum"], .int 0, .non]), ("a block", .tup [.tup [.str "set", .str "run", .str "give", .str "if", .str "loop", .str "note"], .int 0, .non]), ("perhaps an else", .tup [.tup [.str "else"], .int 0, .int 1]), ("terms with signs", .tup [.tup [.str "plus", .str "minus"], .int 2, .non]), ("one term", .tup [.tup [.str "name", .str "number", .str "call", .str "list", .str "in"], .int 1, .int 1])]
/-- are_all -/
def b_are_all (t : Nat → F) : MS := (sRet (mCB cAll (aCons (mComp (iVal (mVar 0)) (.nm 2) tYesM (mBin fIn (mVar 2) (mVar 1)) [2]) aNil)))
def f_are_all (t : Nat → F) : F := mDef 2 3 (b_are_all t)
/-- is_name -/
def b_is_name (t : Nat → F) : MS := (sSeq (sIf (tOr (tNot (tVal (mIsi "str" (mVar 0)))) (tNot (tVal (mChain fLe fLe (mC (.int 1)) (mCB cLen (aCons (mVar 0) aNil)) (mC c_MOST_LETTERS))))) (sRet (mC (.bl false))) sNil)
  (sRet (mAnd (mCB (t 0) (aCons (mVar 0) (aCons (mC c_LETTERS) aNil))) (mBin fNotIn (mVar 0) (mC c_FOUR)))))
def f_is_name (t : Nat → F) : F := mDef 1 1 (b_is_name t)
/-- is_number -/
def b_is_number (t : Nat → F) : MS := (sSeq (sIf (tOr (tNot (tVal (mIsi "str" (mVar 0)))) (tOr (tNot (tVal (mChain fLe fLe (mC (.int 1)) (mCB cLen (aCons (mVar 0) aNil)) (mC c_MOST_DIGITS)))) (tNot (tVal (mCB (t 0) (aCons (mVar 0) (aCons (mC c_DIGITS) aNil))))))) (sRet (mC (.bl false))) sNil)
  (sRet (mOr (mBin fEq (mVar 0) (mC (.str "0"))) (mBin fNe (mBin fIx (mVar 0) (mC (.int 0))) (mC (.str "0"))))))
def f_is_number (t : Nat → F) : F := mDef 1 1 (b_is_number t)
/-- is_note -/
def b_is_note (t : Nat → F) : MS := (sSeq (sIf (tOr (tNot (tVal (mIsi "str" (mVar 0)))) (tVal (mBin fGt (mCB cLen (aCons (mVar 0) aNil)) (mC c_MOST_IN_NOTE)))) (sRet (mC (.bl false))) sNil)
  (sRet (mAnd (mCB (t 0) (aCons (mVar 0) (aCons (mBin fAdd (mBin fAdd (mC c_LETTERS) (mC c_DIGITS)) (mC c_BLANK)) aNil))) (mBin fEq (mVar 0) (mMt "str" fStripC (mVar 0) (aCons (mC c_BLANK) aNil))))))
def f_is_note (t : Nat → F) : F := mDef 1 1 (b_is_note t)
/-- is_integer -/
def b_is_integer (t : Nat → F) : MS := (sSeq (sIf (tOr (tNot (tVal (mIsi "int" (mVar 0)))) (tOr (tVal (mIsi "bool" (mVar 0))) (tVal (mBin fLt (mVar 0) (mVar 1))))) (sRet (mC (.bl false))) sNil)
  (sRet (mOr (mBin fIsN (mVar 2) (mC .non)) (mBin fLe (mVar 0) (mVar 2)))))
def f_is_integer (t : Nat → F) : F := mDef 3 3 (b_is_integer t)
/-- note_of -/
def b_note_of (t : Nat → F) : MS := (sRet (mMt "str" fStripC (mSl (mVar 0) (oSome (mC (.int 1))) oNone) (aCons (mC c_BLANK) aNil)))
def f_note_of (t : Nat → F) : F := mDef 1 1 (b_note_of t)
/-- end_of -/
def b_end_of (t : Nat → F) : MS := (sSeq (sIf (tVal (mBin fEq (mBin fIx (mVar 0) (mVar 1)) (mC c_NOTE))) (sRet (mCB cLen (aCons (mVar 0) aNil))) sNil)
  (sSeq (sSet 2 (mBin fAdd (mVar 1) (mC (.int 1))))
  (sSeq (sIf (tVal (mBin fIn (mBin fIx (mVar 0) (mVar 1)) (mBin fAdd (mC c_LETTERS) (mC c_DIGITS)))) (sWhile wN (tAnd (tVal (mBin fLt (mVar 2) (mCB cLen (aCons (mVar 0) aNil)))) (tVal (mBin fIn (mBin fIx (mVar 0) (mVar 2)) (mBin fAdd (mC c_LETTERS) (mC c_DIGITS))))) (sAugI 2 (mC (.int 1)))) sNil)
  (sRet (mVar 2)))))
def f_end_of (t : Nat → F) : F := mDef 2 3 (b_end_of t)
/-- words_in -/
def b_words_in (t : Nat → F) : MS := (sSeq (sPar 2 3 (aCons (mLst aNil) (aCons (mC (.int 0)) aNil)))
  (sSeq (sWhile wN (tVal (mBin fLt (mVar 3) (mCB cLen (aCons (mVar 0) aNil)))) (sSeq (sSet 4 (mCB (t 6) (aCons (mVar 0) (aCons (mVar 3) aNil))))
  (sSeq (sIf (tVal (mBin fNe (mBin fIx (mVar 0) (mVar 3)) (mC c_BLANK))) (sDrop (mMt "list" fAppend (mVar 2) (aCons (mTup (aCons (mMt "str" fRstripC (mSl (mVar 0) (oSome (mVar 3)) (oSome (mVar 4))) (aCons (mC c_BLANK) aNil)) (aCons (mVar 1) (aCons (mVar 3) aNil)))) aNil))) sNil)
  (sSet 3 (mVar 4)))))
  (sRet (mVar 2))))
def f_words_in (t : Nat → F) : F := mDef 2 5 (b_words_in t)
/-- words_of -/
def b_words_of (t : Nat → F) : MS := (sSeq (sSet 1 (mLst aNil))
  (sSeq (sFor (iEnum2 (aCons (mMt "str" fSplit (mVar 0) (aCons (mC c_FEED) aNil)) aNil)) (.tp [(.nm 2), (.nm 3)]) (sDrop (mMt "list" fExtend (mVar 1) (aCons (mCB (t 7) (aCons (mVar 3) (aCons (mBin fAdd (mVar 2) (mC (.int 1))) aNil))) aNil))))
  (sRet (mVar 1))))
def f_words_of (t : Nat → F) : F := mDef 1 4 (b_words_of t)
/-- node_of -/
def b_node_of (t : Nat → F) : MS := (sRet (mTup (aCons (mVar 0) (aCons (mVar 1) (aCons (mVar 2) (aCons (mVar 3) aNil))))))
def f_node_of (t : Nat → F) : F := mDef 4 4 (b_node_of t)
/-- Reader___init__ -/
def b_Reader___init__ (t : Nat → F) : MS := (sSeq (sAtt "Reader" "own_words" (mVar 0) (mCB (t 8) (aCons (mVar 1) aNil)))
  (sSeq (sAtt "Reader" "own_rows" (mVar 0) (mBin fAdd (mMt "str" fCount (mVar 1) (aCons (mC c_FEED) aNil)) (mC (.int 1))))
  (sAtt "Reader" "own_at" (mVar 0) (mC (.int 0)))))
def f_Reader___init__ (t : Nat → F) : F := mDef 2 2 (b_Reader___init__ t)
/-- Reader_next_word -/
def b_Reader_next_word (t : Nat → F) : MS := (sRet (mIf (tVal (mBin fLt (mAtt "Reader" "own_at" (mVar 0)) (mCB cLen (aCons (mAtt "Reader" "own_words" (mVar 0)) aNil)))) (mBin fIx (mBin fIx (mAtt "Reader" "own_words" (mVar 0)) (mAtt "Reader" "own_at" (mVar 0))) (mC (.int 0))) (mC (.str ""))))
def f_Reader_next_word (t : Nat → F) : F := mDef 1 1 (b_Reader_next_word t)
/-- Reader_refuse -/
def b_Reader_refuse (t : Nat → F) : MS := (sSeq (sIf (tVal (mBin fLt (mAtt "Reader" "own_at" (mVar 0)) (mCB cLen (aCons (mAtt "Reader" "own_words" (mVar 0)) aNil)))) sBad sNil)
  sBad)
def f_Reader_refuse (t : Nat → F) : F := mDef 1 1 (b_Reader_refuse t)
/-- Reader_take -/
def b_Reader_take (t : Nat → F) : MS := (sSeq (sIf (tVal (mBin fNe (mMeth "Reader" "next_word" (t 11) (mVar 0) aNil) (mVar 1))) (sDrop (mMeth "Reader" "refuse" (t 12) (mVar 0) aNil)) sNil)
  (sSeq (sAttAdd "Reader" "own_at" (mVar 0) (mC (.int 1)))
  (sRet (mBin fSub (mAtt "Reader" "own_at" (mVar 0)) (mC (.int 1))))))
def f_Reader_take (t : Nat → F) : F := mDef 2 2 (b_Reader_take t)
/-- Reader_take_name -/
def b_Reader_take_name (t : Nat → F) : MS := (sSeq (sSet 1 (mMeth "Reader" "next_word" (t 11) (mVar 0) aNil))
  (sSeq (sIf (tNot (tVal (mCB (t 1) (aCons (mVar 1) aNil)))) (sDrop (mMeth "Reader" "refuse" (t 12) (mVar 0) aNil)) sNil)
  (sSeq (sAttAdd "Reader" "own_at" (mVar 0) (mC (.int 1)))
  (sRet (mVar 1)))))
def f_Reader_take_name (t : Nat → F) : F := mDef 1 2 (b_Reader_take_name t)
/-- Reader_statements -/
def b_Reader_statements (t : Nat → F) : MS := (sSeq (sSet 1 (mLst aNil))
  (sSeq (sWhile wN (tVal (mBin fNotIn (mMeth "Reader" "next_word" (t 11) (mVar 0) aNil) (mTup (aCons (mC (.str "")) (aCons (mC (.str "}")) aNil))))) (sDrop (mMt "list" fAppend (mVar 1) (aCons (mMeth "Reader" "statement" (t 16) (mVar 0) aNil) aNil))))
  (sRet (mCB cTuple (aCons (mVar 1) aNil)))))
def f_Reader_statements (t : Nat → F) : F := mDef 1 2 (b_Reader_statements t)
/-- Reader_statement -/
def b_Reader_statement (t : Nat → F) : MS := (sSeq (sSet 1 (mMeth "Reader" "next_word" (t 11) (mVar 0) aNil))
  (sSeq (sIf (tVal (mBin fIn (mVar 1) (mTup (aCons (mC (.str "if")) (aCons (mC (.str "loop")) aNil))))) (sRet (mMeth "Reader" "branching" (t 21) (mVar 0) (aCons (mVar 1) aNil))) sNil)
  (sSeq (sIf (tVal (mBin fEq (mVar 1) (mC (.str "give")))) (sRet (mMeth "Reader" "giving" (t 18) (mVar 0) aNil)) sNil)
  (sSeq (sIf (tVal (mBin fEq (mBin fIx (mVar 1) (mC (.int 0))) (mC c_NOTE))) (sRet (mMeth "Reader" "noting" (t 17) (mVar 0) (aCons (mCB (t 5) (aCons (mVar 1) aNil)) aNil))) sNil)
  (sRet (mMeth "Reader" "setting" (t 19) (mVar 0) aNil))))))
def f_Reader_statement (t : Nat → F) : F := mDef 1 2 (b_Reader_statement t)
/-- Reader_noting -/
def b_Reader_noting (t : Nat → F) : MS := (sSeq (sIf (tNot (tVal (mCB (t 3) (aCons (mVar 1) aNil)))) (sDrop (mMeth "Reader" "refuse" (t 12) (mVar 0) aNil)) sNil)
  (sSeq (sAttAdd "Reader" "own_at" (mVar 0) (mC (.int 1)))
  (sRet (mCB (t 9) (aCons (mTup (aCons (mC (.str "note")) (aCons (mVar 1) aNil))) (aCons (mTup aNil) (aCons (mBin fSub (mAtt "Reader" "own_at" (mVar 0)) (mC (.int 1))) (aCons (mBin fSub (mAtt "Reader" "own_at" (mVar 0)) (mC (.int 1))) aNil))))))))
def f_Reader_noting (t : Nat → F) : F := mDef 2 2 (b_Reader_noting t)
/-- Reader_giving -/
def b_Reader_giving (t : Nat → F) : MS := (sSeq (sPar 1 2 (aCons (mMeth "Reader" "take" (t 13) (mVar 0) (aCons (mC (.str "give")) aNil)) (aCons (mMeth "Reader" "expression" (t 23) (mVar 0) aNil) aNil)))
  (sRet (mCB (t 9) (aCons (mTup (aCons (mC (.str "give")) aNil)) (aCons (mTup (aCons (mTup (aCons (mVar 2) aNil)) aNil)) (aCons (mVar 1) (aCons (mMeth "Reader" "take" (t 13) (mVar 0) (aCons (mC (.str ";")) aNil)) aNil)))))))
def f_Reader_giving (t : Nat → F) : F := mDef 1 3 (b_Reader_giving t)
/-- Reader_setting -/
def b_Reader_setting (t : Nat → F) : MS := (sSeq (sPar 2 3 (aCons (mAtt "Reader" "own_at" (mVar 0)) (aCons (mMeth "Reader" "take_name" (t 14) (mVar 0) aNil) aNil)))
  (sSeq (sIf (tVal (mBin fEq (mMeth "Reader" "next_word" (t 11) (mVar 0) aNil) (mC (.str "=")))) (sSeq (sDrop (mMeth "Reader" "take" (t 13) (mVar 0) (aCons (mC (.str "=")) aNil)))
  (sSeq (sSet 4 (mMeth "Reader" "expression" (t 23) (mVar 0) aNil))
  (sRet (mCB (t 9) (aCons (mTup (aCons (mC (.str "set")) (aCons (mVar 3) aNil))) (aCons (mTup (aCons (mTup (aCons (mVar 4) aNil)) aNil)) (aCons (mVar 2) (aCons (mMeth "Reader" "take" (t 13) (mVar 0) (aCons (mC (.str ";")) aNil)) aNil)))))))) sNil)
  (sSeq (sDrop (mMeth "Reader" "take" (t 13) (mVar 0) (aCons (mC (.str "(")) aNil)))
  (sSeq (sSet 1 (mMeth "Reader" "expressions" (t 22) (mVar 0) (aCons (mC (.str ")")) aNil)))
  (sSeq (sDrop (mMeth "Reader" "take" (t 13) (mVar 0) (aCons (mC (.str ")")) aNil)))
  (sRet (mCB (t 9) (aCons (mTup (aCons (mC (.str "run")) (aCons (mVar 3) aNil))) (aCons (mTup (aCons (mVar 1) aNil)) (aCons (mVar 2) (aCons (mMeth "Reader" "take" (t 13) (mVar 0) (aCons (mC (.str ";")) aNil)) aNil)))))))))))
def f_Reader_setting (t : Nat → F) : F := mDef 1 5 (b_Reader_setting t)
/-- Reader_block -/
def b_Reader_block (t : Nat → F) : MS := (sSeq (sDrop (mMeth "Reader" "take" (t 13) (mVar 0) (aCons (mC (.str "{")) aNil)))
  (sRet (mTup (aCons (mMeth "Reader" "statements" (t 15) (mVar 0) aNil) (aCons (mMeth "Reader" "take" (t 13) (mVar 0) (aCons (mC (.str "}")) aNil)) aNil)))))
def f_Reader_block (t : Nat → F) : F := mDef 1 1 (b_Reader_block t)
/-- Reader_branching -/
def b_Reader_branching (t : Nat → F) : MS := (sSeq (sPar 3 4 (aCons (mMeth "Reader" "take" (t 13) (mVar 0) (aCons (mVar 1) aNil)) (aCons (mMeth "Reader" "expression" (t 23) (mVar 0) aNil) aNil)))
  (sSeq (sAsg (.tp [(.nm 5), (.nm 6)]) (mMeth "Reader" "block" (t 20) (mVar 0) aNil))
  (sSeq (sIf (tVal (mBin fEq (mVar 1) (mC (.str "loop")))) (sRet (mCB (t 9) (aCons (mTup (aCons (mVar 1) aNil)) (aCons (mTup (aCons (mTup (aCons (mVar 4) aNil)) (aCons (mVar 5) aNil))) (aCons (mVar 3) (aCons (mVar 6) aNil)))))) sNil)
  (sSeq (sSet 2 (mTup aNil))
  (sSeq (sIf (tVal (mBin fEq (mMeth "Reader" "next_word" (t 11) (mVar 0) aNil) (mC (.str "else")))) (sSeq (sSet 7 (mMeth "Reader" "take" (t 13) (mVar 0) (aCons (mC (.str "else")) aNil)))
  (sSeq (sAsg (.tp [(.nm 8), (.nm 6)]) (mMeth "Reader" "block" (t 20) (mVar 0) aNil))
  (sSet 2 (mTup (aCons (mCB (t 9) (aCons (mTup (aCons (mC (.str "else")) aNil)) (aCons (mTup (aCons (mVar 8) aNil)) (aCons (mVar 7) (aCons (mVar 6) aNil))))) aNil))))) sNil)
  (sRet (mCB (t 9) (aCons (mTup (aCons (mVar 1) aNil)) (aCons (mTup (aCons (mTup (aCons (mVar 4) aNil)) (aCons (mVar 5) (aCons (mVar 2) aNil)))) (aCons (mVar 3) (aCons (mVar 6) aNil)))))))))))
def f_Reader_branching (t : Nat → F) : F := mDef 2 9 (b_Reader_branching t)
/-- Reader_expressions -/
def b_Reader_expressions (t : Nat → F) : MS := (sSeq (sSet 2 (mLst aNil))
  (sSeq (sWhile wN (tVal (mBin fNe (mMeth "Reader" "next_word" (t 11) (mVar 0) aNil) (mVar 1))) (sSeq (sDrop (mMt "list" fAppend (mVar 2) (aCons (mMeth "Reader" "expression" (t 23) (mVar 0) aNil) aNil)))
  (sIf (tVal (mBin fNe (mMeth "Reader" "next_word" (t 11) (mVar 0) aNil) (mVar 1))) (sDrop (mMeth "Reader" "take" (t 13) (mVar 0) (aCons (mC (.str ",")) aNil))) sNil)))
  (sRet (mCB cTuple (aCons (mVar 2) aNil)))))
def f_Reader_expressions (t : Nat → F) : F := mDef 2 3 (b_Reader_expressions t)
/-- Reader_expression -/
def b_Reader_expression (t : Nat → F) : MS := (sSeq (sSet 1 (mMeth "Reader" "term" (t 24) (mVar 0) aNil))
  (sSeq (sSet 2 (mLst (aCons (mCB (t 9) (aCons (mTup (aCons (mC (.str "plus")) aNil)) (aCons (mTup (aCons (mTup (aCons (mVar 1) aNil)) aNil)) (aCons (mBin fIx (mVar 1) (mC (.int 2))) (aCons (mBin fIx (mVar 1) (mC (.int 3))) aNil))))) aNil)))
  (sSeq (sWhile wN (tVal (mBin fIn (mMeth "Reader" "next_word" (t 11) (mVar 0) aNil) (mTup (aCons (mC c_PLUS) (aCons (mC c_MINUS) aNil))))) (sSeq (sSet 3 (mIf (tVal (mBin fEq (mMeth "Reader" "next_word" (t 11) (mVar 0) aNil) (mC c_PLUS))) (mC (.str "plus")) (mC (.str "minus"))))
  (sSeq (sSet 4 (mMeth "Reader" "take" (t 13) (mVar 0) (aCons (mMeth "Reader" "next_word" (t 11) (mVar 0) aNil) aNil)))
  (sSeq (sSet 5 (mMeth "Reader" "term" (t 24) (mVar 0) aNil))
  (sDrop (mMt "list" fAppend (mVar 2) (aCons (mCB (t 9) (aCons (mTup (aCons (mVar 3) aNil)) (aCons (mTup (aCons (mTup (aCons (mVar 5) aNil)) aNil)) (aCons (mVar 4) (aCons (mBin fIx (mVar 5) (mC (.int 3))) aNil))))) aNil)))))))
  (sRet (mIf (tVal (mBin fEq (mCB cLen (aCons (mVar 2) aNil)) (mC (.int 1)))) (mVar 1) (mCB (t 9) (aCons (mTup (aCons (mC (.str "sum")) aNil)) (aCons (mTup (aCons (mCB cTuple (aCons (mVar 2) aNil)) aNil)) (aCons (mBin fIx (mVar 1) (mC (.int 2))) (aCons (mBin fIx (mBin fIx (mVar 2) (mUn fNeg (mC (.int 1)))) (mC (.int 3))) aNil))))))))))
def f_Reader_expression (t : Nat → F) : F := mDef 1 6 (b_Reader_expression t)
/-- Reader_term -/
def b_Reader_term (t : Nat → F) : MS := (sSeq (sPar 3 4 (aCons (mMeth "Reader" "next_word" (t 11) (mVar 0) aNil) (aCons (mAtt "Reader" "own_at" (mVar 0)) aNil)))
  (sSeq (sIf (tVal (mBin fEq (mVar 3) (mC (.str "(")))) (sSeq (sDrop (mMeth "Reader" "take" (t 13) (mVar 0) (aCons (mVar 3) aNil)))
  (sSeq (sSet 5 (mMeth "Reader" "expression" (t 23) (mVar 0) aNil))
  (sRet (mCB (t 9) (aCons (mTup (aCons (mC (.str "in")) aNil)) (aCons (mTup (aCons (mTup (aCons (mVar 5) aNil)) aNil)) (aCons (mVar 4) (aCons (mMeth "Reader" "take" (t 13) (mVar 0) (aCons (mC (.str ")")) aNil)) aNil)))))))) sNil)
  (sSeq (sIf (tVal (mBin fEq (mVar 3) (mC (.str "[")))) (sSeq (sDrop (mMeth "Reader" "take" (t 13) (mVar 0) (aCons (mVar 3) aNil)))
  (sSeq (sSet 2 (mMeth "Reader" "expressions" (t 22) (mVar 0) (aCons (mC (.str "]")) aNil)))
  (sRet (mCB (t 9) (aCons (mTup (aCons (mC (.str "list")) aNil)) (aCons (mTup (aCons (mVar 2) aNil)) (aCons (mVar 4) (aCons (mMeth "Reader" "take" (t 13) (mVar 0) (aCons (mC (.str "]")) aNil)) aNil)))))))) sNil)
  (sSeq (sIf (tVal (mCB (t 2) (aCons (mVar 3) aNil))) (sRet (mCB (t 9) (aCons (mTup (aCons (mC (.str "number")) (aCons (mVar 3) aNil))) (aCons (mTup aNil) (aCons (mVar 4) (aCons (mMeth "Reader" "take" (t 13) (mVar 0) (aCons (mVar 3) aNil)) aNil)))))) sNil)
  (sSeq (sSet 1 (mMeth "Reader" "take_name" (t 14) (mVar 0) aNil))
  (sSeq (sIf (tVal (mBin fNe (mMeth "Reader" "next_word" (t 11) (mVar 0) aNil) (mC (.str "(")))) (sRet (mCB (t 9) (aCons (mTup (aCons (mC (.str "name")) (aCons (mVar 1) aNil))) (aCons (mTup aNil) (aCons (mVar 4) (aCons (mVar 4) aNil)))))) sNil)
  (sSeq (sDrop (mMeth "Reader" "take" (t 13) (mVar 0) (aCons (mC (.str "(")) aNil)))
  (sSeq (sSet 2 (mMeth "Reader" "expressions" (t 22) (mVar 0) (aCons (mC (.str ")")) aNil)))
  (sRet (mCB (t 9) (aCons (mTup (aCons (mC (.str "call")) (aCons (mVar 1) aNil))) (aCons (mTup (aCons (mVar 2) aNil)) (aCons (mVar 4) (aCons (mMeth "Reader" "take" (t 13) (mVar 0) (aCons (mC (.str ")")) aNil)) aNil))))))))))))))
def f_Reader_term (t : Nat → F) : F := mDef 1 6 (b_Reader_term t)
/-- nodes_of -/
def b_nodes_of (t : Nat → F) : MS := (sSeq (sIf (tNot (tVal (mIsi "str" (mVar 0)))) sBad sNil)
  (sSeq (sSet 1 (mMake "Reader" (t 10) (aCons (mVar 0) aNil)))
  (sSeq (sSet 2 (mMeth "Reader" "statements" (t 15) (mVar 1) aNil))
  (sSeq (sIf (tVal (mBin fNe (mMeth "Reader" "next_word" (t 11) (mVar 1) aNil) (mC (.str "")))) (sDrop (mMeth "Reader" "refuse" (t 12) (mVar 1) aNil)) sNil)
  (sRet (mTup (aCons (mVar 2) (aCons (mAtt "Reader" "own_words" (mVar 1)) aNil))))))))
def f_nodes_of (t : Nat → F) : F := mDef 1 3 (b_nodes_of t)
/-- parts_of -/
def b_parts_of (t : Nat → F) : MS := (sRet (mCB cTuple (aCons (mComp (iVal (mVar 0)) (.tp [(.nm 1), (.nm 2), (.nm 3), (.nm 4)]) tYesM (mTup (aCons (mVar 1) (aCons (mCB cTuple (aCons (mComp (iVal (mVar 2)) (.nm 5) tYesM (mCB (t 26) (aCons (mVar 5) aNil)) [5]) aNil)) aNil))) [1, 2, 3, 4]) aNil)))
def f_parts_of (t : Nat → F) : F := mDef 1 6 (b_parts_of t)
/-- read -/
def b_read (t : Nat → F) : MS := (sSeq (sAsg (.tp [(.nm 1), (.nm 2)]) (mCB (t 25) (aCons (mVar 0) aNil)))
  (sRet (mCB (t 26) (aCons (mVar 1) aNil))))
def f_read (t : Nat → F) : F := mDef 1 3 (b_read t)
/-- is_label -/
def b_is_label (t : Nat → F) : MS := (sSeq (sIf (tVal (mBin fIn (mBin fIx (mVar 0) (mC (.int 0))) (mC c_NAMED))) (sRet (mAnd (mBin fEq (mCB cLen (aCons (mVar 0) aNil)) (mC c_PAIR)) (mCB (t 1) (aCons (mBin fIx (mVar 0) (mC (.int 1))) aNil)))) sNil)
  (sSeq (sIf (tVal (mBin fEq (mBin fIx (mVar 0) (mC (.int 0))) (mC (.str "number")))) (sRet (mAnd (mBin fEq (mCB cLen (aCons (mVar 0) aNil)) (mC c_PAIR)) (mCB (t 2) (aCons (mBin fIx (mVar 0) (mC (.int 1))) aNil)))) sNil)
  (sSeq (sIf (tVal (mBin fEq (mBin fIx (mVar 0) (mC (.int 0))) (mC (.str "note")))) (sRet (mAnd (mBin fEq (mCB cLen (aCons (mVar 0) aNil)) (mC c_PAIR)) (mCB (t 3) (aCons (mBin fIx (mVar 0) (mC (.int 1))) aNil)))) sNil)
  (sRet (mBin fEq (mCB cLen (aCons (mVar 0) aNil)) (mC (.int 1)))))))
def f_is_label (t : Nat → F) : F := mDef 1 1 (b_is_label t)
/-- is_part -/
def b_is_part (t : Nat → F) : MS := (sSeq (sIf (tOr (tNot (tVal (mIsi "tuple" (mVar 0)))) (tVal (mBin fNe (mCB cLen (aCons (mVar 0) aNil)) (mC c_PAIR)))) (sRet (mC (.bl false))) sNil)
  (sSeq (sAsg (.tp [(.nm 3), (.nm 4)]) (mVar 0))
  (sSeq (sIf (tOr (tNot (tVal (mIsi "tuple" (mVar 3)))) (tOr (tVal (mBin fEq (mVar 3) (mTup aNil))) (tOr (tVal (mBin fNotIn (mBin fIx (mVar 3) (mC (.int 0))) (mVar 1))) (tNot (tVal (mCB (t 28) (aCons (mVar 3) aNil))))))) (sRet (mC (.bl false))) sNil)
  (sSeq (sSet 2 (mTab t_LOTS (mBin fIx (mVar 3) (mC (.int 0)))))
  (sSeq (sIf (tOr (tNot (tVal (mIsi "tuple" (mVar 4)))) (tVal (mBin fNe (mCB cLen (aCons (mVar 4) aNil)) (mCB cLen (aCons (mVar 2) aNil))))) (sRet (mC (.bl false))) sNil)
  (sRet (mCB cAll (aCons (mComp (iZip2 (aCons (mVar 4) (aCons (mVar 2) aNil))) (.tp [(.nm 5), (.nm 6)]) tYesM (mCB (t 30) (aCons (mVar 5) (aCons (mVar 6) aNil))) [5, 6]) aNil))))))))
def f_is_part (t : Nat → F) : F := mDef 2 7 (b_is_part t)
/-- is_lot -/
def b_is_lot (t : Nat → F) : MS := (sSeq (sAsg (.tp [(.nm 2), (.nm 3), (.nm 4)]) (mTab t_FORMS (mVar 1)))
  (sSeq (sIf (tOr (tNot (tVal (mIsi "tuple" (mVar 0)))) (tOr (tVal (mBin fLt (mCB cLen (aCons (mVar 0) aNil)) (mVar 3))) (tAnd (tVal (mBin fNotN (mVar 4) (mC .non))) (tVal (mBin fGt (mCB cLen (aCons (mVar 0) aNil)) (mVar 4)))))) (sRet (mC (.bl false))) sNil)
  (sSeq (sIf (tNot (tVal (mCB cAll (aCons (mComp (iVal (mVar 0)) (.nm 5) tYesM (mCB (t 29) (aCons (mVar 5) (aCons (mVar 2) aNil))) [5]) aNil)))) (sRet (mC (.bl false))) sNil)
  (sRet (mOr (mBin fNe (mVar 1) (mC c_ADDED)) (mBin fEq (mBin fIx (mBin fIx (mVar 0) (mC (.int 0))) (mC (.int 0))) (mTup (aCons (mC (.str "plus")) aNil))))))))
def f_is_lot (t : Nat → F) : F := mDef 2 6 (b_is_lot t)
/-- is_tree -/
def b_is_tree (t : Nat → F) : MS := (sRet (mCB (t 30) (aCons (mVar 0) (aCons (mC c_BLOCK) aNil))))
def f_is_tree (t : Nat → F) : F := mDef 1 1 (b_is_tree t)
/-- check_tree -/
def b_check_tree (t : Nat → F) : MS := (sIf (tNot (tVal (mCB (t 31) (aCons (mVar 0) aNil)))) sBad sNil)
def f_check_tree (t : Nat → F) : F := mDef 1 1 (b_check_tree t)
/-- lot_at -/
def b_lot_at (t : Nat → F) : MS := (sSeq (sSet 2 (mVar 0))
  (sSeq (sFor (iRange3 (aCons (mC (.int 0)) (aCons (mCB cLen (aCons (mVar 1) aNil)) (aCons (mC c_PAIR) aNil)))) (.nm 3) (sSet 2 (mBin fIx (mBin fIx (mBin fIx (mVar 2) (mBin fIx (mVar 1) (mVar 3))) (mC (.int 1))) (mBin fIx (mVar 1) (mBin fAdd (mVar 3) (mC (.int 1)))))))
  (sRet (mVar 2))))
def f_lot_at (t : Nat → F) : F := mDef 2 4 (b_lot_at t)
/-- leads -/
def b_leads (t : Nat → F) : MS := (sSeq (sIf (tOr (tNot (tVal (mIsi "tuple" (mVar 1)))) (tVal (mBin fNe (mBin fMod (mCB cLen (aCons (mVar 1) aNil)) (mC c_PAIR)) (mC (.int 1))))) (sRet (mC (.bl false))) sNil)
  (sSeq (sPar 2 3 (aCons (mVar 0) (aCons (mC .non) aNil)))
  (sSeq (sFor (iEnum2 (aCons (mVar 1) aNil)) (.tp [(.nm 4), (.nm 5)]) (sSeq (sSet 6 (mIf (tVal (mBin fEq (mBin fMod (mVar 4) (mC c_PAIR)) (mC (.int 0)))) (mVar 2) (mBin fIx (mVar 3) (mC (.int 1)))))
  (sSeq (sIf (tNot (tVal (mCB (t 4) (aCons (mVar 5) (aCons (mC (.int 0)) (aCons (mBin fSub (mCB cLen (aCons (mVar 6) aNil)) (mC (.int 1))) aNil)))))) (sRet (mC (.bl false))) sNil)
  (sIf (tVal (mBin fEq (mBin fMod (mVar 4) (mC c_PAIR)) (mC (.int 0)))) (sSet 3 (mBin fIx (mVar 6) (mVar 5))) (sSet 2 (mBin fIx (mVar 6) (mVar 5)))))))
  (sRet (mC (.bl true))))))
def f_leads (t : Nat → F) : F := mDef 2 7 (b_leads t)
/-- part_at -/
def b_part_at (t : Nat → F) : MS := (sSeq (sDrop (mCB (t 32) (aCons (mVar 0) aNil)))
  (sSeq (sIf (tNot (tVal (mCB (t 34) (aCons (mVar 0) (aCons (mVar 1) aNil))))) sBad sNil)
  (sRet (mBin fIx (mCB (t 33) (aCons (mVar 0) (aCons (mSl (mVar 1) oNone (oSome (mUn fNeg (mC (.int 1))))) aNil))) (mBin fIx (mVar 1) (mUn fNeg (mC (.int 1))))))))
def f_part_at (t : Nat → F) : F := mDef 2 2 (b_part_at t)
/-- w_pot -/
def b_w_pot (t : Nat → F) : MS := (sSeq (sSet 2 (mIf (tVal (mBin fLt (mVar 1) (mCB cLen (aCons (mVar 0) aNil)))) (mBin fIx (mVar 0) (mVar 1)) (mBin fAdd (mBin fMul (mC (.int 47)) (mVar 1)) (mC (.int 23)))))
  (sSeq (sSet 3 (mBin fMul (mBin fMod (mCB cInt (aCons (mCB cAbs (aCons (mVar 2) aNil)) aNil)) (mBin fPow (mBin fPow (mC (.int 10)) (mC (.int 60))) (mC (.int 5)))) (mCB cInt (aCons (mBin fGe (mCB cAbs (aCons (mVar 2) aNil)) (mBin fPow (mC (.int 10)) (mC (.int 18)))) aNil))))
  (sRet (mLst (aCons (mVar 3) (aCons (mBin fMod (mCB cInt (aCons (mBin fAdd (mBin fAdd (mBin fMul (mBin fMod (mCB cInt (aCons (mVar 2) aNil)) (mC (.int 2305843009213693951))) (mC (.int 70991))) (mBin fMul (mBin fMul (mC (.int 5323)) (mVar 1)) (mVar 1))) (mC (.int 71))) aNil)) (mC (.int 2305843009213693921))) (aCons (mC (.int 0)) aNil)))))))
def f_w_pot (t : Nat → F) : F := mDef 2 4 (b_w_pot t)
/-- w_take -/
def b_w_take (t : Nat → F) : MS := (sSeq (sIf (tVal (mBin fGt (mBin fIx (mVar 0) (mC (.int 0))) (mC (.int 0)))) (sSeq (sSet 4 (mBin fMod (mCB cInt (aCons (mBin fIx (mVar 0) (mC (.int 0))) aNil)) (mVar 1)))
  (sSeq (sPut (mVar 0) (mC (.int 0)) (mBin fDiv (mBin fIx (mVar 0) (mC (.int 0))) (mVar 1)))
  (sRet (mVar 4)))) sNil)
  (sSeq (sPut (mVar 0) (mC (.int 2)) (mBin fAdd (mBin fIx (mVar 0) (mC (.int 2))) (mC (.int 1))))
  (sSeq (sSet 2 (mBin fIx (mLst (aCons (mC (.int 2147483647)) (aCons (mC (.int 2147483629)) (aCons (mC (.int 2147483587)) (aCons (mC (.int 2147483579)) (aCons (mC (.int 2147483563)) aNil)))))) (mBin fMod (mCB cInt (aCons (mBin fIx (mVar 0) (mC (.int 2))) aNil)) (mC (.int 5)))))
  (sSeq (sSet 3 (mBin fMod (mCB cInt (aCons (mBin fPow (mCB cInt (aCons (mBin fAdd (mBin fAdd (mBin fIx (mVar 0) (mC (.int 1))) (mBin fMul (mBin fMul (mC (.int 99991)) (mBin fIx (mVar 0) (mC (.int 2)))) (mBin fIx (mVar 0) (mC (.int 2))))) (mC (.int 41))) aNil)) (mC (.int 3))) aNil)) (mVar 2)))
  (sSeq (sSet 3 (mBin fMod (mCB cInt (aCons (mBin fMul (mVar 3) (mBin fAdd (mBin fMod (mCB cInt (aCons (mVar 3) aNil)) (mC (.int 10009))) (mBin fMul (mC (.int 83)) (mBin fIx (mVar 0) (mC (.int 2)))))) aNil)) (mC (.int 2305843009213693907))))
  (sRet (mBin fMod (mCB cInt (aCons (mBin fDiv (mVar 3) (mC (.int 109))) aNil)) (mVar 1))))))))
def f_w_take (t : Nat → F) : F := mDef 2 5 (b_w_take t)
/-- w_of -/
def b_w_of (t : Nat → F) : MS := (sRet (mBin fIx (mVar 1) (mCB (t 37) (aCons (mVar 0) (aCons (mCB cLen (aCons (mVar 1) aNil)) aNil)))))
def f_w_of (t : Nat → F) : F := mDef 2 2 (b_w_of t)
/-- w_trails -/
def b_w_trails (t : Nat → F) : MS := (sSeq (sSet 2 (mLst aNil))
  (sSeq (sFor (iEnum2 (aCons (mVar 0) aNil)) (.tp [(.nm 3), (.nm 4)]) (sSeq (sDrop (mMt "list" fAppend (mVar 2) (aCons (mTup (aCons (mBin fAdd (mVar 1) (mTup (aCons (mVar 3) aNil))) (aCons (mVar 4) aNil))) aNil)))
  (sFor (iEnum2 (aCons (mBin fIx (mVar 4) (mC (.int 1))) aNil)) (.tp [(.nm 5), (.nm 6)]) (sDrop (mMt "list" fExtend (mVar 2) (aCons (mCB (t 39) (aCons (mVar 6) (aCons (mBin fAdd (mVar 1) (mTup (aCons (mVar 3) (aCons (mVar 5) aNil)))) aNil))) aNil))))))
  (sRet (mVar 2))))
def f_w_trails (t : Nat → F) : F := mDef 2 7 (b_w_trails t)
/-- w_letters -/
def b_w_letters (t : Nat → F) : MS := (sSeq (sSet 2 (mC (.str "abcdefghijklmnopqrstuvwxyz")))
  (sRet (mBin fAdd (mMt "str" fJoin (mC (.str "")) (aCons (mComp (iRange1 (aCons (mCB (t 37) (aCons (mVar 0) (aCons (mC (.int 7)) aNil))) aNil)) (.nm 3) tYesM (mCB (t 38) (aCons (mVar 0) (aCons (mVar 2) aNil))) [3]) aNil)) (mVar 1))))
def f_w_letters (t : Nat → F) : F := mDef 2 4 (b_w_letters t)
/-- w_rows -/
def b_w_rows (t : Nat → F) : MS := (sSeq (sAsg (.tp [(.nm 11), (.nm 12), (.nm 13), (.nm 14)]) (mVar 0))
  (sSeq (sPar3 15 16 17 (aCons (mTup (aCons (mTup (aCons (mC (.str "name")) (aCons (mVar 12) aNil))) (aCons (mTup aNil) aNil))) (aCons (mTup (aCons (mTup (aCons (mC (.str "name")) (aCons (mVar 13) aNil))) (aCons (mTup aNil) aNil))) (aCons (mTup (aCons (mTup (aCons (mC (.str "number")) (aCons (mVar 1) aNil))) (aCons (mTup aNil) aNil))) aNil))))
  (sSeq (sSet 3 (mTup (aCons (mTup (aCons (mC (.str "sum")) aNil)) (aCons (mTup (aCons (mTup (aCons (mTup (aCons (mTup (aCons (mC (.str "plus")) aNil)) (aCons (mTup (aCons (mTup (aCons (mVar 15) aNil)) aNil)) aNil))) (aCons (mTup (aCons (mTup (aCons (mC (.str "minus")) aNil)) (aCons (mTup (aCons (mTup (aCons (mVar 17) aNil)) aNil)) aNil))) (aCons (mTup (aCons (mTup (aCons (mC (.str "plus")) aNil)) (aCons (mTup (aCons (mTup (aCons (mVar 16) aNil)) aNil)) aNil))) aNil)))) aNil)) aNil))))
  (sSeq (sSet 4 (mTup (aCons (mTup (aCons (mC (.str "in")) aNil)) (aCons (mTup (aCons (mTup (aCons (mVar 3) aNil)) aNil)) aNil))))
  (sSeq (sPar3 18 19 20 (aCons (mTup (aCons (mTup (aCons (mC (.str "call")) (aCons (mVar 14) aNil))) (aCons (mTup (aCons (mTup (aCons (mVar 15) (aCons (mVar 17) aNil))) aNil)) aNil))) (aCons (mTup (aCons (mTup (aCons (mC (.str "list")) aNil)) (aCons (mTup (aCons (mTup (aCons (mVar 16) aNil)) aNil)) aNil))) (aCons (mTup (aCons (mTup (aCons (mC (.str "call")) (aCons (mVar 11) aNil))) (aCons (mTup (aCons (mTup aNil) aNil)) aNil))) aNil))))
  (sSeq (sSet 5 (mLst (aCons (mTup (aCons (mBin fAdd (mBin fAdd (mBin fAdd (mVar 11) (mC (.str " = "))) (mVar 12)) (mC (.str ";"))) (aCons (mTup (aCons (mTup (aCons (mC (.str "set")) (aCons (mVar 11) aNil))) (aCons (mTup (aCons (mTup (aCons (mVar 15) aNil)) aNil)) aNil))) aNil))) (aCons (mTup (aCons (mBin fAdd (mBin fAdd (mC (.str "give ")) (mVar 1)) (mC (.str ";"))) (aCons (mTup (aCons (mTup (aCons (mC (.str "give")) aNil)) (aCons (mTup (aCons (mTup (aCons (mVar 17) aNil)) aNil)) aNil))) aNil))) aNil))))
  (sSeq (sDrop (mMt "list" fAppend (mVar 5) (aCons (mTup (aCons (mBin fAdd (mVar 11) (mC (.str "();"))) (aCons (mTup (aCons (mTup (aCons (mC (.str "run")) (aCons (mVar 11) aNil))) (aCons (mTup (aCons (mTup aNil) aNil)) aNil))) aNil))) aNil)))
  (sSeq (sDrop (mMt "list" fAppend (mVar 5) (aCons (mTup (aCons (mBin fAdd (mBin fAdd (mBin fAdd (mBin fAdd (mBin fAdd (mVar 11) (mC (.str "("))) (mVar 12)) (mC (.str ", "))) (mVar 1)) (mC (.str ",);"))) (aCons (mTup (aCons (mTup (aCons (mC (.str "run")) (aCons (mVar 11) aNil))) (aCons (mTup (aCons (mTup (aCons (mVar 15) (aCons (mVar 17) aNil))) aNil)) aNil))) aNil))) aNil)))
  (sSeq (sDrop (mMt "list" fAppend (mVar 5) (aCons (mTup (aCons (mBin fAdd (mBin fAdd (mBin fAdd (mBin fAdd (mBin fAdd (mBin fAdd (mBin fAdd (mVar 11) (mC (.str "="))) (mVar 12)) (mC (.str "-"))) (mVar 1)) (mC (.str "+"))) (mVar 13)) (mC (.str ";"))) (aCons (mTup (aCons (mTup (aCons (mC (.str "set")) (aCons (mVar 11) aNil))) (aCons (mTup (aCons (mTup (aCons (mVar 3) aNil)) aNil)) aNil))) aNil))) aNil)))
  (sSeq (sDrop (mMt "list" fAppend (mVar 5) (aCons (mTup (aCons (mBin fAdd (mBin fAdd (mBin fAdd (mBin fAdd (mBin fAdd (mBin fAdd (mC (.str "give(")) (mVar 12)) (mC (.str " - "))) (mVar 1)) (mC (.str " + "))) (mVar 13)) (mC (.str ");"))) (aCons (mTup (aCons (mTup (aCons (mC (.str "give")) aNil)) (aCons (mTup (aCons (mTup (aCons (mVar 4) aNil)) aNil)) aNil))) aNil))) aNil)))
  (sSeq (sSet 6 (mBin fAdd (mBin fAdd (mBin fAdd (mBin fAdd (mBin fAdd (mVar 14) (mC (.str "("))) (mVar 12)) (mC (.str ","))) (mVar 1)) (mC (.str ")"))))
  (sSeq (sSet 7 (mTup (aCons (mTup (aCons (mC (.str "sum")) aNil)) (aCons (mTup (aCons (mTup (aCons (mTup (aCons (mTup (aCons (mC (.str "plus")) aNil)) (aCons (mTup (aCons (mTup (aCons (mVar 18) aNil)) aNil)) aNil))) (aCons (mTup (aCons (mTup (aCons (mC (.str "minus")) aNil)) (aCons (mTup (aCons (mTup (aCons (mVar 4) aNil)) aNil)) aNil))) (aCons (mTup (aCons (mTup (aCons (mC (.str "minus")) aNil)) (aCons (mTup (aCons (mTup (aCons (mVar 19) aNil)) aNil)) aNil))) aNil)))) aNil)) aNil))))
  (sSeq (sSet 8 (mBin fAdd (mBin fAdd (mBin fAdd (mBin fAdd (mBin fAdd (mBin fAdd (mBin fAdd (mBin fAdd (mBin fAdd (mBin fAdd (mC (.str "give ")) (mVar 6)) (mC (.str "-("))) (mVar 12)) (mC (.str "-"))) (mVar 1)) (mC (.str "+"))) (mVar 13)) (mC (.str ")-["))) (mVar 13)) (mC (.str "];"))))
  (sSeq (sDrop (mMt "list" fAppend (mVar 5) (aCons (mTup (aCons (mVar 8) (aCons (mTup (aCons (mTup (aCons (mC (.str "give")) aNil)) (aCons (mTup (aCons (mTup (aCons (mVar 7) aNil)) aNil)) aNil))) aNil))) aNil)))
  (sSeq (sDrop (mMt "list" fAppend (mVar 5) (aCons (mTup (aCons (mBin fAdd (mBin fAdd (mC (.str "loop ")) (mVar 11)) (mC (.str "() { }"))) (aCons (mTup (aCons (mTup (aCons (mC (.str "loop")) aNil)) (aCons (mTup (aCons (mTup (aCons (mVar 20) aNil)) (aCons (mTup aNil) aNil))) aNil))) aNil))) aNil)))
  (sSeq (sDrop (mMt "list" fAppend (mVar 5) (aCons (mTup (aCons (mC (.str "if [] {}")) (aCons (mTup (aCons (mTup (aCons (mC (.str "if")) aNil)) (aCons (mTup (aCons (mTup (aCons (mTup (aCons (mTup (aCons (mC (.str "list")) aNil)) (aCons (mTup (aCons (mTup aNil) aNil)) aNil))) aNil)) (aCons (mTup aNil) (aCons (mTup aNil) aNil)))) aNil))) aNil))) aNil)))
  (sSeq (sSet 9 (mTup (aCons (mTup (aCons (mC (.str "else")) aNil)) (aCons (mTup (aCons (mTup (aCons (mTup (aCons (mTup (aCons (mC (.str "note")) (aCons (mVar 2) aNil))) (aCons (mTup aNil) aNil))) (aCons (mTup (aCons (mTup (aCons (mC (.str "give")) aNil)) (aCons (mTup (aCons (mTup (aCons (mVar 17) aNil)) aNil)) aNil))) aNil))) aNil)) aNil))))
  (sSeq (sSet 8 (mBin fAdd (mBin fAdd (mBin fAdd (mBin fAdd (mBin fAdd (mBin fAdd (mBin fAdd (mBin fAdd (mC (.str "if ")) (mVar 12)) (mC (.str " {"))) (mVar 11)) (mC (.str "();} else {#"))) (mVar 2)) (mC (.str " \ngive "))) (mVar 1)) (mC (.str ";}"))))
  (sSeq (sDrop (mMt "list" fAppend (mVar 5) (aCons (mTup (aCons (mVar 8) (aCons (mTup (aCons (mTup (aCons (mC (.str "if")) aNil)) (aCons (mTup (aCons (mTup (aCons (mVar 15) aNil)) (aCons (mTup (aCons (mTup (aCons (mTup (aCons (mC (.str "run")) (aCons (mVar 11) aNil))) (aCons (mTup (aCons (mTup aNil) aNil)) aNil))) aNil)) (aCons (mTup (aCons (mVar 9) aNil)) aNil)))) aNil))) aNil))) aNil)))
  (sSeq (sSet 10 (mTup (aCons (mTup (aCons (mC (.str "if")) aNil)) (aCons (mTup (aCons (mTup (aCons (mVar 16) aNil)) (aCons (mTup aNil) (aCons (mTup (aCons (mTup (aCons (mTup (aCons (mC (.str "else")) aNil)) (aCons (mTup (aCons (mTup aNil) aNil)) aNil))) aNil)) aNil)))) aNil))))
  (sSeq (sSet 8 (mBin fAdd (mBin fAdd (mBin fAdd (mBin fAdd (mC (.str "if ")) (mVar 12)) (mC (.str " { if "))) (mVar 13)) (mC (.str " {} else {} }"))))
  (sSeq (sDrop (mMt "list" fAppend (mVar 5) (aCons (mTup (aCons (mVar 8) (aCons (mTup (aCons (mTup (aCons (mC (.str "if")) aNil)) (aCons (mTup (aCons (mTup (aCons (mVar 15) aNil)) (aCons (mTup (aCons (mVar 10) aNil)) (aCons (mTup aNil) aNil)))) aNil))) aNil))) aNil)))
  (sRet (mBin fAdd (mVar 5) (mLst (aCons (mTup (aCons (mBin fAdd (mC (.str "# ")) (mVar 2)) (aCons (mTup (aCons (mTup (aCons (mC (.str "note")) (aCons (mVar 2) aNil))) (aCons (mTup aNil) aNil))) aNil))) aNil))))))))))))))))))))))))))
def f_w_rows (t : Nat → F) : F := mDef 3 21 (b_w_rows t)
/-- w_right -/
def b_w_right (t : Nat → F) : MS := (sSeq (sSet 1 (mComp (iVal (mC (.str "xyzw"))) (.nm 8) tYesM (mCB (t 40) (aCons (mVar 0) (aCons (mVar 8) aNil))) [8]))
  (sSeq (sSet 2 (mCB (t 38) (aCons (mVar 0) (aCons (mLst (aCons (mC (.str "0")) (aCons (mBin fMulS (mC (.str "1")) (mBin fAdd (mC (.int 1)) (mCB (t 37) (aCons (mVar 0) (aCons (mC (.int 6)) aNil))))) (aCons (mCB cStr (aCons (mBin fAdd (mC (.int 1)) (mCB (t 37) (aCons (mVar 0) (aCons (mC (.int 999999)) aNil)))) aNil)) aNil)))) aNil))))
  (sSeq (sSet 3 (mMt "str" fStripC (mMt "str" fJoin (mC (.str "")) (aCons (mComp (iRange1 (aCons (mCB (t 37) (aCons (mVar 0) (aCons (mC (.int 41)) aNil))) aNil)) (.nm 11) tYesM (mCB (t 38) (aCons (mVar 0) (aCons (mC (.str "abc019 ")) aNil))) [11]) aNil)) (aCons (mC (.str " ")) aNil)))
  (sSeq (sPar 4 5 (aCons (mCB (t 41) (aCons (mVar 1) (aCons (mVar 2) (aCons (mVar 3) aNil)))) (aCons (mTup aNil) aNil)))
  (sSeq (sFor (iVal (mVar 4)) (.tp [(.nm 6), (.nm 7)]) (sSeq (sIf (tOr (tVal (mBin fNe (mCB cRepr (aCons (mCB (t 27) (aCons (mVar 6) aNil)) aNil)) (mCB cRepr (aCons (mTup (aCons (mVar 7) aNil)) aNil)))) (tVal (mBin fNotB (mCB (t 31) (aCons (mTup (aCons (mVar 7) aNil)) aNil)) (mC (.bl true))))) (sRet (mC (.bl false))) sNil)
  (sSeq (sFor (iVal (mCB (t 39) (aCons (mTup (aCons (mVar 7) aNil)) (aCons (mTup aNil) aNil)))) (.tp [(.nm 9), (.nm 10)]) (sIf (tVal (mBin fNe (mCB cRepr (aCons (mCB (t 35) (aCons (mTup (aCons (mVar 7) aNil)) (aCons (mVar 9) aNil))) aNil)) (mCB cRepr (aCons (mVar 10) aNil)))) (sRet (mC (.bl false))) sNil))
  (sSet 5 (mBin fAdd (mVar 5) (mTup (aCons (mVar 7) aNil)))))))
  (sRet (mBin fEq (mCB cRepr (aCons (mCB (t 27) (aCons (mMt "str" fJoin (mC (.str "\n")) (aCons (mComp (iVal (mVar 4)) (.tp [(.nm 6), (.nm 7)]) tYesM (mVar 6) [6, 7]) aNil)) aNil)) aNil)) (mCB cRepr (aCons (mVar 5) aNil)))))))))
def f_w_right (t : Nat → F) : F := mDef 1 12 (b_w_right t)
/-- law -/
def b_law (t : Nat → F) : MS := (sSeq (sFor (iRange1 (aCons (mCB cMax (aCons (mC (.int 1)) (aCons (mCB cMin (aCons (mC (.int 4)) (aCons (mCB cLen (aCons (mVar 0) aNil)) aNil))) aNil))) aNil)) (.nm 1) (sSeq (sSet 2 (mCB (t 36) (aCons (mVar 0) (aCons (mVar 1) aNil))))
  (sIf (tNot (tVal (mCB cAll (aCons (mComp (iRange1 (aCons (mC (.int 3)) aNil)) (.nm 3) tYesM (mCB (t 42) (aCons (mVar 2) aNil)) [3]) aNil)))) (sRet (mC (.bl false))) sNil)))
  (sRet (mC (.bl true))))
def f_law (t : Nat → F) : F := mDef 1 4 (b_law t)
def row (t : Nat → F) : Nat → F
  | 0 => f_are_all t
  | 1 => f_is_name t
  | 2 => f_is_number t
  | 3 => f_is_note t
  | 4 => f_is_integer t
  | 5 => f_note_of t
  | 6 => f_end_of t
  | 7 => f_words_in t
  | 8 => f_words_of t
  | 9 => f_node_of t
  | 10 => f_Reader___init__ t
  | 11 => f_Reader_next_word t
  | 12 => f_Reader_refuse t
  | 13 => f_Reader_take t
  | 14 => f_Reader_take_name t
  | 15 => f_Reader_statements t
  | 16 => f_Reader_statement t
  | 17 => f_Reader_noting t
  | 18 => f_Reader_giving t
  | 19 => f_Reader_setting t
  | 20 => f_Reader_block t
  | 21 => f_Reader_branching t
  | 22 => f_Reader_expressions t
  | 23 => f_Reader_expression t
  | 24 => f_Reader_term t
  | 25 => f_nodes_of t
  | 26 => f_parts_of t
  | 27 => f_read t
  | 28 => f_is_label t
  | 29 => f_is_part t
  | 30 => f_is_lot t
  | 31 => f_is_tree t
  | 32 => f_check_tree t
  | 33 => f_lot_at t
  | 34 => f_leads t
  | 35 => f_part_at t
  | 36 => f_w_pot t
  | 37 => f_w_take t
  | 38 => f_w_of t
  | 39 => f_w_trails t
  | 40 => f_w_letters t
  | 41 => f_w_rows t
  | 42 => f_w_right t
  | 43 => f_law t
  | _ => fun _ _ => .bad
/-- the defs, so many calls deep -/
def tab : Nat → Nat → F
  | 0, _ => fun _ _ => .bad
  | k + 1, i => row (tab k) i
end LK

set_option Elab.async false
set_option linter.all false
set_option maxRecDepth 100000
set_option maxHeartbeats 4000000
namespace LK
open PySem PySem.Spec PyProof.Rows L2 Mn
def top (i : Nat) : Stmt := PySem.Challenge.pw_styleamid_k07_kinds_by_hand.main.body.getD i (.Pass ⟨0, 0, 0, 0⟩)
def dOf (n : Str) (i : Nat) : He.DefD := ⟨(n, none), n, n, defArgs (top i), defBody (top i), defScope (top i), [], []⟩
def cBody : Stmt → List Stmt
  | .ClassDef _ _ _ body _ _ _ _ _ _ _ => body
  | _ => []
def sub (i j : Nat) : Stmt := (cBody (top i)).getD j (.Pass ⟨0, 0, 0, 0⟩)
def mOf (c n q : Str) (i j : Nat) : He.DefD := ⟨(c, some n), n, q, defArgs (sub i j), defBody (sub i j), defScope (sub i j), [], []⟩
def fn0 : List He.DefD := [(dOf "are_all" 15), (dOf "is_name" 16), (dOf "is_number" 17), (dOf "is_note" 18), (dOf "is_integer" 19), (dOf "note_of" 20), (dOf "end_of" 21), (dOf "words_in" 22), (dOf "words_of" 23), (dOf "node_of" 27), (mOf "Reader" "__init__" "Reader.__init__" 28 0), (mOf "Reader" "next_word" "Reader.next_word" 28 1), (mOf "Reader" "refuse" "Reader.refuse" 28 2), (mOf "Reader" "take" "Reader.take" 28 3), (mOf "Reader" "take_name" "Reader.take_name" 28 4), (mOf "Reader" "statements" "Reader.statements" 28 5), (mOf "Reader" "statement" "Reader.statement" 28 6), (mOf "Reader" "noting" "Reader.noting" 28 7), (mOf "Reader" "giving" "Reader.giving" 28 8), (mOf "Reader" "setting" "Reader.setting" 28 9)]
def fn1 : List He.DefD := [(mOf "Reader" "block" "Reader.block" 28 10), (mOf "Reader" "branching" "Reader.branching" 28 11), (mOf "Reader" "expressions" "Reader.expressions" 28 12), (mOf "Reader" "expression" "Reader.expression" 28 13), (mOf "Reader" "term" "Reader.term" 28 14), (dOf "nodes_of" 29), (dOf "parts_of" 30), (dOf "read" 31), (dOf "is_label" 46), (dOf "is_part" 47), (dOf "is_lot" 48), (dOf "is_tree" 49), (dOf "check_tree" 50), (dOf "lot_at" 51), (dOf "leads" 52), (dOf "part_at" 53), (dOf "_law_pot" 55), (dOf "_law_take" 56), (dOf "_law_of" 57), (dOf "_law_trails" 58)]
def fn2 : List He.DefD := [(dOf "_law_letters" 59), (dOf "_law_rows" 60), (dOf "_law_right" 61), (dOf "law" 62)]
def fn : List He.DefD := fn0 ++ fn1 ++ fn2
def mores : List He.Fa := [.cls "Reader", .noat "Reader" "own_words", .noat "Reader" "own_rows", .noat "Reader" "own_at", .meth "Reader" "next_word", .meth "Reader" "refuse", .meth "Reader" "statement", .meth "Reader" "branching", .meth "Reader" "giving", .meth "Reader" "noting", .meth "Reader" "setting", .meth "Reader" "take", .meth "Reader" "expression", .meth "Reader" "take_name", .meth "Reader" "expressions", .meth "Reader" "statements", .meth "Reader" "block", .meth "Reader" "term", .glo "Reader", .mkr "Reader"]
def cs : Cs := ⟨[("LETTERS", c_LETTERS), ("DIGITS", c_DIGITS), ("FOUR", c_FOUR), ("NOTE", c_NOTE), ("BLANK", c_BLANK), ("FEED", c_FEED), ("MOST_LETTERS", c_MOST_LETTERS), ("MOST_DIGITS", c_MOST_DIGITS), ("MOST_IN_NOTE", c_MOST_IN_NOTE), ("PLUS", c_PLUS), ("MINUS", c_MINUS), ("PAIR", c_PAIR), ("TERMS", c_TERMS), ("EXPRESSIONS", c_EXPRESSIONS), ("STATEMENTS", c_STATEMENTS), ("NAMED", c_NAMED), ("ONE", c_ONE), ("SOME", c_SOME), ("BLOCK", c_BLOCK), ("ELSE", c_ELSE), ("ADDED", c_ADDED), ("TERM", c_TERM)], [("LOTS", t_LOTS), ("FORMS", t_FORMS)], ["all", "isinstance", "str", "len", "int", "bool", "enumerate", "tuple", "zip", "range", "abs", "repr", "max", "min"], mores⟩
def dfs : Nat → He.DefD
  | 0 => (dOf "are_all" 15)
  | 1 => (dOf "is_name" 16)
  | 2 => (dOf "is_number" 17)
  | 3 => (dOf "is_note" 18)
  | 4 => (dOf "is_integer" 19)
  | 5 => (dOf "note_of" 20)
  | 6 => (dOf "end_of" 21)
  | 7 => (dOf "words_in" 22)
  | 8 => (dOf "words_of" 23)
  | 9 => (dOf "node_of" 27)
  | 10 => (mOf "Reader" "__init__" "Reader.__init__" 28 0)
  | 11 => (mOf "Reader" "next_word" "Reader.next_word" 28 1)
  | 12 => (mOf "Reader" "refuse" "Reader.refuse" 28 2)
  | 13 => (mOf "Reader" "take" "Reader.take" 28 3)
  | 14 => (mOf "Reader" "take_name" "Reader.take_name" 28 4)
  | 15 => (mOf "Reader" "statements" "Reader.statements" 28 5)
  | 16 => (mOf "Reader" "statement" "Reader.statement" 28 6)
  | 17 => (mOf "Reader" "noting" "Reader.noting" 28 7)
  | 18 => (mOf "Reader" "giving" "Reader.giving" 28 8)
  | 19 => (mOf "Reader" "setting" "Reader.setting" 28 9)
  | 20 => (mOf "Reader" "block" "Reader.block" 28 10)
  | 21 => (mOf "Reader" "branching" "Reader.branching" 28 11)
  | 22 => (mOf "Reader" "expressions" "Reader.expressions" 28 12)
  | 23 => (mOf "Reader" "expression" "Reader.expression" 28 13)
  | 24 => (mOf "Reader" "term" "Reader.term" 28 14)
  | 25 => (dOf "nodes_of" 29)
  | 26 => (dOf "parts_of" 30)
  | 27 => (dOf "read" 31)
  | 28 => (dOf "is_label" 46)
  | 29 => (dOf "is_part" 47)
  | 30 => (dOf "is_lot" 48)
  | 31 => (dOf "is_tree" 49)
  | 32 => (dOf "check_tree" 50)
  | 33 => (dOf "lot_at" 51)
  | 34 => (dOf "leads" 52)
  | 35 => (dOf "part_at" 53)
  | 36 => (dOf "_law_pot" 55)
  | 37 => (dOf "_law_take" 56)
  | 38 => (dOf "_law_of" 57)
  | 39 => (dOf "_law_trails" 58)
  | 40 => (dOf "_law_letters" 59)
  | 41 => (dOf "_law_rows" 60)
  | 42 => (dOf "_law_right" 61)
  | 43 => (dOf "law" 62)
  | _ => dOf "" 0
def pss : Nat → List Str
  | 0 => ["value", "signs"]
  | 1 => ["value"]
  | 2 => ["value"]
  | 3 => ["value"]
  | 4 => ["value", "least", "most"]
  | 5 => ["word"]
  | 6 => ["line", "at"]
  | 7 => ["line", "number"]
  | 8 => ["text"]
  | 9 => ["label", "lots", "first", "last"]
  | 10 => ["self", "text"]
  | 11 => ["self"]
  | 12 => ["self"]
  | 13 => ["self", "word"]
  | 14 => ["self"]
  | 15 => ["self"]
  | 16 => ["self"]
  | 17 => ["self", "note"]
  | 18 => ["self"]
  | 19 => ["self"]
  | 20 => ["self"]
  | 21 => ["self", "kind"]
  | 22 => ["self", "closing"]
  | 23 => ["self"]
  | 24 => ["self"]
  | 25 => ["text"]
  | 26 => ["nodes"]
  | 27 => ["text"]
  | 28 => ["label"]
  | 29 => ["value", "kinds"]
  | 30 => ["value", "sort"]
  | 31 => ["value"]
  | 32 => ["value"]
  | 33 => ["tree", "path"]
  | 34 => ["tree", "path"]
  | 35 => ["tree", "path"]
  | 36 => ["_law_script", "_law_k"]
  | 37 => ["_law_pot_here", "_law_upto"]
  | 38 => ["_law_pot_here", "_law_some"]
  | 39 => ["_law_cut", "_law_ahead"]
  | 40 => ["_law_pot_here", "_law_end"]
  | 41 => ["_law_names", "_law_digits", "_law_note"]
  | 42 => ["_law_pot_here"]
  | 43 => ["_law_script"]
  | _ => []
end LK

set_option Elab.async false
set_option linter.all false
set_option maxRecDepth 100000
set_option maxHeartbeats 0
namespace LK
open PySem PySem.Spec PySem.W PySem.Calls PyProof.Rows L2 Mn
abbrev R : PySem.W.OpenRow := PySem.W.OpenLaw.row PySem.Challenge.rw_styleamid_k07_kinds_by_hand
abbrev hk : PySem.W.Hook := hookM 6 cs fn
def ob (s : PySem.W.SharedT) : AlM := obsM 6 cs fn (HandSHeadRun.getT s)
theorem ob_eq (s : PySem.W.SharedT) : ob s = hk.obs s.abs := obsM_eq (HandSHeadRun.getT_eq s)
def nm0 : List PySem.Str := ["StyleError", "BadText", "BadTree", "BadPath", "LETTERS", "DIGITS", "FOUR", "NOTE", "BLANK", "FEED", "MOST_LETTERS", "MOST_DIGITS", "MOST_IN_NOTE", "are_all", "is_name", "is_number", "is_note", "is_integer", "note_of", "end_of"]
def nm1 : List PySem.Str := ["words_in", "words_of", "PLUS", "MINUS", "node_of", "Reader", "nodes_of", "parts_of", "read", "PAIR", "TERMS", "EXPRESSIONS", "STATEMENTS", "NAMED", "ONE", "SOME", "BLOCK", "ELSE", "ADDED", "TERM"]
def nm2 : List PySem.Str := ["LOTS", "FORMS", "is_label", "is_part", "is_lot", "is_tree", "check_tree", "lot_at", "leads", "part_at", "_law_pot", "_law_take", "_law_of", "_law_trails", "_law_letters", "_law_rows", "_law_right"]
def names : List PySem.Str := nm0 ++ nm1 ++ nm2
theorem run (w : World) : HandSHeadRun.RunEq R (PySem.W.view R.prog [62]) hk ob 20000 names w :=
  byRow2 "special-get-raises" (P := fun w => HandSHeadRun.RunEq R (PySem.W.view R.prog [62]) hk ob 20000 names w) (fun w => by intro os; kernel_rfl) (fun w => by intro os; kernel_rfl) w
end LK

set_option Elab.async false
set_option linter.all false
set_option maxRecDepth 100000
set_option maxHeartbeats 4000000
namespace LK
open PySem PySem.Spec PyProof.Rows L2 Mn
section
variable {P : Program} {w : World} {K : PySem.W.Frag} {mg : Str → Option Value} {base : Heap} {cl : Nat → Value} {k : Nat} {t : Nat → F}
theorem bi_are_all : ∀ (kV doc pm : Value) (an : Option Addr) (cdv ct : Value) (us : List Value), us.length = (["value", "signs"] : List Str).length → bindArgs (PySem.W.fnOf (dOf "are_all" 15).name (dOf "are_all" 15).qual (dOf "are_all" 15).params (dOf "are_all" 15).body (dOf "are_all" 15).scope .none kV doc pm an cdv ct) ⟨us, []⟩ = pure ((["value", "signs"] : List Str).zip us) :=
  fun _ _ _ _ _ _ us hl => match us, hl with | [_, _], _ => rfl
theorem sc_are_all : FnScope ["value", "signs", "sign"] ["value", "signs"] (dOf "are_all" 15).scope := ⟨rfl, rfl, rfl, by decide +kernel, rfl, by decide +kernel, by decide +kernel⟩
theorem q_are_all (a : Amb w K mg cs fn) (T : ∀ j, j < 44 → FG P w K mg base cl k (dfs j) (pss j) (t j)) : FG P w K mg base cl (k + 1) (dOf "are_all" 15) ["value", "signs"] (f_are_all t) := by
  have nd := (sc_are_all).nd
  refine fg_def a 0 rfl rfl sc_are_all bi_are_all fun f cdv A outer s H E hr1 hgd => ?_
  have hr := hr1.mono (Nat.le_succ _)
  have hq := room_q hr
  have hi := room_i hr
  have hp := room_p hr
  have hg1 := room_1 hr
  exact qss_one (qs_ret (qe_callB (cs_all rfl) (a.free 0 rfl) (by decide +kernel) (qa_cons (qe_lc rfl nd (qi_val (qe_var 0)) (ok := blkOk_by (own := [("sign", 2)]) (by first | rfl | kernel_rfl)) (fun _ _ _ _ _ => qp_nm 2 nd) (fun _ _ _ _ _ => qts_nil) (fun _ _ _ _ _ => qe_cmp (os_in hi) (qe_var 2) (qe_var 1))) (qa_nil))))
theorem bi_is_name : ∀ (kV doc pm : Value) (an : Option Addr) (cdv ct : Value) (us : List Value), us.length = (["value"] : List Str).length → bindArgs (PySem.W.fnOf (dOf "is_name" 16).name (dOf "is_name" 16).qual (dOf "is_name" 16).params (dOf "is_name" 16).body (dOf "is_name" 16).scope .none kV doc pm an cdv ct) ⟨us, []⟩ = pure ((["value"] : List Str).zip us) :=
  fun _ _ _ _ _ _ us hl => match us, hl with | [_], _ => rfl
theorem sc_is_name : FnScope ["value"] ["value"] (dOf "is_name" 16).scope := ⟨rfl, rfl, rfl, by decide +kernel, rfl, by decide +kernel, by decide +kernel⟩
theorem q_is_name (a : Amb w K mg cs fn) (T : ∀ j, j < 44 → FG P w K mg base cl k (dfs j) (pss j) (t j)) : FG P w K mg base cl (k + 1) (dOf "is_name" 16) ["value"] (f_is_name t) := by
  have nd := (sc_is_name).nd
  refine fg_def a 1 rfl rfl sc_is_name bi_is_name fun f cdv A outer s H E hr1 hgd => ?_
  have hr := hr1.mono (Nat.le_succ _)
  have hq := room_q hr
  have hi := room_i hr
  have hp := room_p hr
  have hg1 := room_1 hr
  exact qss_cons (qs_if (qt_w (qw_or (qt_not (qt_val (qe_isi "str" (qe_var 0) (a.free 1 rfl) (a.free 2 rfl) (by decide) (by decide +kernel)))) (qw_or1 (qt_not (qt_chain (os_le) (os_le) (qe_int) (qe_callB (cs_len) (a.free 3 rfl) (by decide +kernel) (qa_cons (qe_var 0) (qa_nil))) (qe_con a 6 rfl)))))) (qss_one (qs_ret (qe_bl))) (qss_nil))
      (qss_one (qs_ret (qe_and (qe_fn (T 0 (by decide)) hr hgd (takes_of rfl rfl rfl rfl) (qa_cons (qe_var 0) (qa_cons (qe_con a 0 rfl) (qa_nil)))) (qe_one (qe_cmp (os_notIn hi) (qe_var 0) (qe_con a 2 rfl))))))
theorem bi_is_number : ∀ (kV doc pm : Value) (an : Option Addr) (cdv ct : Value) (us : List Value), us.length = (["value"] : List Str).length → bindArgs (PySem.W.fnOf (dOf "is_number" 17).name (dOf "is_number" 17).qual (dOf "is_number" 17).params (dOf "is_number" 17).body (dOf "is_number" 17).scope .none kV doc pm an cdv ct) ⟨us, []⟩ = pure ((["value"] : List Str).zip us) :=
  fun _ _ _ _ _ _ us hl => match us, hl with | [_], _ => rfl
theorem sc_is_number : FnScope ["value"] ["value"] (dOf "is_number" 17).scope := ⟨rfl, rfl, rfl, by decide +kernel, rfl, by decide +kernel, by decide +kernel⟩
theorem q_is_number (a : Amb w K mg cs fn) (T : ∀ j, j < 44 → FG P w K mg base cl k (dfs j) (pss j) (t j)) : FG P w K mg base cl (k + 1) (dOf "is_number" 17) ["value"] (f_is_number t) := by
  have nd := (sc_is_number).nd
  refine fg_def a 2 rfl rfl sc_is_number bi_is_number fun f cdv A outer s H E hr1 hgd => ?_
  have hr := hr1.mono (Nat.le_succ _)
  have hq := room_q hr
  have hi := room_i hr
  have hp := room_p hr
  have hg1 := room_1 hr
  exact qss_cons (qs_if (qt_w (qw_or (qt_not (qt_val (qe_isi "str" (qe_var 0) (a.free 1 rfl) (a.free 2 rfl) (by decide) (by decide +kernel)))) (qw_or (qt_not (qt_chain (os_le) (os_le) (qe_int) (qe_callB (cs_len) (a.free 3 rfl) (by decide +kernel) (qa_cons (qe_var 0) (qa_nil))) (qe_con a 7 rfl))) (qw_or1 (qt_not (qt_val (qe_fn (T 0 (by decide)) hr hgd (takes_of rfl rfl rfl rfl) (qa_cons (qe_var 0) (qa_cons (qe_con a 1 rfl) (qa_nil)))))))))) (qss_one (qs_ret (qe_bl))) (qss_nil))
      (qss_one (qs_ret (qe_or (qe_cmp (os_eq hq) (qe_var 0) (qe_str)) (qe_one (qe_cmp (os_ne hq) (qe_ix (qe_var 0) (qe_int)) (qe_str))))))
theorem bi_is_note : ∀ (kV doc pm : Value) (an : Option Addr) (cdv ct : Value) (us : List Value), us.length = (["value"] : List Str).length → bindArgs (PySem.W.fnOf (dOf "is_note" 18).name (dOf "is_note" 18).qual (dOf "is_note" 18).params (dOf "is_note" 18).body (dOf "is_note" 18).scope .none kV doc pm an cdv ct) ⟨us, []⟩ = pure ((["value"] : List Str).zip us) :=
  fun _ _ _ _ _ _ us hl => match us, hl with | [_], _ => rfl
theorem sc_is_note : FnScope ["value"] ["value"] (dOf "is_note" 18).scope := ⟨rfl, rfl, rfl, by decide +kernel, rfl, by decide +kernel, by decide +kernel⟩
theorem q_is_note (a : Amb w K mg cs fn) (T : ∀ j, j < 44 → FG P w K mg base cl k (dfs j) (pss j) (t j)) : FG P w K mg base cl (k + 1) (dOf "is_note" 18) ["value"] (f_is_note t) := by
  have nd := (sc_is_note).nd
  refine fg_def a 3 rfl rfl sc_is_note bi_is_note fun f cdv A outer s H E hr1 hgd => ?_
  have hr := hr1.mono (Nat.le_succ _)
  have hq := room_q hr
  have hi := room_i hr
  have hp := room_p hr
  have hg1 := room_1 hr
  exact qss_cons (qs_if (qt_w (qw_or (qt_not (qt_val (qe_isi "str" (qe_var 0) (a.free 1 rfl) (a.free 2 rfl) (by decide) (by decide +kernel)))) (qw_or1 (qt_cmp (os_gt) (qe_callB (cs_len) (a.free 3 rfl) (by decide +kernel) (qa_cons (qe_var 0) (qa_nil))) (qe_con a 8 rfl))))) (qss_one (qs_ret (qe_bl))) (qss_nil))
      (qss_one (qs_ret (qe_and (qe_fn (T 0 (by decide)) hr hgd (takes_of rfl rfl rfl rfl) (qa_cons (qe_var 0) (qa_cons (qe_bin os_add (qe_bin os_add (qe_con a 0 rfl) (qe_con a 1 rfl)) (qe_con a 4 rfl)) (qa_nil)))) (qe_one (qe_cmp (os_eq hq) (qe_var 0) (qe_bm PySem.F.plainAttrs_str PySem.F.slot_str_strip PySem.F.type_str_strip ms_stripC (qe_var 0) (qa_cons (qe_con a 4 rfl) (qa_nil))))))))
theorem bi_is_integer : ∀ (kV doc pm : Value) (an : Option Addr) (cdv ct : Value) (us : List Value), us.length = (["value", "least", "most"] : List Str).length → bindArgs (PySem.W.fnOf (dOf "is_integer" 19).name (dOf "is_integer" 19).qual (dOf "is_integer" 19).params (dOf "is_integer" 19).body (dOf "is_integer" 19).scope .none kV doc pm an cdv ct) ⟨us, []⟩ = pure ((["value", "least", "most"] : List Str).zip us) :=
  fun _ _ _ _ _ _ us hl => match us, hl with | [_, _, _], _ => rfl
theorem sc_is_integer : FnScope ["value", "least", "most"] ["value", "least", "most"] (dOf "is_integer" 19).scope := ⟨rfl, rfl, rfl, by decide +kernel, rfl, by decide +kernel, by decide +kernel⟩
theorem q_is_integer (a : Amb w K mg cs fn) (T : ∀ j, j < 44 → FG P w K mg base cl k (dfs j) (pss j) (t j)) : FG P w K mg base cl (k + 1) (dOf "is_integer" 19) ["value", "least", "most"] (f_is_integer t) := by
  have nd := (sc_is_integer).nd
  refine fg_def a 4 rfl rfl sc_is_integer bi_is_integer fun f cdv A outer s H E hr1 hgd => ?_
  have hr := hr1.mono (Nat.le_succ _)
  have hq := room_q hr
  have hi := room_i hr
  have hp := room_p hr
  have hg1 := room_1 hr
  exact qss_cons (qs_if (qt_w (qw_or (qt_not (qt_val (qe_isi "int" (qe_var 0) (a.free 1 rfl) (a.free 4 rfl) (by decide) (by decide +kernel)))) (qw_or (qt_val (qe_isi "bool" (qe_var 0) (a.free 1 rfl) (a.free 5 rfl) (by decide) (by decide +kernel))) (qw_or1 (qt_cmp (os_lt) (qe_var 0) (qe_var 1)))))) (qss_one (qs_ret (qe_bl))) (qss_nil))
      (qss_one (qs_ret (qe_or (qe_cmp (os_isN) (qe_var 2) (qe_non)) (qe_one (qe_cmp (os_le) (qe_var 0) (qe_var 2))))))
theorem bi_note_of : ∀ (kV doc pm : Value) (an : Option Addr) (cdv ct : Value) (us : List Value), us.length = (["word"] : List Str).length → bindArgs (PySem.W.fnOf (dOf "note_of" 20).name (dOf "note_of" 20).qual (dOf "note_of" 20).params (dOf "note_of" 20).body (dOf "note_of" 20).scope .none kV doc pm an cdv ct) ⟨us, []⟩ = pure ((["word"] : List Str).zip us) :=
  fun _ _ _ _ _ _ us hl => match us, hl with | [_], _ => rfl
theorem sc_note_of : FnScope ["word"] ["word"] (dOf "note_of" 20).scope := ⟨rfl, rfl, rfl, by decide +kernel, rfl, by decide +kernel, by decide +kernel⟩
theorem q_note_of (a : Amb w K mg cs fn) (T : ∀ j, j < 44 → FG P w K mg base cl k (dfs j) (pss j) (t j)) : FG P w K mg base cl (k + 1) (dOf "note_of" 20) ["word"] (f_note_of t) := by
  have nd := (sc_note_of).nd
  refine fg_def a 5 rfl rfl sc_note_of bi_note_of fun f cdv A outer s H E hr1 hgd => ?_
  have hr := hr1.mono (Nat.le_succ _)
  have hq := room_q hr
  have hi := room_i hr
  have hp := room_p hr
  have hg1 := room_1 hr
  exact qss_one (qs_ret (qe_bm PySem.F.plainAttrs_str PySem.F.slot_str_strip PySem.F.type_str_strip ms_stripC (qe_slice (qe_var 0) (qo_some (qe_int)) (qo_none)) (qa_cons (qe_con a 4 rfl) (qa_nil))))
theorem bi_end_of : ∀ (kV doc pm : Value) (an : Option Addr) (cdv ct : Value) (us : List Value), us.length = (["line", "at"] : List Str).length → bindArgs (PySem.W.fnOf (dOf "end_of" 21).name (dOf "end_of" 21).qual (dOf "end_of" 21).params (dOf "end_of" 21).body (dOf "end_of" 21).scope .none kV doc pm an cdv ct) ⟨us, []⟩ = pure ((["line", "at"] : List Str).zip us) :=
  fun _ _ _ _ _ _ us hl => match us, hl with | [_, _], _ => rfl
theorem sc_end_of : FnScope ["line", "at", "end"] ["line", "at"] (dOf "end_of" 21).scope := ⟨rfl, rfl, rfl, by decide +kernel, rfl, by decide +kernel, by decide +kernel⟩
theorem q_end_of (a : Amb w K mg cs fn) (T : ∀ j, j < 44 → FG P w K mg base cl k (dfs j) (pss j) (t j)) : FG P w K mg base cl (k + 1) (dOf "end_of" 21) ["line", "at"] (f_end_of t) := by
  have nd := (sc_end_of).nd
  refine fg_def a 6 rfl rfl sc_end_of bi_end_of fun f cdv A outer s H E hr1 hgd => ?_
  have hr := hr1.mono (Nat.le_succ _)
  have hq := room_q hr
  have hi := room_i hr
  have hp := room_p hr
  have hg1 := room_1 hr
  exact qss_cons (qs_if (qt_cmp (os_eq hq) (qe_ix (qe_var 0) (qe_var 1)) (qe_con a 3 rfl)) (qss_one (qs_ret (qe_callB (cs_len) (a.free 3 rfl) (by decide +kernel) (qa_cons (qe_var 0) (qa_nil))))) (qss_nil))
      (qss_cons (qs_set 2 nd (qe_bin os_add (qe_var 1) (qe_int)))
      (qss_cons (qs_if (qt_cmp (os_in hi) (qe_ix (qe_var 0) (qe_var 1)) (qe_bin os_add (qe_con a 0 rfl) (qe_con a 1 rfl))) (qss_one (qs_while wN (passes_of rfl) (qt_w (qw_and (qt_cmp (os_lt) (qe_var 2) (qe_callB (cs_len) (a.free 3 rfl) (by decide +kernel) (qa_cons (qe_var 0) (qa_nil)))) (qw_and1 (qt_cmp (os_in hi) (qe_ix (qe_var 0) (qe_var 2)) (qe_bin os_add (qe_con a 0 rfl) (qe_con a 1 rfl)))))) (qss_one (qs_augI 2 nd (qe_int))))) (qss_nil))
      (qss_one (qs_ret (qe_var 2)))))
theorem bi_words_in : ∀ (kV doc pm : Value) (an : Option Addr) (cdv ct : Value) (us : List Value), us.length = (["line", "number"] : List Str).length → bindArgs (PySem.W.fnOf (dOf "words_in" 22).name (dOf "words_in" 22).qual (dOf "words_in" 22).params (dOf "words_in" 22).body (dOf "words_in" 22).scope .none kV doc pm an cdv ct) ⟨us, []⟩ = pure ((["line", "number"] : List Str).zip us) :=
  fun _ _ _ _ _ _ us hl => match us, hl with | [_, _], _ => rfl
theorem sc_words_in : FnScope ["line", "number", "found", "at", "end"] ["line", "number"] (dOf "words_in" 22).scope := ⟨rfl, rfl, rfl, by decide +kernel, rfl, by decide +kernel, by decide +kernel⟩
theorem q_words_in (a : Amb w K mg cs fn) (T : ∀ j, j < 44 → FG P w K mg base cl k (dfs j) (pss j) (t j)) : FG P w K mg base cl (k + 1) (dOf "words_in" 22) ["line", "number"] (f_words_in t) := by
  have nd := (sc_words_in).nd
  refine fg_def a 7 rfl rfl sc_words_in bi_words_in fun f cdv A outer s H E hr1 hgd => ?_
  have hr := hr1.mono (Nat.le_succ _)
  have hq := room_q hr
  have hi := room_i hr
  have hp := room_p hr
  have hg1 := room_1 hr
  exact qss_cons (qs_par 2 3 rfl nd (qa_cons (qe_lst (qa_nil)) (qa_cons (qe_int) (qa_nil))))
      (qss_cons (qs_while wN (passes_of rfl) (qt_cmp (os_lt) (qe_var 3) (qe_callB (cs_len) (a.free 3 rfl) (by decide +kernel) (qa_cons (qe_var 0) (qa_nil)))) (qss_cons (qs_set 4 nd (qe_fn (T 6 (by decide)) hr hgd (takes_of rfl rfl rfl rfl) (qa_cons (qe_var 0) (qa_cons (qe_var 3) (qa_nil)))))
      (qss_cons (qs_if (qt_cmp (os_ne hq) (qe_ix (qe_var 0) (qe_var 3)) (qe_con a 4 rfl)) (qss_one (qs_expr (qe_bm PySem.F.plainAttrs_list PySem.F.slot_list_append PySem.F.type_list_append ms_append (qe_var 2) (qa_cons (qe_tup (qa_cons (qe_bm PySem.F.plainAttrs_str PySem.F.slot_str_rstrip PySem.F.type_str_rstrip ms_rstripC (qe_slice (qe_var 0) (qo_some (qe_var 3)) (qo_some (qe_var 4))) (qa_cons (qe_con a 4 rfl) (qa_nil))) (qa_cons (qe_var 1) (qa_cons (qe_var 3) (qa_nil))))) (qa_nil))))) (qss_nil))
      (qss_one (qs_set 3 nd (qe_var 4))))))
      (qss_one (qs_ret (qe_var 2))))
theorem bi_words_of : ∀ (kV doc pm : Value) (an : Option Addr) (cdv ct : Value) (us : List Value), us.length = (["text"] : List Str).length → bindArgs (PySem.W.fnOf (dOf "words_of" 23).name (dOf "words_of" 23).qual (dOf "words_of" 23).params (dOf "words_of" 23).body (dOf "words_of" 23).scope .none kV doc pm an cdv ct) ⟨us, []⟩ = pure ((["text"] : List Str).zip us) :=
  fun _ _ _ _ _ _ us hl => match us, hl with | [_], _ => rfl
theorem sc_words_of : FnScope ["text", "found", "at", "line"] ["text"] (dOf "words_of" 23).scope := ⟨rfl, rfl, rfl, by decide +kernel, rfl, by decide +kernel, by decide +kernel⟩
theorem q_words_of (a : Amb w K mg cs fn) (T : ∀ j, j < 44 → FG P w K mg base cl k (dfs j) (pss j) (t j)) : FG P w K mg base cl (k + 1) (dOf "words_of" 23) ["text"] (f_words_of t) := by
  have nd := (sc_words_of).nd
  refine fg_def a 8 rfl rfl sc_words_of bi_words_of fun f cdv A outer s H E hr1 hgd => ?_
  have hr := hr1.mono (Nat.le_succ _)
  have hq := room_q hr
  have hi := room_i hr
  have hp := room_p hr
  have hg1 := room_1 hr
  exact qss_cons (qs_set 1 nd (qe_lst (qa_nil)))
      (qss_cons (qs_for (passes_of rfl) rfl (qi_enum (a.free 6 rfl) (qa_cons (qe_bm PySem.F.plainAttrs_str PySem.F.slot_str_split PySem.F.type_str_split ms_split (qe_var 0) (qa_cons (qe_con a 5 rfl) (qa_nil))) (qa_nil))) (qp_tp rfl (qps_cons (qp_nm 2 nd) (qps_cons (qp_nm 3 nd) (qps_nil)))) (qss_one (qs_expr (qe_bm PySem.F.plainAttrs_list PySem.F.slot_list_extend PySem.F.type_list_extend ms_extend (qe_var 1) (qa_cons (qe_fn (T 7 (by decide)) hr hgd (takes_of rfl rfl rfl rfl) (qa_cons (qe_var 3) (qa_cons (qe_bin os_add (qe_var 2) (qe_int)) (qa_nil)))) (qa_nil))))))
      (qss_one (qs_ret (qe_var 1))))
theorem bi_node_of : ∀ (kV doc pm : Value) (an : Option Addr) (cdv ct : Value) (us : List Value), us.length = (["label", "lots", "first", "last"] : List Str).length → bindArgs (PySem.W.fnOf (dOf "node_of" 27).name (dOf "node_of" 27).qual (dOf "node_of" 27).params (dOf "node_of" 27).body (dOf "node_of" 27).scope .none kV doc pm an cdv ct) ⟨us, []⟩ = pure ((["label", "lots", "first", "last"] : List Str).zip us) :=
  fun _ _ _ _ _ _ us hl => match us, hl with | [_, _, _, _], _ => rfl
theorem sc_node_of : FnScope ["label", "lots", "first", "last"] ["label", "lots", "first", "last"] (dOf "node_of" 27).scope := ⟨rfl, rfl, rfl, by decide +kernel, rfl, by decide +kernel, by decide +kernel⟩
theorem q_node_of (a : Amb w K mg cs fn) (T : ∀ j, j < 44 → FG P w K mg base cl k (dfs j) (pss j) (t j)) : FG P w K mg base cl (k + 1) (dOf "node_of" 27) ["label", "lots", "first", "last"] (f_node_of t) := by
  have nd := (sc_node_of).nd
  refine fg_def a 9 rfl rfl sc_node_of bi_node_of fun f cdv A outer s H E hr1 hgd => ?_
  have hr := hr1.mono (Nat.le_succ _)
  have hq := room_q hr
  have hi := room_i hr
  have hp := room_p hr
  have hg1 := room_1 hr
  exact qss_one (qs_ret (qe_tup (qa_cons (qe_var 0) (qa_cons (qe_var 1) (qa_cons (qe_var 2) (qa_cons (qe_var 3) (qa_nil)))))))
theorem bi_Reader___init__ : ∀ (kV doc pm : Value) (an : Option Addr) (cdv ct : Value) (us : List Value), us.length = (["self", "text"] : List Str).length → bindArgs (PySem.W.fnOf (mOf "Reader" "__init__" "Reader.__init__" 28 0).name (mOf "Reader" "__init__" "Reader.__init__" 28 0).qual (mOf "Reader" "__init__" "Reader.__init__" 28 0).params (mOf "Reader" "__init__" "Reader.__init__" 28 0).body (mOf "Reader" "__init__" "Reader.__init__" 28 0).scope .none kV doc pm an cdv ct) ⟨us, []⟩ = pure ((["self", "text"] : List Str).zip us) :=
  fun _ _ _ _ _ _ us hl => match us, hl with | [_, _], _ => rfl
theorem sc_Reader___init__ : FnScope ["self", "text"] ["self", "text"] (mOf "Reader" "__init__" "Reader.__init__" 28 0).scope := ⟨rfl, rfl, rfl, by decide +kernel, rfl, by decide +kernel, by decide +kernel⟩
theorem q_Reader___init__ (a : Amb w K mg cs fn) (T : ∀ j, j < 44 → FG P w K mg base cl k (dfs j) (pss j) (t j)) : FG P w K mg base cl (k + 1) (mOf "Reader" "__init__" "Reader.__init__" 28 0) ["self", "text"] (f_Reader___init__ t) := by
  have nd := (sc_Reader___init__).nd
  refine fg_def a 10 rfl rfl sc_Reader___init__ bi_Reader___init__ fun f cdv A outer s H E hr1 hgd => ?_
  have hr := hr1.mono (Nat.le_succ _)
  have hq := room_q hr
  have hi := room_i hr
  have hp := room_p hr
  have hg1 := room_1 hr
  exact qss_cons (qs_att (He.cls_ok (a.more 0 rfl)) (He.noat_ok (a.more 1 rfl)) (qe_var 0) (qe_fn (T 8 (by decide)) hr hgd (takes_of rfl rfl rfl rfl) (qa_cons (qe_var 1) (qa_nil))))
      (qss_cons (qs_att (He.cls_ok (a.more 0 rfl)) (He.noat_ok (a.more 2 rfl)) (qe_var 0) (qe_bin os_add (qe_bm PySem.F.plainAttrs_str PySem.F.slot_str_count PySem.F.type_str_count ms_count (qe_var 1) (qa_cons (qe_con a 5 rfl) (qa_nil))) (qe_int)))
      (qss_one (qs_att (He.cls_ok (a.more 0 rfl)) (He.noat_ok (a.more 3 rfl)) (qe_var 0) (qe_int))))
theorem bi_Reader_next_word : ∀ (kV doc pm : Value) (an : Option Addr) (cdv ct : Value) (us : List Value), us.length = (["self"] : List Str).length → bindArgs (PySem.W.fnOf (mOf "Reader" "next_word" "Reader.next_word" 28 1).name (mOf "Reader" "next_word" "Reader.next_word" 28 1).qual (mOf "Reader" "next_word" "Reader.next_word" 28 1).params (mOf "Reader" "next_word" "Reader.next_word" 28 1).body (mOf "Reader" "next_word" "Reader.next_word" 28 1).scope .none kV doc pm an cdv ct) ⟨us, []⟩ = pure ((["self"] : List Str).zip us) :=
  fun _ _ _ _ _ _ us hl => match us, hl with | [_], _ => rfl
theorem sc_Reader_next_word : FnScope ["self"] ["self"] (mOf "Reader" "next_word" "Reader.next_word" 28 1).scope := ⟨rfl, rfl, rfl, by decide +kernel, rfl, by decide +kernel, by decide +kernel⟩
theorem q_Reader_next_word (a : Amb w K mg cs fn) (T : ∀ j, j < 44 → FG P w K mg base cl k (dfs j) (pss j) (t j)) : FG P w K mg base cl (k + 1) (mOf "Reader" "next_word" "Reader.next_word" 28 1) ["self"] (f_Reader_next_word t) := by
  have nd := (sc_Reader_next_word).nd
  refine fg_def a 11 rfl rfl sc_Reader_next_word bi_Reader_next_word fun f cdv A outer s H E hr1 hgd => ?_
  have hr := hr1.mono (Nat.le_succ _)
  have hq := room_q hr
  have hi := room_i hr
  have hp := room_p hr
  have hg1 := room_1 hr
  exact qss_one (qs_ret (qe_if (qt_cmp (os_lt) (qe_att (He.cls_ok (a.more 0 rfl)) (He.noat_ok (a.more 3 rfl)) (qe_var 0)) (qe_callB (cs_len) (a.free 3 rfl) (by decide +kernel) (qa_cons (qe_att (He.cls_ok (a.more 0 rfl)) (He.noat_ok (a.more 1 rfl)) (qe_var 0)) (qa_nil)))) (qe_ix (qe_ix (qe_att (He.cls_ok (a.more 0 rfl)) (He.noat_ok (a.more 1 rfl)) (qe_var 0)) (qe_att (He.cls_ok (a.more 0 rfl)) (He.noat_ok (a.more 3 rfl)) (qe_var 0))) (qe_int)) (qe_str)))
theorem bi_Reader_refuse : ∀ (kV doc pm : Value) (an : Option Addr) (cdv ct : Value) (us : List Value), us.length = (["self"] : List Str).length → bindArgs (PySem.W.fnOf (mOf "Reader" "refuse" "Reader.refuse" 28 2).name (mOf "Reader" "refuse" "Reader.refuse" 28 2).qual (mOf "Reader" "refuse" "Reader.refuse" 28 2).params (mOf "Reader" "refuse" "Reader.refuse" 28 2).body (mOf "Reader" "refuse" "Reader.refuse" 28 2).scope .none kV doc pm an cdv ct) ⟨us, []⟩ = pure ((["self"] : List Str).zip us) :=
  fun _ _ _ _ _ _ us hl => match us, hl with | [_], _ => rfl
theorem sc_Reader_refuse : FnScope ["self"] ["self"] (mOf "Reader" "refuse" "Reader.refuse" 28 2).scope := ⟨rfl, rfl, rfl, by decide +kernel, rfl, by decide +kernel, by decide +kernel⟩
theorem q_Reader_refuse (a : Amb w K mg cs fn) (T : ∀ j, j < 44 → FG P w K mg base cl k (dfs j) (pss j) (t j)) : FG P w K mg base cl (k + 1) (mOf "Reader" "refuse" "Reader.refuse" 28 2) ["self"] (f_Reader_refuse t) := by
  have nd := (sc_Reader_refuse).nd
  refine fg_def a 12 rfl rfl sc_Reader_refuse bi_Reader_refuse fun f cdv A outer s H E hr1 hgd => ?_
  have hr := hr1.mono (Nat.le_succ _)
  have hq := room_q hr
  have hi := room_i hr
  have hp := room_p hr
  have hg1 := room_1 hr
  exact qss_cons (qs_if (qt_cmp (os_lt) (qe_att (He.cls_ok (a.more 0 rfl)) (He.noat_ok (a.more 3 rfl)) (qe_var 0)) (qe_callB (cs_len) (a.free 3 rfl) (by decide +kernel) (qa_cons (qe_att (He.cls_ok (a.more 0 rfl)) (He.noat_ok (a.more 1 rfl)) (qe_var 0)) (qa_nil)))) (qss_one (qs_bad)) (qss_nil))
      (qss_one (qs_bad))
theorem bi_Reader_take : ∀ (kV doc pm : Value) (an : Option Addr) (cdv ct : Value) (us : List Value), us.length = (["self", "word"] : List Str).length → bindArgs (PySem.W.fnOf (mOf "Reader" "take" "Reader.take" 28 3).name (mOf "Reader" "take" "Reader.take" 28 3).qual (mOf "Reader" "take" "Reader.take" 28 3).params (mOf "Reader" "take" "Reader.take" 28 3).body (mOf "Reader" "take" "Reader.take" 28 3).scope .none kV doc pm an cdv ct) ⟨us, []⟩ = pure ((["self", "word"] : List Str).zip us) :=
  fun _ _ _ _ _ _ us hl => match us, hl with | [_, _], _ => rfl
theorem sc_Reader_take : FnScope ["self", "word"] ["self", "word"] (mOf "Reader" "take" "Reader.take" 28 3).scope := ⟨rfl, rfl, rfl, by decide +kernel, rfl, by decide +kernel, by decide +kernel⟩
theorem q_Reader_take (a : Amb w K mg cs fn) (T : ∀ j, j < 44 → FG P w K mg base cl k (dfs j) (pss j) (t j)) : FG P w K mg base cl (k + 1) (mOf "Reader" "take" "Reader.take" 28 3) ["self", "word"] (f_Reader_take t) := by
  have nd := (sc_Reader_take).nd
  refine fg_def a 13 rfl rfl sc_Reader_take bi_Reader_take fun f cdv A outer s H E hr1 hgd => ?_
  have hr := hr1.mono (Nat.le_succ _)
  have hq := room_q hr
  have hi := room_i hr
  have hp := room_p hr
  have hg1 := room_1 hr
  exact qss_cons (qs_if (qt_cmp (os_ne hq) (qe_meth0 (He.cls_ok (a.more 0 rfl)) (He.meth_ok (a.more 4 rfl)) (T 11 (by decide)) hr hgd (takes_of rfl rfl rfl rfl) (qe_var 0)) (qe_var 1)) (qss_one (qs_expr (qe_meth0 (He.cls_ok (a.more 0 rfl)) (He.meth_ok (a.more 5 rfl)) (T 12 (by decide)) hr hgd (takes_of rfl rfl rfl rfl) (qe_var 0)))) (qss_nil))
      (qss_cons (qs_attAdd (He.cls_ok (a.more 0 rfl)) (He.noat_ok (a.more 3 rfl)) (qe_var 0) (qe_int))
      (qss_one (qs_ret (qe_bin os_sub (qe_att (He.cls_ok (a.more 0 rfl)) (He.noat_ok (a.more 3 rfl)) (qe_var 0)) (qe_int)))))
theorem bi_Reader_take_name : ∀ (kV doc pm : Value) (an : Option Addr) (cdv ct : Value) (us : List Value), us.length = (["self"] : List Str).length → bindArgs (PySem.W.fnOf (mOf "Reader" "take_name" "Reader.take_name" 28 4).name (mOf "Reader" "take_name" "Reader.take_name" 28 4).qual (mOf "Reader" "take_name" "Reader.take_name" 28 4).params (mOf "Reader" "take_name" "Reader.take_name" 28 4).body (mOf "Reader" "take_name" "Reader.take_name" 28 4).scope .none kV doc pm an cdv ct) ⟨us, []⟩ = pure ((["self"] : List Str).zip us) :=
  fun _ _ _ _ _ _ us hl => match us, hl with | [_], _ => rfl
theorem sc_Reader_take_name : FnScope ["self", "word"] ["self"] (mOf "Reader" "take_name" "Reader.take_name" 28 4).scope := ⟨rfl, rfl, rfl, by decide +kernel, rfl, by decide +kernel, by decide +kernel⟩
theorem q_Reader_take_name (a : Amb w K mg cs fn) (T : ∀ j, j < 44 → FG P w K mg base cl k (dfs j) (pss j) (t j)) : FG P w K mg base cl (k + 1) (mOf "Reader" "take_name" "Reader.take_name" 28 4) ["self"] (f_Reader_take_name t) := by
  have nd := (sc_Reader_take_name).nd
  refine fg_def a 14 rfl rfl sc_Reader_take_name bi_Reader_take_name fun f cdv A outer s H E hr1 hgd => ?_
  have hr := hr1.mono (Nat.le_succ _)
  have hq := room_q hr
  have hi := room_i hr
  have hp := room_p hr
  have hg1 := room_1 hr
  exact qss_cons (qs_set 1 nd (qe_meth0 (He.cls_ok (a.more 0 rfl)) (He.meth_ok (a.more 4 rfl)) (T 11 (by decide)) hr hgd (takes_of rfl rfl rfl rfl) (qe_var 0)))
      (qss_cons (qs_if (qt_not (qt_val (qe_fn (T 1 (by decide)) hr hgd (takes_of rfl rfl rfl rfl) (qa_cons (qe_var 1) (qa_nil))))) (qss_one (qs_expr (qe_meth0 (He.cls_ok (a.more 0 rfl)) (He.meth_ok (a.more 5 rfl)) (T 12 (by decide)) hr hgd (takes_of rfl rfl rfl rfl) (qe_var 0)))) (qss_nil))
      (qss_cons (qs_attAdd (He.cls_ok (a.more 0 rfl)) (He.noat_ok (a.more 3 rfl)) (qe_var 0) (qe_int))
      (qss_one (qs_ret (qe_var 1)))))
theorem bi_Reader_statements : ∀ (kV doc pm : Value) (an : Option Addr) (cdv ct : Value) (us : List Value), us.length = (["self"] : List Str).length → bindArgs (PySem.W.fnOf (mOf "Reader" "statements" "Reader.statements" 28 5).name (mOf "Reader" "statements" "Reader.statements" 28 5).qual (mOf "Reader" "statements" "Reader.statements" 28 5).params (mOf "Reader" "statements" "Reader.statements" 28 5).body (mOf "Reader" "statements" "Reader.statements" 28 5).scope .none kV doc pm an cdv ct) ⟨us, []⟩ = pure ((["self"] : List Str).zip us) :=
  fun _ _ _ _ _ _ us hl => match us, hl with | [_], _ => rfl
theorem sc_Reader_statements : FnScope ["self", "found"] ["self"] (mOf "Reader" "statements" "Reader.statements" 28 5).scope := ⟨rfl, rfl, rfl, by decide +kernel, rfl, by decide +kernel, by decide +kernel⟩
theorem q_Reader_statements (a : Amb w K mg cs fn) (T : ∀ j, j < 44 → FG P w K mg base cl k (dfs j) (pss j) (t j)) : FG P w K mg base cl (k + 1) (mOf "Reader" "statements" "Reader.statements" 28 5) ["self"] (f_Reader_statements t) := by
  have nd := (sc_Reader_statements).nd
  refine fg_def a 15 rfl rfl sc_Reader_statements bi_Reader_statements fun f cdv A outer s H E hr1 hgd => ?_
  have hr := hr1.mono (Nat.le_succ _)
  have hq := room_q hr
  have hi := room_i hr
  have hp := room_p hr
  have hg1 := room_1 hr
  exact qss_cons (qs_set 1 nd (qe_lst (qa_nil)))
      (qss_cons (qs_while wN (passes_of rfl) (qt_cmp (os_notIn hi) (qe_meth0 (He.cls_ok (a.more 0 rfl)) (He.meth_ok (a.more 4 rfl)) (T 11 (by decide)) hr hgd (takes_of rfl rfl rfl rfl) (qe_var 0)) (qe_tup (qa_cons (qe_str) (qa_cons (qe_str) (qa_nil))))) (qss_one (qs_expr (qe_bm PySem.F.plainAttrs_list PySem.F.slot_list_append PySem.F.type_list_append ms_append (qe_var 1) (qa_cons (qe_meth0 (He.cls_ok (a.more 0 rfl)) (He.meth_ok (a.more 6 rfl)) (T 16 (by decide)) hr hgd (takes_of rfl rfl rfl rfl) (qe_var 0)) (qa_nil))))))
      (qss_one (qs_ret (qe_callTy (cs_tuple) (a.free 7 rfl) (by decide +kernel) (qa_cons (qe_var 1) (qa_nil))))))
theorem bi_Reader_statement : ∀ (kV doc pm : Value) (an : Option Addr) (cdv ct : Value) (us : List Value), us.length = (["self"] : List Str).length → bindArgs (PySem.W.fnOf (mOf "Reader" "statement" "Reader.statement" 28 6).name (mOf "Reader" "statement" "Reader.statement" 28 6).qual (mOf "Reader" "statement" "Reader.statement" 28 6).params (mOf "Reader" "statement" "Reader.statement" 28 6).body (mOf "Reader" "statement" "Reader.statement" 28 6).scope .none kV doc pm an cdv ct) ⟨us, []⟩ = pure ((["self"] : List Str).zip us) :=
  fun _ _ _ _ _ _ us hl => match us, hl with | [_], _ => rfl
theorem sc_Reader_statement : FnScope ["self", "word"] ["self"] (mOf "Reader" "statement" "Reader.statement" 28 6).scope := ⟨rfl, rfl, rfl, by decide +kernel, rfl, by decide +kernel, by decide +kernel⟩
theorem q_Reader_statement (a : Amb w K mg cs fn) (T : ∀ j, j < 44 → FG P w K mg base cl k (dfs j) (pss j) (t j)) : FG P w K mg base cl (k + 1) (mOf "Reader" "statement" "Reader.statement" 28 6) ["self"] (f_Reader_statement t) := by
  have nd := (sc_Reader_statement).nd
  refine fg_def a 16 rfl rfl sc_Reader_statement bi_Reader_statement fun f cdv A outer s H E hr1 hgd => ?_
  have hr := hr1.mono (Nat.le_succ _)
  have hq := room_q hr
  have hi := room_i hr
  have hp := room_p hr
  have hg1 := room_1 hr
  exact qss_cons (qs_set 1 nd (qe_meth0 (He.cls_ok (a.more 0 rfl)) (He.meth_ok (a.more 4 rfl)) (T 11 (by decide)) hr hgd (takes_of rfl rfl rfl rfl) (qe_var 0)))
      (qss_cons (qs_if (qt_cmp (os_in hi) (qe_var 1) (qe_tup (qa_cons (qe_str) (qa_cons (qe_str) (qa_nil))))) (qss_one (qs_ret (qe_meth (He.cls_ok (a.more 0 rfl)) (He.meth_ok (a.more 7 rfl)) (T 21 (by decide)) hr hgd (takes_of rfl rfl rfl rfl) (qe_var 0) (qa_cons (qe_var 1) (qa_nil))))) (qss_nil))
      (qss_cons (qs_if (qt_cmp (os_eq hq) (qe_var 1) (qe_str)) (qss_one (qs_ret (qe_meth0 (He.cls_ok (a.more 0 rfl)) (He.meth_ok (a.more 8 rfl)) (T 18 (by decide)) hr hgd (takes_of rfl rfl rfl rfl) (qe_var 0)))) (qss_nil))
      (qss_cons (qs_if (qt_cmp (os_eq hq) (qe_ix (qe_var 1) (qe_int)) (qe_con a 3 rfl)) (qss_one (qs_ret (qe_meth (He.cls_ok (a.more 0 rfl)) (He.meth_ok (a.more 9 rfl)) (T 17 (by decide)) hr hgd (takes_of rfl rfl rfl rfl) (qe_var 0) (qa_cons (qe_fn (T 5 (by decide)) hr hgd (takes_of rfl rfl rfl rfl) (qa_cons (qe_var 1) (qa_nil))) (qa_nil))))) (qss_nil))
      (qss_one (qs_ret (qe_meth0 (He.cls_ok (a.more 0 rfl)) (He.meth_ok (a.more 10 rfl)) (T 19 (by decide)) hr hgd (takes_of rfl rfl rfl rfl) (qe_var 0)))))))
theorem bi_Reader_noting : ∀ (kV doc pm : Value) (an : Option Addr) (cdv ct : Value) (us : List Value), us.length = (["self", "note"] : List Str).length → bindArgs (PySem.W.fnOf (mOf "Reader" "noting" "Reader.noting" 28 7).name (mOf "Reader" "noting" "Reader.noting" 28 7).qual (mOf "Reader" "noting" "Reader.noting" 28 7).params (mOf "Reader" "noting" "Reader.noting" 28 7).body (mOf "Reader" "noting" "Reader.noting" 28 7).scope .none kV doc pm an cdv ct) ⟨us, []⟩ = pure ((["self", "note"] : List Str).zip us) :=
  fun _ _ _ _ _ _ us hl => match us, hl with | [_, _], _ => rfl
theorem sc_Reader_noting : FnScope ["self", "note"] ["self", "note"] (mOf "Reader" "noting" "Reader.noting" 28 7).scope := ⟨rfl, rfl, rfl, by decide +kernel, rfl, by decide +kernel, by decide +kernel⟩
theorem q_Reader_noting (a : Amb w K mg cs fn) (T : ∀ j, j < 44 → FG P w K mg base cl k (dfs j) (pss j) (t j)) : FG P w K mg base cl (k + 1) (mOf "Reader" "noting" "Reader.noting" 28 7) ["self", "note"] (f_Reader_noting t) := by
  have nd := (sc_Reader_noting).nd
  refine fg_def a 17 rfl rfl sc_Reader_noting bi_Reader_noting fun f cdv A outer s H E hr1 hgd => ?_
  have hr := hr1.mono (Nat.le_succ _)
  have hq := room_q hr
  have hi := room_i hr
  have hp := room_p hr
  have hg1 := room_1 hr
  exact qss_cons (qs_if (qt_not (qt_val (qe_fn (T 3 (by decide)) hr hgd (takes_of rfl rfl rfl rfl) (qa_cons (qe_var 1) (qa_nil))))) (qss_one (qs_expr (qe_meth0 (He.cls_ok (a.more 0 rfl)) (He.meth_ok (a.more 5 rfl)) (T 12 (by decide)) hr hgd (takes_of rfl rfl rfl rfl) (qe_var 0)))) (qss_nil))
      (qss_cons (qs_attAdd (He.cls_ok (a.more 0 rfl)) (He.noat_ok (a.more 3 rfl)) (qe_var 0) (qe_int))
      (qss_one (qs_ret (qe_fn (T 9 (by decide)) hr hgd (takes_of rfl rfl rfl rfl) (qa_cons (qe_tup (qa_cons (qe_str) (qa_cons (qe_var 1) (qa_nil)))) (qa_cons (qe_tup (qa_nil)) (qa_cons (qe_bin os_sub (qe_att (He.cls_ok (a.more 0 rfl)) (He.noat_ok (a.more 3 rfl)) (qe_var 0)) (qe_int)) (qa_cons (qe_bin os_sub (qe_att (He.cls_ok (a.more 0 rfl)) (He.noat_ok (a.more 3 rfl)) (qe_var 0)) (qe_int)) (qa_nil)))))))))
theorem bi_Reader_giving : ∀ (kV doc pm : Value) (an : Option Addr) (cdv ct : Value) (us : List Value), us.length = (["self"] : List Str).length → bindArgs (PySem.W.fnOf (mOf "Reader" "giving" "Reader.giving" 28 8).name (mOf "Reader" "giving" "Reader.giving" 28 8).qual (mOf "Reader" "giving" "Reader.giving" 28 8).params (mOf "Reader" "giving" "Reader.giving" 28 8).body (mOf "Reader" "giving" "Reader.giving" 28 8).scope .none kV doc pm an cdv ct) ⟨us, []⟩ = pure ((["self"] : List Str).zip us) :=
  fun _ _ _ _ _ _ us hl => match us, hl with | [_], _ => rfl
theorem sc_Reader_giving : FnScope ["self", "first", "given"] ["self"] (mOf "Reader" "giving" "Reader.giving" 28 8).scope := ⟨rfl, rfl, rfl, by decide +kernel, rfl, by decide +kernel, by decide +kernel⟩
theorem q_Reader_giving (a : Amb w K mg cs fn) (T : ∀ j, j < 44 → FG P w K mg base cl k (dfs j) (pss j) (t j)) : FG P w K mg base cl (k + 1) (mOf "Reader" "giving" "Reader.giving" 28 8) ["self"] (f_Reader_giving t) := by
  have nd := (sc_Reader_giving).nd
  refine fg_def a 18 rfl rfl sc_Reader_giving bi_Reader_giving fun f cdv A outer s H E hr1 hgd => ?_
  have hr := hr1.mono (Nat.le_succ _)
  have hq := room_q hr
  have hi := room_i hr
  have hp := room_p hr
  have hg1 := room_1 hr
  exact qss_cons (qs_par 1 2 rfl nd (qa_cons (qe_meth (He.cls_ok (a.more 0 rfl)) (He.meth_ok (a.more 11 rfl)) (T 13 (by decide)) hr hgd (takes_of rfl rfl rfl rfl) (qe_var 0) (qa_cons (qe_str) (qa_nil))) (qa_cons (qe_meth0 (He.cls_ok (a.more 0 rfl)) (He.meth_ok (a.more 12 rfl)) (T 23 (by decide)) hr hgd (takes_of rfl rfl rfl rfl) (qe_var 0)) (qa_nil))))
      (qss_one (qs_ret (qe_fn (T 9 (by decide)) hr hgd (takes_of rfl rfl rfl rfl) (qa_cons (qe_tup (qa_cons (qe_str) (qa_nil))) (qa_cons (qe_tup (qa_cons (qe_tup (qa_cons (qe_var 2) (qa_nil))) (qa_nil))) (qa_cons (qe_var 1) (qa_cons (qe_meth (He.cls_ok (a.more 0 rfl)) (He.meth_ok (a.more 11 rfl)) (T 13 (by decide)) hr hgd (takes_of rfl rfl rfl rfl) (qe_var 0) (qa_cons (qe_str) (qa_nil))) (qa_nil))))))))
theorem bi_Reader_setting : ∀ (kV doc pm : Value) (an : Option Addr) (cdv ct : Value) (us : List Value), us.length = (["self"] : List Str).length → bindArgs (PySem.W.fnOf (mOf "Reader" "setting" "Reader.setting" 28 9).name (mOf "Reader" "setting" "Reader.setting" 28 9).qual (mOf "Reader" "setting" "Reader.setting" 28 9).params (mOf "Reader" "setting" "Reader.setting" 28 9).body (mOf "Reader" "setting" "Reader.setting" 28 9).scope .none kV doc pm an cdv ct) ⟨us, []⟩ = pure ((["self"] : List Str).zip us) :=
  fun _ _ _ _ _ _ us hl => match us, hl with | [_], _ => rfl
theorem sc_Reader_setting : FnScope ["self", "some", "first", "name", "given"] ["self"] (mOf "Reader" "setting" "Reader.setting" 28 9).scope := ⟨rfl, rfl, rfl, by decide +kernel, rfl, by decide +kernel, by decide +kernel⟩
theorem q_Reader_setting (a : Amb w K mg cs fn) (T : ∀ j, j < 44 → FG P w K mg base cl k (dfs j) (pss j) (t j)) : FG P w K mg base cl (k + 1) (mOf "Reader" "setting" "Reader.setting" 28 9) ["self"] (f_Reader_setting t) := by
  have nd := (sc_Reader_setting).nd
  refine fg_def a 19 rfl rfl sc_Reader_setting bi_Reader_setting fun f cdv A outer s H E hr1 hgd => ?_
  have hr := hr1.mono (Nat.le_succ _)
  have hq := room_q hr
  have hi := room_i hr
  have hp := room_p hr
  have hg1 := room_1 hr
  exact qss_cons (qs_par 2 3 rfl nd (qa_cons (qe_att (He.cls_ok (a.more 0 rfl)) (He.noat_ok (a.more 3 rfl)) (qe_var 0)) (qa_cons (qe_meth0 (He.cls_ok (a.more 0 rfl)) (He.meth_ok (a.more 13 rfl)) (T 14 (by decide)) hr hgd (takes_of rfl rfl rfl rfl) (qe_var 0)) (qa_nil))))
      (qss_cons (qs_if (qt_cmp (os_eq hq) (qe_meth0 (He.cls_ok (a.more 0 rfl)) (He.meth_ok (a.more 4 rfl)) (T 11 (by decide)) hr hgd (takes_of rfl rfl rfl rfl) (qe_var 0)) (qe_str)) (qss_cons (qs_expr (qe_meth (He.cls_ok (a.more 0 rfl)) (He.meth_ok (a.more 11 rfl)) (T 13 (by decide)) hr hgd (takes_of rfl rfl rfl rfl) (qe_var 0) (qa_cons (qe_str) (qa_nil))))
      (qss_cons (qs_set 4 nd (qe_meth0 (He.cls_ok (a.more 0 rfl)) (He.meth_ok (a.more 12 rfl)) (T 23 (by decide)) hr hgd (takes_of rfl rfl rfl rfl) (qe_var 0)))
      (qss_one (qs_ret (qe_fn (T 9 (by decide)) hr hgd (takes_of rfl rfl rfl rfl) (qa_cons (qe_tup (qa_cons (qe_str) (qa_cons (qe_var 3) (qa_nil)))) (qa_cons (qe_tup (qa_cons (qe_tup (qa_cons (qe_var 4) (qa_nil))) (qa_nil))) (qa_cons (qe_var 2) (qa_cons (qe_meth (He.cls_ok (a.more 0 rfl)) (He.meth_ok (a.more 11 rfl)) (T 13 (by decide)) hr hgd (takes_of rfl rfl rfl rfl) (qe_var 0) (qa_cons (qe_str) (qa_nil))) (qa_nil)))))))))) (qss_nil))
      (qss_cons (qs_expr (qe_meth (He.cls_ok (a.more 0 rfl)) (He.meth_ok (a.more 11 rfl)) (T 13 (by decide)) hr hgd (takes_of rfl rfl rfl rfl) (qe_var 0) (qa_cons (qe_str) (qa_nil))))
      (qss_cons (qs_set 1 nd (qe_meth (He.cls_ok (a.more 0 rfl)) (He.meth_ok (a.more 14 rfl)) (T 22 (by decide)) hr hgd (takes_of rfl rfl rfl rfl) (qe_var 0) (qa_cons (qe_str) (qa_nil))))
      (qss_cons (qs_expr (qe_meth (He.cls_ok (a.more 0 rfl)) (He.meth_ok (a.more 11 rfl)) (T 13 (by decide)) hr hgd (takes_of rfl rfl rfl rfl) (qe_var 0) (qa_cons (qe_str) (qa_nil))))
      (qss_one (qs_ret (qe_fn (T 9 (by decide)) hr hgd (takes_of rfl rfl rfl rfl) (qa_cons (qe_tup (qa_cons (qe_str) (qa_cons (qe_var 3) (qa_nil)))) (qa_cons (qe_tup (qa_cons (qe_var 1) (qa_nil))) (qa_cons (qe_var 2) (qa_cons (qe_meth (He.cls_ok (a.more 0 rfl)) (He.meth_ok (a.more 11 rfl)) (T 13 (by decide)) hr hgd (takes_of rfl rfl rfl rfl) (qe_var 0) (qa_cons (qe_str) (qa_nil))) (qa_nil))))))))))))
theorem bi_Reader_block : ∀ (kV doc pm : Value) (an : Option Addr) (cdv ct : Value) (us : List Value), us.length = (["self"] : List Str).length → bindArgs (PySem.W.fnOf (mOf "Reader" "block" "Reader.block" 28 10).name (mOf "Reader" "block" "Reader.block" 28 10).qual (mOf "Reader" "block" "Reader.block" 28 10).params (mOf "Reader" "block" "Reader.block" 28 10).body (mOf "Reader" "block" "Reader.block" 28 10).scope .none kV doc pm an cdv ct) ⟨us, []⟩ = pure ((["self"] : List Str).zip us) :=
  fun _ _ _ _ _ _ us hl => match us, hl with | [_], _ => rfl
theorem sc_Reader_block : FnScope ["self"] ["self"] (mOf "Reader" "block" "Reader.block" 28 10).scope := ⟨rfl, rfl, rfl, by decide +kernel, rfl, by decide +kernel, by decide +kernel⟩
theorem q_Reader_block (a : Amb w K mg cs fn) (T : ∀ j, j < 44 → FG P w K mg base cl k (dfs j) (pss j) (t j)) : FG P w K mg base cl (k + 1) (mOf "Reader" "block" "Reader.block" 28 10) ["self"] (f_Reader_block t) := by
  have nd := (sc_Reader_block).nd
  refine fg_def a 20 rfl rfl sc_Reader_block bi_Reader_block fun f cdv A outer s H E hr1 hgd => ?_
  have hr := hr1.mono (Nat.le_succ _)
  have hq := room_q hr
  have hi := room_i hr
  have hp := room_p hr
  have hg1 := room_1 hr
  exact qss_cons (qs_expr (qe_meth (He.cls_ok (a.more 0 rfl)) (He.meth_ok (a.more 11 rfl)) (T 13 (by decide)) hr hgd (takes_of rfl rfl rfl rfl) (qe_var 0) (qa_cons (qe_str) (qa_nil))))
      (qss_one (qs_ret (qe_tup (qa_cons (qe_meth0 (He.cls_ok (a.more 0 rfl)) (He.meth_ok (a.more 15 rfl)) (T 15 (by decide)) hr hgd (takes_of rfl rfl rfl rfl) (qe_var 0)) (qa_cons (qe_meth (He.cls_ok (a.more 0 rfl)) (He.meth_ok (a.more 11 rfl)) (T 13 (by decide)) hr hgd (takes_of rfl rfl rfl rfl) (qe_var 0) (qa_cons (qe_str) (qa_nil))) (qa_nil))))))
theorem bi_Reader_branching : ∀ (kV doc pm : Value) (an : Option Addr) (cdv ct : Value) (us : List Value), us.length = (["self", "kind"] : List Str).length → bindArgs (PySem.W.fnOf (mOf "Reader" "branching" "Reader.branching" 28 11).name (mOf "Reader" "branching" "Reader.branching" 28 11).qual (mOf "Reader" "branching" "Reader.branching" 28 11).params (mOf "Reader" "branching" "Reader.branching" 28 11).body (mOf "Reader" "branching" "Reader.branching" 28 11).scope .none kV doc pm an cdv ct) ⟨us, []⟩ = pure ((["self", "kind"] : List Str).zip us) :=
  fun _ _ _ _ _ _ us hl => match us, hl with | [_, _], _ => rfl
theorem sc_Reader_branching : FnScope ["self", "kind", "others", "first", "asked", "some", "last", "begin", "nodes"] ["self", "kind"] (mOf "Reader" "branching" "Reader.branching" 28 11).scope := ⟨rfl, rfl, rfl, by decide +kernel, rfl, by decide +kernel, by decide +kernel⟩
theorem q_Reader_branching (a : Amb w K mg cs fn) (T : ∀ j, j < 44 → FG P w K mg base cl k (dfs j) (pss j) (t j)) : FG P w K mg base cl (k + 1) (mOf "Reader" "branching" "Reader.branching" 28 11) ["self", "kind"] (f_Reader_branching t) := by
  have nd := (sc_Reader_branching).nd
  refine fg_def a 21 rfl rfl sc_Reader_branching bi_Reader_branching fun f cdv A outer s H E hr1 hgd => ?_
  have hr := hr1.mono (Nat.le_succ _)
  have hq := room_q hr
  have hi := room_i hr
  have hp := room_p hr
  have hg1 := room_1 hr
  exact qss_cons (qs_par 3 4 rfl nd (qa_cons (qe_meth (He.cls_ok (a.more 0 rfl)) (He.meth_ok (a.more 11 rfl)) (T 13 (by decide)) hr hgd (takes_of rfl rfl rfl rfl) (qe_var 0) (qa_cons (qe_var 1) (qa_nil))) (qa_cons (qe_meth0 (He.cls_ok (a.more 0 rfl)) (He.meth_ok (a.more 12 rfl)) (T 23 (by decide)) hr hgd (takes_of rfl rfl rfl rfl) (qe_var 0)) (qa_nil))))
      (qss_cons (qs_asg (qe_meth0 (He.cls_ok (a.more 0 rfl)) (He.meth_ok (a.more 16 rfl)) (T 20 (by decide)) hr hgd (takes_of rfl rfl rfl rfl) (qe_var 0)) (qp_tp rfl (qps_cons (qp_nm 5 nd) (qps_cons (qp_nm 6 nd) (qps_nil)))))
      (qss_cons (qs_if (qt_cmp (os_eq hq) (qe_var 1) (qe_str)) (qss_one (qs_ret (qe_fn (T 9 (by decide)) hr hgd (takes_of rfl rfl rfl rfl) (qa_cons (qe_tup (qa_cons (qe_var 1) (qa_nil))) (qa_cons (qe_tup (qa_cons (qe_tup (qa_cons (qe_var 4) (qa_nil))) (qa_cons (qe_var 5) (qa_nil)))) (qa_cons (qe_var 3) (qa_cons (qe_var 6) (qa_nil)))))))) (qss_nil))
      (qss_cons (qs_set 2 nd (qe_tup (qa_nil)))
      (qss_cons (qs_if (qt_cmp (os_eq hq) (qe_meth0 (He.cls_ok (a.more 0 rfl)) (He.meth_ok (a.more 4 rfl)) (T 11 (by decide)) hr hgd (takes_of rfl rfl rfl rfl) (qe_var 0)) (qe_str)) (qss_cons (qs_set 7 nd (qe_meth (He.cls_ok (a.more 0 rfl)) (He.meth_ok (a.more 11 rfl)) (T 13 (by decide)) hr hgd (takes_of rfl rfl rfl rfl) (qe_var 0) (qa_cons (qe_str) (qa_nil))))
      (qss_cons (qs_asg (qe_meth0 (He.cls_ok (a.more 0 rfl)) (He.meth_ok (a.more 16 rfl)) (T 20 (by decide)) hr hgd (takes_of rfl rfl rfl rfl) (qe_var 0)) (qp_tp rfl (qps_cons (qp_nm 8 nd) (qps_cons (qp_nm 6 nd) (qps_nil)))))
      (qss_one (qs_set 2 nd (qe_tup (qa_cons (qe_fn (T 9 (by decide)) hr hgd (takes_of rfl rfl rfl rfl) (qa_cons (qe_tup (qa_cons (qe_str) (qa_nil))) (qa_cons (qe_tup (qa_cons (qe_var 8) (qa_nil))) (qa_cons (qe_var 7) (qa_cons (qe_var 6) (qa_nil)))))) (qa_nil))))))) (qss_nil))
      (qss_one (qs_ret (qe_fn (T 9 (by decide)) hr hgd (takes_of rfl rfl rfl rfl) (qa_cons (qe_tup (qa_cons (qe_var 1) (qa_nil))) (qa_cons (qe_tup (qa_cons (qe_tup (qa_cons (qe_var 4) (qa_nil))) (qa_cons (qe_var 5) (qa_cons (qe_var 2) (qa_nil))))) (qa_cons (qe_var 3) (qa_cons (qe_var 6) (qa_nil))))))))))))
theorem bi_Reader_expressions : ∀ (kV doc pm : Value) (an : Option Addr) (cdv ct : Value) (us : List Value), us.length = (["self", "closing"] : List Str).length → bindArgs (PySem.W.fnOf (mOf "Reader" "expressions" "Reader.expressions" 28 12).name (mOf "Reader" "expressions" "Reader.expressions" 28 12).qual (mOf "Reader" "expressions" "Reader.expressions" 28 12).params (mOf "Reader" "expressions" "Reader.expressions" 28 12).body (mOf "Reader" "expressions" "Reader.expressions" 28 12).scope .none kV doc pm an cdv ct) ⟨us, []⟩ = pure ((["self", "closing"] : List Str).zip us) :=
  fun _ _ _ _ _ _ us hl => match us, hl with | [_, _], _ => rfl
theorem sc_Reader_expressions : FnScope ["self", "closing", "found"] ["self", "closing"] (mOf "Reader" "expressions" "Reader.expressions" 28 12).scope := ⟨rfl, rfl, rfl, by decide +kernel, rfl, by decide +kernel, by decide +kernel⟩
theorem q_Reader_expressions (a : Amb w K mg cs fn) (T : ∀ j, j < 44 → FG P w K mg base cl k (dfs j) (pss j) (t j)) : FG P w K mg base cl (k + 1) (mOf "Reader" "expressions" "Reader.expressions" 28 12) ["self", "closing"] (f_Reader_expressions t) := by
  have nd := (sc_Reader_expressions).nd
  refine fg_def a 22 rfl rfl sc_Reader_expressions bi_Reader_expressions fun f cdv A outer s H E hr1 hgd => ?_
  have hr := hr1.mono (Nat.le_succ _)
  have hq := room_q hr
  have hi := room_i hr
  have hp := room_p hr
  have hg1 := room_1 hr
  exact qss_cons (qs_set 2 nd (qe_lst (qa_nil)))
      (qss_cons (qs_while wN (passes_of rfl) (qt_cmp (os_ne hq) (qe_meth0 (He.cls_ok (a.more 0 rfl)) (He.meth_ok (a.more 4 rfl)) (T 11 (by decide)) hr hgd (takes_of rfl rfl rfl rfl) (qe_var 0)) (qe_var 1)) (qss_cons (qs_expr (qe_bm PySem.F.plainAttrs_list PySem.F.slot_list_append PySem.F.type_list_append ms_append (qe_var 2) (qa_cons (qe_meth0 (He.cls_ok (a.more 0 rfl)) (He.meth_ok (a.more 12 rfl)) (T 23 (by decide)) hr hgd (takes_of rfl rfl rfl rfl) (qe_var 0)) (qa_nil))))
      (qss_one (qs_if (qt_cmp (os_ne hq) (qe_meth0 (He.cls_ok (a.more 0 rfl)) (He.meth_ok (a.more 4 rfl)) (T 11 (by decide)) hr hgd (takes_of rfl rfl rfl rfl) (qe_var 0)) (qe_var 1)) (qss_one (qs_expr (qe_meth (He.cls_ok (a.more 0 rfl)) (He.meth_ok (a.more 11 rfl)) (T 13 (by decide)) hr hgd (takes_of rfl rfl rfl rfl) (qe_var 0) (qa_cons (qe_str) (qa_nil))))) (qss_nil)))))
      (qss_one (qs_ret (qe_callTy (cs_tuple) (a.free 7 rfl) (by decide +kernel) (qa_cons (qe_var 2) (qa_nil))))))
theorem bi_Reader_expression : ∀ (kV doc pm : Value) (an : Option Addr) (cdv ct : Value) (us : List Value), us.length = (["self"] : List Str).length → bindArgs (PySem.W.fnOf (mOf "Reader" "expression" "Reader.expression" 28 13).name (mOf "Reader" "expression" "Reader.expression" 28 13).qual (mOf "Reader" "expression" "Reader.expression" 28 13).params (mOf "Reader" "expression" "Reader.expression" 28 13).body (mOf "Reader" "expression" "Reader.expression" 28 13).scope .none kV doc pm an cdv ct) ⟨us, []⟩ = pure ((["self"] : List Str).zip us) :=
  fun _ _ _ _ _ _ us hl => match us, hl with | [_], _ => rfl
theorem sc_Reader_expression : FnScope ["self", "term", "found", "kind", "begin", "further"] ["self"] (mOf "Reader" "expression" "Reader.expression" 28 13).scope := ⟨rfl, rfl, rfl, by decide +kernel, rfl, by decide +kernel, by decide +kernel⟩
theorem q_Reader_expression (a : Amb w K mg cs fn) (T : ∀ j, j < 44 → FG P w K mg base cl k (dfs j) (pss j) (t j)) : FG P w K mg base cl (k + 1) (mOf "Reader" "expression" "Reader.expression" 28 13) ["self"] (f_Reader_expression t) := by
  have nd := (sc_Reader_expression).nd
  refine fg_def a 23 rfl rfl sc_Reader_expression bi_Reader_expression fun f cdv A outer s H E hr1 hgd => ?_
  have hr := hr1.mono (Nat.le_succ _)
  have hq := room_q hr
  have hi := room_i hr
  have hp := room_p hr
  have hg1 := room_1 hr
  exact qss_cons (qs_set 1 nd (qe_meth0 (He.cls_ok (a.more 0 rfl)) (He.meth_ok (a.more 17 rfl)) (T 24 (by decide)) hr hgd (takes_of rfl rfl rfl rfl) (qe_var 0)))
      (qss_cons (qs_set 2 nd (qe_lst (qa_cons (qe_fn (T 9 (by decide)) hr hgd (takes_of rfl rfl rfl rfl) (qa_cons (qe_tup (qa_cons (qe_str) (qa_nil))) (qa_cons (qe_tup (qa_cons (qe_tup (qa_cons (qe_var 1) (qa_nil))) (qa_nil))) (qa_cons (qe_ix (qe_var 1) (qe_int)) (qa_cons (qe_ix (qe_var 1) (qe_int)) (qa_nil)))))) (qa_nil))))
      (qss_cons (qs_while wN (passes_of rfl) (qt_cmp (os_in hi) (qe_meth0 (He.cls_ok (a.more 0 rfl)) (He.meth_ok (a.more 4 rfl)) (T 11 (by decide)) hr hgd (takes_of rfl rfl rfl rfl) (qe_var 0)) (qe_tup (qa_cons (qe_con a 9 rfl) (qa_cons (qe_con a 10 rfl) (qa_nil))))) (qss_cons (qs_set 3 nd (qe_if (qt_cmp (os_eq hq) (qe_meth0 (He.cls_ok (a.more 0 rfl)) (He.meth_ok (a.more 4 rfl)) (T 11 (by decide)) hr hgd (takes_of rfl rfl rfl rfl) (qe_var 0)) (qe_con a 9 rfl)) (qe_str) (qe_str)))
      (qss_cons (qs_set 4 nd (qe_meth (He.cls_ok (a.more 0 rfl)) (He.meth_ok (a.more 11 rfl)) (T 13 (by decide)) hr hgd (takes_of rfl rfl rfl rfl) (qe_var 0) (qa_cons (qe_meth0 (He.cls_ok (a.more 0 rfl)) (He.meth_ok (a.more 4 rfl)) (T 11 (by decide)) hr hgd (takes_of rfl rfl rfl rfl) (qe_var 0)) (qa_nil))))
      (qss_cons (qs_set 5 nd (qe_meth0 (He.cls_ok (a.more 0 rfl)) (He.meth_ok (a.more 17 rfl)) (T 24 (by decide)) hr hgd (takes_of rfl rfl rfl rfl) (qe_var 0)))
      (qss_one (qs_expr (qe_bm PySem.F.plainAttrs_list PySem.F.slot_list_append PySem.F.type_list_append ms_append (qe_var 2) (qa_cons (qe_fn (T 9 (by decide)) hr hgd (takes_of rfl rfl rfl rfl) (qa_cons (qe_tup (qa_cons (qe_var 3) (qa_nil))) (qa_cons (qe_tup (qa_cons (qe_tup (qa_cons (qe_var 5) (qa_nil))) (qa_nil))) (qa_cons (qe_var 4) (qa_cons (qe_ix (qe_var 5) (qe_int)) (qa_nil)))))) (qa_nil)))))))))
      (qss_one (qs_ret (qe_if (qt_cmp (os_eq hq) (qe_callB (cs_len) (a.free 3 rfl) (by decide +kernel) (qa_cons (qe_var 2) (qa_nil))) (qe_int)) (qe_var 1) (qe_fn (T 9 (by decide)) hr hgd (takes_of rfl rfl rfl rfl) (qa_cons (qe_tup (qa_cons (qe_str) (qa_nil))) (qa_cons (qe_tup (qa_cons (qe_callTy (cs_tuple) (a.free 7 rfl) (by decide +kernel) (qa_cons (qe_var 2) (qa_nil))) (qa_nil))) (qa_cons (qe_ix (qe_var 1) (qe_int)) (qa_cons (qe_ix (qe_ix (qe_var 2) (qe_un us_neg (qe_int))) (qe_int)) (qa_nil)))))))))))
theorem bi_Reader_term : ∀ (kV doc pm : Value) (an : Option Addr) (cdv ct : Value) (us : List Value), us.length = (["self"] : List Str).length → bindArgs (PySem.W.fnOf (mOf "Reader" "term" "Reader.term" 28 14).name (mOf "Reader" "term" "Reader.term" 28 14).qual (mOf "Reader" "term" "Reader.term" 28 14).params (mOf "Reader" "term" "Reader.term" 28 14).body (mOf "Reader" "term" "Reader.term" 28 14).scope .none kV doc pm an cdv ct) ⟨us, []⟩ = pure ((["self"] : List Str).zip us) :=
  fun _ _ _ _ _ _ us hl => match us, hl with | [_], _ => rfl
theorem sc_Reader_term : FnScope ["self", "name", "some", "word", "first", "inner"] ["self"] (mOf "Reader" "term" "Reader.term" 28 14).scope := ⟨rfl, rfl, rfl, by decide +kernel, rfl, by decide +kernel, by decide +kernel⟩
theorem q_Reader_term (a : Amb w K mg cs fn) (T : ∀ j, j < 44 → FG P w K mg base cl k (dfs j) (pss j) (t j)) : FG P w K mg base cl (k + 1) (mOf "Reader" "term" "Reader.term" 28 14) ["self"] (f_Reader_term t) := by
  have nd := (sc_Reader_term).nd
  refine fg_def a 24 rfl rfl sc_Reader_term bi_Reader_term fun f cdv A outer s H E hr1 hgd => ?_
  have hr := hr1.mono (Nat.le_succ _)
  have hq := room_q hr
  have hi := room_i hr
  have hp := room_p hr
  have hg1 := room_1 hr
  exact qss_cons (qs_par 3 4 rfl nd (qa_cons (qe_meth0 (He.cls_ok (a.more 0 rfl)) (He.meth_ok (a.more 4 rfl)) (T 11 (by decide)) hr hgd (takes_of rfl rfl rfl rfl) (qe_var 0)) (qa_cons (qe_att (He.cls_ok (a.more 0 rfl)) (He.noat_ok (a.more 3 rfl)) (qe_var 0)) (qa_nil))))
      (qss_cons (qs_if (qt_cmp (os_eq hq) (qe_var 3) (qe_str)) (qss_cons (qs_expr (qe_meth (He.cls_ok (a.more 0 rfl)) (He.meth_ok (a.more 11 rfl)) (T 13 (by decide)) hr hgd (takes_of rfl rfl rfl rfl) (qe_var 0) (qa_cons (qe_var 3) (qa_nil))))
      (qss_cons (qs_set 5 nd (qe_meth0 (He.cls_ok (a.more 0 rfl)) (He.meth_ok (a.more 12 rfl)) (T 23 (by decide)) hr hgd (takes_of rfl rfl rfl rfl) (qe_var 0)))
      (qss_one (qs_ret (qe_fn (T 9 (by decide)) hr hgd (takes_of rfl rfl rfl rfl) (qa_cons (qe_tup (qa_cons (qe_str) (qa_nil))) (qa_cons (qe_tup (qa_cons (qe_tup (qa_cons (qe_var 5) (qa_nil))) (qa_nil))) (qa_cons (qe_var 4) (qa_cons (qe_meth (He.cls_ok (a.more 0 rfl)) (He.meth_ok (a.more 11 rfl)) (T 13 (by decide)) hr hgd (takes_of rfl rfl rfl rfl) (qe_var 0) (qa_cons (qe_str) (qa_nil))) (qa_nil)))))))))) (qss_nil))
      (qss_cons (qs_if (qt_cmp (os_eq hq) (qe_var 3) (qe_str)) (qss_cons (qs_expr (qe_meth (He.cls_ok (a.more 0 rfl)) (He.meth_ok (a.more 11 rfl)) (T 13 (by decide)) hr hgd (takes_of rfl rfl rfl rfl) (qe_var 0) (qa_cons (qe_var 3) (qa_nil))))
      (qss_cons (qs_set 2 nd (qe_meth (He.cls_ok (a.more 0 rfl)) (He.meth_ok (a.more 14 rfl)) (T 22 (by decide)) hr hgd (takes_of rfl rfl rfl rfl) (qe_var 0) (qa_cons (qe_str) (qa_nil))))
      (qss_one (qs_ret (qe_fn (T 9 (by decide)) hr hgd (takes_of rfl rfl rfl rfl) (qa_cons (qe_tup (qa_cons (qe_str) (qa_nil))) (qa_cons (qe_tup (qa_cons (qe_var 2) (qa_nil))) (qa_cons (qe_var 4) (qa_cons (qe_meth (He.cls_ok (a.more 0 rfl)) (He.meth_ok (a.more 11 rfl)) (T 13 (by decide)) hr hgd (takes_of rfl rfl rfl rfl) (qe_var 0) (qa_cons (qe_str) (qa_nil))) (qa_nil)))))))))) (qss_nil))
      (qss_cons (qs_if (qt_val (qe_fn (T 2 (by decide)) hr hgd (takes_of rfl rfl rfl rfl) (qa_cons (qe_var 3) (qa_nil)))) (qss_one (qs_ret (qe_fn (T 9 (by decide)) hr hgd (takes_of rfl rfl rfl rfl) (qa_cons (qe_tup (qa_cons (qe_str) (qa_cons (qe_var 3) (qa_nil)))) (qa_cons (qe_tup (qa_nil)) (qa_cons (qe_var 4) (qa_cons (qe_meth (He.cls_ok (a.more 0 rfl)) (He.meth_ok (a.more 11 rfl)) (T 13 (by decide)) hr hgd (takes_of rfl rfl rfl rfl) (qe_var 0) (qa_cons (qe_var 3) (qa_nil))) (qa_nil)))))))) (qss_nil))
      (qss_cons (qs_set 1 nd (qe_meth0 (He.cls_ok (a.more 0 rfl)) (He.meth_ok (a.more 13 rfl)) (T 14 (by decide)) hr hgd (takes_of rfl rfl rfl rfl) (qe_var 0)))
      (qss_cons (qs_if (qt_cmp (os_ne hq) (qe_meth0 (He.cls_ok (a.more 0 rfl)) (He.meth_ok (a.more 4 rfl)) (T 11 (by decide)) hr hgd (takes_of rfl rfl rfl rfl) (qe_var 0)) (qe_str)) (qss_one (qs_ret (qe_fn (T 9 (by decide)) hr hgd (takes_of rfl rfl rfl rfl) (qa_cons (qe_tup (qa_cons (qe_str) (qa_cons (qe_var 1) (qa_nil)))) (qa_cons (qe_tup (qa_nil)) (qa_cons (qe_var 4) (qa_cons (qe_var 4) (qa_nil)))))))) (qss_nil))
      (qss_cons (qs_expr (qe_meth (He.cls_ok (a.more 0 rfl)) (He.meth_ok (a.more 11 rfl)) (T 13 (by decide)) hr hgd (takes_of rfl rfl rfl rfl) (qe_var 0) (qa_cons (qe_str) (qa_nil))))
      (qss_cons (qs_set 2 nd (qe_meth (He.cls_ok (a.more 0 rfl)) (He.meth_ok (a.more 14 rfl)) (T 22 (by decide)) hr hgd (takes_of rfl rfl rfl rfl) (qe_var 0) (qa_cons (qe_str) (qa_nil))))
      (qss_one (qs_ret (qe_fn (T 9 (by decide)) hr hgd (takes_of rfl rfl rfl rfl) (qa_cons (qe_tup (qa_cons (qe_str) (qa_cons (qe_var 1) (qa_nil)))) (qa_cons (qe_tup (qa_cons (qe_var 2) (qa_nil))) (qa_cons (qe_var 4) (qa_cons (qe_meth (He.cls_ok (a.more 0 rfl)) (He.meth_ok (a.more 11 rfl)) (T 13 (by decide)) hr hgd (takes_of rfl rfl rfl rfl) (qe_var 0) (qa_cons (qe_str) (qa_nil))) (qa_nil)))))))))))))))
theorem bi_nodes_of : ∀ (kV doc pm : Value) (an : Option Addr) (cdv ct : Value) (us : List Value), us.length = (["text"] : List Str).length → bindArgs (PySem.W.fnOf (dOf "nodes_of" 29).name (dOf "nodes_of" 29).qual (dOf "nodes_of" 29).params (dOf "nodes_of" 29).body (dOf "nodes_of" 29).scope .none kV doc pm an cdv ct) ⟨us, []⟩ = pure ((["text"] : List Str).zip us) :=
  fun _ _ _ _ _ _ us hl => match us, hl with | [_], _ => rfl
theorem sc_nodes_of : FnScope ["text", "reader", "found"] ["text"] (dOf "nodes_of" 29).scope := ⟨rfl, rfl, rfl, by decide +kernel, rfl, by decide +kernel, by decide +kernel⟩
theorem q_nodes_of (a : Amb w K mg cs fn) (T : ∀ j, j < 44 → FG P w K mg base cl k (dfs j) (pss j) (t j)) : FG P w K mg base cl (k + 1) (dOf "nodes_of" 29) ["text"] (f_nodes_of t) := by
  have nd := (sc_nodes_of).nd
  refine fg_def a 25 rfl rfl sc_nodes_of bi_nodes_of fun f cdv A outer s H E hr1 hgd => ?_
  have hr := hr1.mono (Nat.le_succ _)
  have hq := room_q hr
  have hi := room_i hr
  have hp := room_p hr
  have hg1 := room_1 hr
  exact qss_cons (qs_if (qt_not (qt_val (qe_isi "str" (qe_var 0) (a.free 1 rfl) (a.free 2 rfl) (by decide) (by decide +kernel)))) (qss_one (qs_bad)) (qss_nil))
      (qss_cons (qs_set 1 nd (qe_make (He.mkr_ok (a.more 19 rfl)) (a.mglo 18 rfl) (T 10 (by decide)) hr1 hgd (takes_of rfl rfl rfl rfl) (qa_cons (qe_var 0) (qa_nil))))
      (qss_cons (qs_set 2 nd (qe_meth0 (He.cls_ok (a.more 0 rfl)) (He.meth_ok (a.more 15 rfl)) (T 15 (by decide)) hr hgd (takes_of rfl rfl rfl rfl) (qe_var 1)))
      (qss_cons (qs_if (qt_cmp (os_ne hq) (qe_meth0 (He.cls_ok (a.more 0 rfl)) (He.meth_ok (a.more 4 rfl)) (T 11 (by decide)) hr hgd (takes_of rfl rfl rfl rfl) (qe_var 1)) (qe_str)) (qss_one (qs_expr (qe_meth0 (He.cls_ok (a.more 0 rfl)) (He.meth_ok (a.more 5 rfl)) (T 12 (by decide)) hr hgd (takes_of rfl rfl rfl rfl) (qe_var 1)))) (qss_nil))
      (qss_one (qs_ret (qe_tup (qa_cons (qe_var 2) (qa_cons (qe_att (He.cls_ok (a.more 0 rfl)) (He.noat_ok (a.more 1 rfl)) (qe_var 1)) (qa_nil)))))))))
theorem bi_parts_of : ∀ (kV doc pm : Value) (an : Option Addr) (cdv ct : Value) (us : List Value), us.length = (["nodes"] : List Str).length → bindArgs (PySem.W.fnOf (dOf "parts_of" 30).name (dOf "parts_of" 30).qual (dOf "parts_of" 30).params (dOf "parts_of" 30).body (dOf "parts_of" 30).scope .none kV doc pm an cdv ct) ⟨us, []⟩ = pure ((["nodes"] : List Str).zip us) :=
  fun _ _ _ _ _ _ us hl => match us, hl with | [_], _ => rfl
theorem sc_parts_of : FnScope ["nodes", "label", "lots", "first", "last", "lot"] ["nodes"] (dOf "parts_of" 30).scope := ⟨rfl, rfl, rfl, by decide +kernel, rfl, by decide +kernel, by decide +kernel⟩
theorem q_parts_of (a : Amb w K mg cs fn) (T : ∀ j, j < 44 → FG P w K mg base cl k (dfs j) (pss j) (t j)) : FG P w K mg base cl (k + 1) (dOf "parts_of" 30) ["nodes"] (f_parts_of t) := by
  have nd := (sc_parts_of).nd
  refine fg_def a 26 rfl rfl sc_parts_of bi_parts_of fun f cdv A outer s H E hr1 hgd => ?_
  have hr := hr1.mono (Nat.le_succ _)
  have hq := room_q hr
  have hi := room_i hr
  have hp := room_p hr
  have hg1 := room_1 hr
  exact qss_one (qs_ret (qe_callTy (cs_tuple) (a.free 7 rfl) (by decide +kernel) (qa_cons (qe_lc rfl nd (qi_val (qe_var 0)) (ok := blkOk_by (own := [("label", 1), ("lots", 2), ("first", 3), ("last", 4)]) (by first | rfl | kernel_rfl)) (fun _ _ _ _ _ => qp_tp rfl (qps_cons (qp_nm 1 nd) (qps_cons (qp_nm 2 nd) (qps_cons (qp_nm 3 nd) (qps_cons (qp_nm 4 nd) (qps_nil)))))) (fun _ _ _ _ _ => qts_nil) (fun _ _ _ _ _ => qe_tup (qa_cons (qe_var 1) (qa_cons (qe_callTy (cs_tuple) (a.free 7 rfl) (by decide +kernel) (qa_cons (qe_lc rfl nd (qi_val (qe_var 2)) (ok := blkOk_by (own := [("lot", 5)]) (by first | rfl | kernel_rfl)) (fun _ _ _ _ _ => qp_nm 5 nd) (fun _ _ _ _ _ => qts_nil) (fun _ _ _ _ _ => qe_fn (T 26 (by decide)) hr hgd (takes_no _) (qa_cons (qe_var 5) (qa_nil)))) (qa_nil))) (qa_nil))))) (qa_nil))))
theorem bi_read : ∀ (kV doc pm : Value) (an : Option Addr) (cdv ct : Value) (us : List Value), us.length = (["text"] : List Str).length → bindArgs (PySem.W.fnOf (dOf "read" 31).name (dOf "read" 31).qual (dOf "read" 31).params (dOf "read" 31).body (dOf "read" 31).scope .none kV doc pm an cdv ct) ⟨us, []⟩ = pure ((["text"] : List Str).zip us) :=
  fun _ _ _ _ _ _ us hl => match us, hl with | [_], _ => rfl
theorem sc_read : FnScope ["text", "nodes", "words"] ["text"] (dOf "read" 31).scope := ⟨rfl, rfl, rfl, by decide +kernel, rfl, by decide +kernel, by decide +kernel⟩
theorem q_read (a : Amb w K mg cs fn) (T : ∀ j, j < 44 → FG P w K mg base cl k (dfs j) (pss j) (t j)) : FG P w K mg base cl (k + 1) (dOf "read" 31) ["text"] (f_read t) := by
  have nd := (sc_read).nd
  refine fg_def a 27 rfl rfl sc_read bi_read fun f cdv A outer s H E hr1 hgd => ?_
  have hr := hr1.mono (Nat.le_succ _)
  have hq := room_q hr
  have hi := room_i hr
  have hp := room_p hr
  have hg1 := room_1 hr
  exact qss_cons (qs_asg (qe_fn (T 25 (by decide)) hr hgd (takes_of rfl rfl rfl rfl) (qa_cons (qe_var 0) (qa_nil))) (qp_tp rfl (qps_cons (qp_nm 1 nd) (qps_cons (qp_nm 2 nd) (qps_nil)))))
      (qss_one (qs_ret (qe_fn (T 26 (by decide)) hr hgd (takes_of rfl rfl rfl rfl) (qa_cons (qe_var 1) (qa_nil)))))
theorem bi_is_label : ∀ (kV doc pm : Value) (an : Option Addr) (cdv ct : Value) (us : List Value), us.length = (["label"] : List Str).length → bindArgs (PySem.W.fnOf (dOf "is_label" 46).name (dOf "is_label" 46).qual (dOf "is_label" 46).params (dOf "is_label" 46).body (dOf "is_label" 46).scope .none kV doc pm an cdv ct) ⟨us, []⟩ = pure ((["label"] : List Str).zip us) :=
  fun _ _ _ _ _ _ us hl => match us, hl with | [_], _ => rfl
theorem sc_is_label : FnScope ["label"] ["label"] (dOf "is_label" 46).scope := ⟨rfl, rfl, rfl, by decide +kernel, rfl, by decide +kernel, by decide +kernel⟩
theorem q_is_label (a : Amb w K mg cs fn) (T : ∀ j, j < 44 → FG P w K mg base cl k (dfs j) (pss j) (t j)) : FG P w K mg base cl (k + 1) (dOf "is_label" 46) ["label"] (f_is_label t) := by
  have nd := (sc_is_label).nd
  refine fg_def a 28 rfl rfl sc_is_label bi_is_label fun f cdv A outer s H E hr1 hgd => ?_
  have hr := hr1.mono (Nat.le_succ _)
  have hq := room_q hr
  have hi := room_i hr
  have hp := room_p hr
  have hg1 := room_1 hr
  exact qss_cons (qs_if (qt_cmp (os_in hi) (qe_ix (qe_var 0) (qe_int)) (qe_con a 15 rfl)) (qss_one (qs_ret (qe_and (qe_cmp (os_eq hq) (qe_callB (cs_len) (a.free 3 rfl) (by decide +kernel) (qa_cons (qe_var 0) (qa_nil))) (qe_con a 11 rfl)) (qe_one (qe_fn (T 1 (by decide)) hr hgd (takes_of rfl rfl rfl rfl) (qa_cons (qe_ix (qe_var 0) (qe_int)) (qa_nil))))))) (qss_nil))
      (qss_cons (qs_if (qt_cmp (os_eq hq) (qe_ix (qe_var 0) (qe_int)) (qe_str)) (qss_one (qs_ret (qe_and (qe_cmp (os_eq hq) (qe_callB (cs_len) (a.free 3 rfl) (by decide +kernel) (qa_cons (qe_var 0) (qa_nil))) (qe_con a 11 rfl)) (qe_one (qe_fn (T 2 (by decide)) hr hgd (takes_of rfl rfl rfl rfl) (qa_cons (qe_ix (qe_var 0) (qe_int)) (qa_nil))))))) (qss_nil))
      (qss_cons (qs_if (qt_cmp (os_eq hq) (qe_ix (qe_var 0) (qe_int)) (qe_str)) (qss_one (qs_ret (qe_and (qe_cmp (os_eq hq) (qe_callB (cs_len) (a.free 3 rfl) (by decide +kernel) (qa_cons (qe_var 0) (qa_nil))) (qe_con a 11 rfl)) (qe_one (qe_fn (T 3 (by decide)) hr hgd (takes_of rfl rfl rfl rfl) (qa_cons (qe_ix (qe_var 0) (qe_int)) (qa_nil))))))) (qss_nil))
      (qss_one (qs_ret (qe_cmp (os_eq hq) (qe_callB (cs_len) (a.free 3 rfl) (by decide +kernel) (qa_cons (qe_var 0) (qa_nil))) (qe_int))))))
theorem bi_is_part : ∀ (kV doc pm : Value) (an : Option Addr) (cdv ct : Value) (us : List Value), us.length = (["value", "kinds"] : List Str).length → bindArgs (PySem.W.fnOf (dOf "is_part" 47).name (dOf "is_part" 47).qual (dOf "is_part" 47).params (dOf "is_part" 47).body (dOf "is_part" 47).scope .none kV doc pm an cdv ct) ⟨us, []⟩ = pure ((["value", "kinds"] : List Str).zip us) :=
  fun _ _ _ _ _ _ us hl => match us, hl with | [_, _], _ => rfl
theorem sc_is_part : FnScope ["value", "kinds", "sorts", "label", "lots", "lot", "sort"] ["value", "kinds"] (dOf "is_part" 47).scope := ⟨rfl, rfl, rfl, by decide +kernel, rfl, by decide +kernel, by decide +kernel⟩
theorem q_is_part (a : Amb w K mg cs fn) (T : ∀ j, j < 44 → FG P w K mg base cl k (dfs j) (pss j) (t j)) : FG P w K mg base cl (k + 1) (dOf "is_part" 47) ["value", "kinds"] (f_is_part t) := by
  have nd := (sc_is_part).nd
  refine fg_def a 29 rfl rfl sc_is_part bi_is_part fun f cdv A outer s H E hr1 hgd => ?_
  have hr := hr1.mono (Nat.le_succ _)
  have hq := room_q hr
  have hi := room_i hr
  have hp := room_p hr
  have hg1 := room_1 hr
  exact qss_cons (qs_if (qt_w (qw_or (qt_not (qt_val (qe_isi "tuple" (qe_var 0) (a.free 1 rfl) (a.free 7 rfl) (by decide) (by decide +kernel)))) (qw_or1 (qt_cmp (os_ne hq) (qe_callB (cs_len) (a.free 3 rfl) (by decide +kernel) (qa_cons (qe_var 0) (qa_nil))) (qe_con a 11 rfl))))) (qss_one (qs_ret (qe_bl))) (qss_nil))
      (qss_cons (qs_asg (qe_var 0) (qp_tp rfl (qps_cons (qp_nm 3 nd) (qps_cons (qp_nm 4 nd) (qps_nil)))))
      (qss_cons (qs_if (qt_w (qw_or (qt_not (qt_val (qe_isi "tuple" (qe_var 3) (a.free 1 rfl) (a.free 7 rfl) (by decide) (by decide +kernel)))) (qw_or (qt_cmp (os_eq hq) (qe_var 3) (qe_tup (qa_nil))) (qw_or (qt_cmp (os_notIn hi) (qe_ix (qe_var 3) (qe_int)) (qe_var 1)) (qw_or1 (qt_not (qt_val (qe_fn (T 28 (by decide)) hr hgd (takes_of rfl rfl rfl rfl) (qa_cons (qe_var 3) (qa_nil)))))))))) (qss_one (qs_ret (qe_bl))) (qss_nil))
      (qss_cons (qs_set 2 nd (qe_tab a 0 rfl (qe_ix (qe_var 3) (qe_int))))
      (qss_cons (qs_if (qt_w (qw_or (qt_not (qt_val (qe_isi "tuple" (qe_var 4) (a.free 1 rfl) (a.free 7 rfl) (by decide) (by decide +kernel)))) (qw_or1 (qt_cmp (os_ne hq) (qe_callB (cs_len) (a.free 3 rfl) (by decide +kernel) (qa_cons (qe_var 4) (qa_nil))) (qe_callB (cs_len) (a.free 3 rfl) (by decide +kernel) (qa_cons (qe_var 2) (qa_nil))))))) (qss_one (qs_ret (qe_bl))) (qss_nil))
      (qss_one (qs_ret (qe_callB (cs_all rfl) (a.free 0 rfl) (by decide +kernel) (qa_cons (qe_lc rfl nd (qi_zip (a.free 8 rfl) (qa_cons (qe_var 4) (qa_cons (qe_var 2) (qa_nil)))) (ok := blkOk_by (own := [("lot", 5), ("sort", 6)]) (by first | rfl | kernel_rfl)) (fun _ _ _ _ _ => qp_tp rfl (qps_cons (qp_nm 5 nd) (qps_cons (qp_nm 6 nd) (qps_nil)))) (fun _ _ _ _ _ => qts_nil) (fun _ _ _ _ _ => qe_fn (T 30 (by decide)) hr hgd (takes_no _) (qa_cons (qe_var 5) (qa_cons (qe_var 6) (qa_nil))))) (qa_nil)))))))))
theorem bi_is_lot : ∀ (kV doc pm : Value) (an : Option Addr) (cdv ct : Value) (us : List Value), us.length = (["value", "sort"] : List Str).length → bindArgs (PySem.W.fnOf (dOf "is_lot" 48).name (dOf "is_lot" 48).qual (dOf "is_lot" 48).params (dOf "is_lot" 48).body (dOf "is_lot" 48).scope .none kV doc pm an cdv ct) ⟨us, []⟩ = pure ((["value", "sort"] : List Str).zip us) :=
  fun _ _ _ _ _ _ us hl => match us, hl with | [_, _], _ => rfl
theorem sc_is_lot : FnScope ["value", "sort", "kinds", "least", "most", "one"] ["value", "sort"] (dOf "is_lot" 48).scope := ⟨rfl, rfl, rfl, by decide +kernel, rfl, by decide +kernel, by decide +kernel⟩
theorem q_is_lot (a : Amb w K mg cs fn) (T : ∀ j, j < 44 → FG P w K mg base cl k (dfs j) (pss j) (t j)) : FG P w K mg base cl (k + 1) (dOf "is_lot" 48) ["value", "sort"] (f_is_lot t) := by
  have nd := (sc_is_lot).nd
  refine fg_def a 30 rfl rfl sc_is_lot bi_is_lot fun f cdv A outer s H E hr1 hgd => ?_
  have hr := hr1.mono (Nat.le_succ _)
  have hq := room_q hr
  have hi := room_i hr
  have hp := room_p hr
  have hg1 := room_1 hr
  exact qss_cons (qs_asg (qe_tab a 1 rfl (qe_var 1)) (qp_tp rfl (qps_cons (qp_nm 2 nd) (qps_cons (qp_nm 3 nd) (qps_cons (qp_nm 4 nd) (qps_nil))))))
      (qss_cons (qs_if (qt_w (qw_or (qt_not (qt_val (qe_isi "tuple" (qe_var 0) (a.free 1 rfl) (a.free 7 rfl) (by decide) (by decide +kernel)))) (qw_or (qt_cmp (os_lt) (qe_callB (cs_len) (a.free 3 rfl) (by decide +kernel) (qa_cons (qe_var 0) (qa_nil))) (qe_var 3)) (qw_or1 (qt_w (qw_and (qt_cmp (os_notN) (qe_var 4) (qe_non)) (qw_and1 (qt_cmp (os_gt) (qe_callB (cs_len) (a.free 3 rfl) (by decide +kernel) (qa_cons (qe_var 0) (qa_nil))) (qe_var 4))))))))) (qss_one (qs_ret (qe_bl))) (qss_nil))
      (qss_cons (qs_if (qt_not (qt_val (qe_callB (cs_all rfl) (a.free 0 rfl) (by decide +kernel) (qa_cons (qe_lc rfl nd (qi_val (qe_var 0)) (ok := blkOk_by (own := [("one", 5)]) (by first | rfl | kernel_rfl)) (fun _ _ _ _ _ => qp_nm 5 nd) (fun _ _ _ _ _ => qts_nil) (fun _ _ _ _ _ => qe_fn (T 29 (by decide)) hr hgd (takes_no _) (qa_cons (qe_var 5) (qa_cons (qe_var 2) (qa_nil))))) (qa_nil))))) (qss_one (qs_ret (qe_bl))) (qss_nil))
      (qss_one (qs_ret (qe_or (qe_cmp (os_ne hq) (qe_var 1) (qe_con a 20 rfl)) (qe_one (qe_cmp (os_eq hq) (qe_ix (qe_ix (qe_var 0) (qe_int)) (qe_int)) (qe_tup (qa_cons (qe_str) (qa_nil))))))))))
theorem bi_is_tree : ∀ (kV doc pm : Value) (an : Option Addr) (cdv ct : Value) (us : List Value), us.length = (["value"] : List Str).length → bindArgs (PySem.W.fnOf (dOf "is_tree" 49).name (dOf "is_tree" 49).qual (dOf "is_tree" 49).params (dOf "is_tree" 49).body (dOf "is_tree" 49).scope .none kV doc pm an cdv ct) ⟨us, []⟩ = pure ((["value"] : List Str).zip us) :=
  fun _ _ _ _ _ _ us hl => match us, hl with | [_], _ => rfl
theorem sc_is_tree : FnScope ["value"] ["value"] (dOf "is_tree" 49).scope := ⟨rfl, rfl, rfl, by decide +kernel, rfl, by decide +kernel, by decide +kernel⟩
theorem q_is_tree (a : Amb w K mg cs fn) (T : ∀ j, j < 44 → FG P w K mg base cl k (dfs j) (pss j) (t j)) : FG P w K mg base cl (k + 1) (dOf "is_tree" 49) ["value"] (f_is_tree t) := by
  have nd := (sc_is_tree).nd
  refine fg_def a 31 rfl rfl sc_is_tree bi_is_tree fun f cdv A outer s H E hr1 hgd => ?_
  have hr := hr1.mono (Nat.le_succ _)
  have hq := room_q hr
  have hi := room_i hr
  have hp := room_p hr
  have hg1 := room_1 hr
  exact qss_one (qs_ret (qe_fn (T 30 (by decide)) hr hgd (takes_of rfl rfl rfl rfl) (qa_cons (qe_var 0) (qa_cons (qe_con a 18 rfl) (qa_nil)))))
theorem bi_check_tree : ∀ (kV doc pm : Value) (an : Option Addr) (cdv ct : Value) (us : List Value), us.length = (["value"] : List Str).length → bindArgs (PySem.W.fnOf (dOf "check_tree" 50).name (dOf "check_tree" 50).qual (dOf "check_tree" 50).params (dOf "check_tree" 50).body (dOf "check_tree" 50).scope .none kV doc pm an cdv ct) ⟨us, []⟩ = pure ((["value"] : List Str).zip us) :=
  fun _ _ _ _ _ _ us hl => match us, hl with | [_], _ => rfl
theorem sc_check_tree : FnScope ["value"] ["value"] (dOf "check_tree" 50).scope := ⟨rfl, rfl, rfl, by decide +kernel, rfl, by decide +kernel, by decide +kernel⟩
theorem q_check_tree (a : Amb w K mg cs fn) (T : ∀ j, j < 44 → FG P w K mg base cl k (dfs j) (pss j) (t j)) : FG P w K mg base cl (k + 1) (dOf "check_tree" 50) ["value"] (f_check_tree t) := by
  have nd := (sc_check_tree).nd
  refine fg_def a 32 rfl rfl sc_check_tree bi_check_tree fun f cdv A outer s H E hr1 hgd => ?_
  have hr := hr1.mono (Nat.le_succ _)
  have hq := room_q hr
  have hi := room_i hr
  have hp := room_p hr
  have hg1 := room_1 hr
  exact qss_one (qs_if (qt_not (qt_val (qe_fn (T 31 (by decide)) hr hgd (takes_of rfl rfl rfl rfl) (qa_cons (qe_var 0) (qa_nil))))) (qss_one (qs_bad)) (qss_nil))
theorem bi_lot_at : ∀ (kV doc pm : Value) (an : Option Addr) (cdv ct : Value) (us : List Value), us.length = (["tree", "path"] : List Str).length → bindArgs (PySem.W.fnOf (dOf "lot_at" 51).name (dOf "lot_at" 51).qual (dOf "lot_at" 51).params (dOf "lot_at" 51).body (dOf "lot_at" 51).scope .none kV doc pm an cdv ct) ⟨us, []⟩ = pure ((["tree", "path"] : List Str).zip us) :=
  fun _ _ _ _ _ _ us hl => match us, hl with | [_, _], _ => rfl
theorem sc_lot_at : FnScope ["tree", "path", "lot", "at"] ["tree", "path"] (dOf "lot_at" 51).scope := ⟨rfl, rfl, rfl, by decide +kernel, rfl, by decide +kernel, by decide +kernel⟩
theorem q_lot_at (a : Amb w K mg cs fn) (T : ∀ j, j < 44 → FG P w K mg base cl k (dfs j) (pss j) (t j)) : FG P w K mg base cl (k + 1) (dOf "lot_at" 51) ["tree", "path"] (f_lot_at t) := by
  have nd := (sc_lot_at).nd
  refine fg_def a 33 rfl rfl sc_lot_at bi_lot_at fun f cdv A outer s H E hr1 hgd => ?_
  have hr := hr1.mono (Nat.le_succ _)
  have hq := room_q hr
  have hi := room_i hr
  have hp := room_p hr
  have hg1 := room_1 hr
  exact qss_cons (qs_set 2 nd (qe_var 0))
      (qss_cons (qs_for (passes_of rfl) rfl (qi_range3 (a.free 9 rfl) (qa_cons (qe_int) (qa_cons (qe_callB (cs_len) (a.free 3 rfl) (by decide +kernel) (qa_cons (qe_var 1) (qa_nil))) (qa_cons (qe_con a 11 rfl) (qa_nil))))) (qp_nm 3 nd) (qss_one (qs_set 2 nd (qe_ix (qe_ix (qe_ix (qe_var 2) (qe_ix (qe_var 1) (qe_var 3))) (qe_int)) (qe_ix (qe_var 1) (qe_bin os_add (qe_var 3) (qe_int)))))))
      (qss_one (qs_ret (qe_var 2))))
theorem bi_leads : ∀ (kV doc pm : Value) (an : Option Addr) (cdv ct : Value) (us : List Value), us.length = (["tree", "path"] : List Str).length → bindArgs (PySem.W.fnOf (dOf "leads" 52).name (dOf "leads" 52).qual (dOf "leads" 52).params (dOf "leads" 52).body (dOf "leads" 52).scope .none kV doc pm an cdv ct) ⟨us, []⟩ = pure ((["tree", "path"] : List Str).zip us) :=
  fun _ _ _ _ _ _ us hl => match us, hl with | [_, _], _ => rfl
theorem sc_leads : FnScope ["tree", "path", "lot", "part", "at", "number", "some"] ["tree", "path"] (dOf "leads" 52).scope := ⟨rfl, rfl, rfl, by decide +kernel, rfl, by decide +kernel, by decide +kernel⟩
theorem q_leads (a : Amb w K mg cs fn) (T : ∀ j, j < 44 → FG P w K mg base cl k (dfs j) (pss j) (t j)) : FG P w K mg base cl (k + 1) (dOf "leads" 52) ["tree", "path"] (f_leads t) := by
  have nd := (sc_leads).nd
  refine fg_def a 34 rfl rfl sc_leads bi_leads fun f cdv A outer s H E hr1 hgd => ?_
  have hr := hr1.mono (Nat.le_succ _)
  have hq := room_q hr
  have hi := room_i hr
  have hp := room_p hr
  have hg1 := room_1 hr
  exact qss_cons (qs_if (qt_w (qw_or (qt_not (qt_val (qe_isi "tuple" (qe_var 1) (a.free 1 rfl) (a.free 7 rfl) (by decide) (by decide +kernel)))) (qw_or1 (qt_cmp (os_ne hq) (qe_bin os_mod (qe_callB (cs_len) (a.free 3 rfl) (by decide +kernel) (qa_cons (qe_var 1) (qa_nil))) (qe_con a 11 rfl)) (qe_int))))) (qss_one (qs_ret (qe_bl))) (qss_nil))
      (qss_cons (qs_par 2 3 rfl nd (qa_cons (qe_var 0) (qa_cons (qe_non) (qa_nil))))
      (qss_cons (qs_for (passes_of rfl) rfl (qi_enum (a.free 6 rfl) (qa_cons (qe_var 1) (qa_nil))) (qp_tp rfl (qps_cons (qp_nm 4 nd) (qps_cons (qp_nm 5 nd) (qps_nil)))) (qss_cons (qs_set 6 nd (qe_if (qt_cmp (os_eq hq) (qe_bin os_mod (qe_var 4) (qe_con a 11 rfl)) (qe_int)) (qe_var 2) (qe_ix (qe_var 3) (qe_int))))
      (qss_cons (qs_if (qt_not (qt_val (qe_fn (T 4 (by decide)) hr hgd (takes_of rfl rfl rfl rfl) (qa_cons (qe_var 5) (qa_cons (qe_int) (qa_cons (qe_bin os_sub (qe_callB (cs_len) (a.free 3 rfl) (by decide +kernel) (qa_cons (qe_var 6) (qa_nil))) (qe_int)) (qa_nil))))))) (qss_one (qs_ret (qe_bl))) (qss_nil))
      (qss_one (qs_if (qt_cmp (os_eq hq) (qe_bin os_mod (qe_var 4) (qe_con a 11 rfl)) (qe_int)) (qss_one (qs_set 3 nd (qe_ix (qe_var 6) (qe_var 5)))) (qss_one (qs_set 2 nd (qe_ix (qe_var 6) (qe_var 5)))))))))
      (qss_one (qs_ret (qe_bl)))))
theorem bi_part_at : ∀ (kV doc pm : Value) (an : Option Addr) (cdv ct : Value) (us : List Value), us.length = (["tree", "path"] : List Str).length → bindArgs (PySem.W.fnOf (dOf "part_at" 53).name (dOf "part_at" 53).qual (dOf "part_at" 53).params (dOf "part_at" 53).body (dOf "part_at" 53).scope .none kV doc pm an cdv ct) ⟨us, []⟩ = pure ((["tree", "path"] : List Str).zip us) :=
  fun _ _ _ _ _ _ us hl => match us, hl with | [_, _], _ => rfl
theorem sc_part_at : FnScope ["tree", "path"] ["tree", "path"] (dOf "part_at" 53).scope := ⟨rfl, rfl, rfl, by decide +kernel, rfl, by decide +kernel, by decide +kernel⟩
theorem q_part_at (a : Amb w K mg cs fn) (T : ∀ j, j < 44 → FG P w K mg base cl k (dfs j) (pss j) (t j)) : FG P w K mg base cl (k + 1) (dOf "part_at" 53) ["tree", "path"] (f_part_at t) := by
  have nd := (sc_part_at).nd
  refine fg_def a 35 rfl rfl sc_part_at bi_part_at fun f cdv A outer s H E hr1 hgd => ?_
  have hr := hr1.mono (Nat.le_succ _)
  have hq := room_q hr
  have hi := room_i hr
  have hp := room_p hr
  have hg1 := room_1 hr
  exact qss_cons (qs_expr (qe_fn (T 32 (by decide)) hr hgd (takes_of rfl rfl rfl rfl) (qa_cons (qe_var 0) (qa_nil))))
      (qss_cons (qs_if (qt_not (qt_val (qe_fn (T 34 (by decide)) hr hgd (takes_of rfl rfl rfl rfl) (qa_cons (qe_var 0) (qa_cons (qe_var 1) (qa_nil)))))) (qss_one (qs_bad)) (qss_nil))
      (qss_one (qs_ret (qe_ix (qe_fn (T 33 (by decide)) hr hgd (takes_of rfl rfl rfl rfl) (qa_cons (qe_var 0) (qa_cons (qe_slice (qe_var 1) (qo_none) (qo_some (qe_un us_neg (qe_int)))) (qa_nil)))) (qe_ix (qe_var 1) (qe_un us_neg (qe_int)))))))
theorem bi_w_pot : ∀ (kV doc pm : Value) (an : Option Addr) (cdv ct : Value) (us : List Value), us.length = (["_law_script", "_law_k"] : List Str).length → bindArgs (PySem.W.fnOf (dOf "_law_pot" 55).name (dOf "_law_pot" 55).qual (dOf "_law_pot" 55).params (dOf "_law_pot" 55).body (dOf "_law_pot" 55).scope .none kV doc pm an cdv ct) ⟨us, []⟩ = pure ((["_law_script", "_law_k"] : List Str).zip us) :=
  fun _ _ _ _ _ _ us hl => match us, hl with | [_, _], _ => rfl
theorem sc_w_pot : FnScope ["_law_script", "_law_k", "_law_cell", "_law_own"] ["_law_script", "_law_k"] (dOf "_law_pot" 55).scope := ⟨rfl, rfl, rfl, by decide +kernel, rfl, by decide +kernel, by decide +kernel⟩
theorem q_w_pot (a : Amb w K mg cs fn) (T : ∀ j, j < 44 → FG P w K mg base cl k (dfs j) (pss j) (t j)) : FG P w K mg base cl (k + 1) (dOf "_law_pot" 55) ["_law_script", "_law_k"] (f_w_pot t) := by
  have nd := (sc_w_pot).nd
  refine fg_def a 36 rfl rfl sc_w_pot bi_w_pot fun f cdv A outer s H E hr1 hgd => ?_
  have hr := hr1.mono (Nat.le_succ _)
  have hq := room_q hr
  have hi := room_i hr
  have hp := room_p hr
  have hg1 := room_1 hr
  exact qss_cons (qs_set 2 nd (qe_if (qt_cmp (os_lt) (qe_var 1) (qe_callB (cs_len) (a.free 3 rfl) (by decide +kernel) (qa_cons (qe_var 0) (qa_nil)))) (qe_ix (qe_var 0) (qe_var 1)) (qe_bin os_add (qe_bin os_mul (qe_int) (qe_var 1)) (qe_int))))
      (qss_cons (qs_set 3 nd (qe_bin os_mul (qe_bin os_mod (qe_callTy (cs_int) (a.free 4 rfl) (by decide +kernel) (qa_cons (qe_callB (cs_abs) (a.free 10 rfl) (by decide +kernel) (qa_cons (qe_var 2) (qa_nil))) (qa_nil))) (qe_bin os_pow (qe_bin os_pow (qe_int) (qe_int)) (qe_int))) (qe_callTy (cs_int) (a.free 4 rfl) (by decide +kernel) (qa_cons (qe_cmp (os_ge) (qe_callB (cs_abs) (a.free 10 rfl) (by decide +kernel) (qa_cons (qe_var 2) (qa_nil))) (qe_bin os_pow (qe_int) (qe_int))) (qa_nil)))))
      (qss_one (qs_ret (qe_lst (qa_cons (qe_var 3) (qa_cons (qe_bin os_mod (qe_callTy (cs_int) (a.free 4 rfl) (by decide +kernel) (qa_cons (qe_bin os_add (qe_bin os_add (qe_bin os_mul (qe_bin os_mod (qe_callTy (cs_int) (a.free 4 rfl) (by decide +kernel) (qa_cons (qe_var 2) (qa_nil))) (qe_int)) (qe_int)) (qe_bin os_mul (qe_bin os_mul (qe_int) (qe_var 1)) (qe_var 1))) (qe_int)) (qa_nil))) (qe_int)) (qa_cons (qe_int) (qa_nil))))))))
theorem bi_w_take : ∀ (kV doc pm : Value) (an : Option Addr) (cdv ct : Value) (us : List Value), us.length = (["_law_pot_here", "_law_upto"] : List Str).length → bindArgs (PySem.W.fnOf (dOf "_law_take" 56).name (dOf "_law_take" 56).qual (dOf "_law_take" 56).params (dOf "_law_take" 56).body (dOf "_law_take" 56).scope .none kV doc pm an cdv ct) ⟨us, []⟩ = pure ((["_law_pot_here", "_law_upto"] : List Str).zip us) :=
  fun _ _ _ _ _ _ us hl => match us, hl with | [_, _], _ => rfl
theorem sc_w_take : FnScope ["_law_pot_here", "_law_upto", "_law_prime", "_law_mixed", "_law_digit"] ["_law_pot_here", "_law_upto"] (dOf "_law_take" 56).scope := ⟨rfl, rfl, rfl, by decide +kernel, rfl, by decide +kernel, by decide +kernel⟩
theorem q_w_take (a : Amb w K mg cs fn) (T : ∀ j, j < 44 → FG P w K mg base cl k (dfs j) (pss j) (t j)) : FG P w K mg base cl (k + 1) (dOf "_law_take" 56) ["_law_pot_here", "_law_upto"] (f_w_take t) := by
  have nd := (sc_w_take).nd
  refine fg_def a 37 rfl rfl sc_w_take bi_w_take fun f cdv A outer s H E hr1 hgd => ?_
  have hr := hr1.mono (Nat.le_succ _)
  have hq := room_q hr
  have hi := room_i hr
  have hp := room_p hr
  have hg1 := room_1 hr
  exact qss_cons (qs_if (qt_cmp (os_gt) (qe_ix (qe_var 0) (qe_int)) (qe_int)) (qss_cons (qs_set 4 nd (qe_bin os_mod (qe_callTy (cs_int) (a.free 4 rfl) (by decide +kernel) (qa_cons (qe_ix (qe_var 0) (qe_int)) (qa_nil))) (qe_var 1)))
      (qss_cons (qs_put (qe_bin os_div (qe_ix (qe_var 0) (qe_int)) (qe_var 1)) (qe_var 0) (qe_int))
      (qss_one (qs_ret (qe_var 4))))) (qss_nil))
      (qss_cons (qs_put (qe_bin os_add (qe_ix (qe_var 0) (qe_int)) (qe_int)) (qe_var 0) (qe_int))
      (qss_cons (qs_set 2 nd (qe_ix (qe_lst (qa_cons (qe_int) (qa_cons (qe_int) (qa_cons (qe_int) (qa_cons (qe_int) (qa_cons (qe_int) (qa_nil))))))) (qe_bin os_mod (qe_callTy (cs_int) (a.free 4 rfl) (by decide +kernel) (qa_cons (qe_ix (qe_var 0) (qe_int)) (qa_nil))) (qe_int))))
      (qss_cons (qs_set 3 nd (qe_bin os_mod (qe_callTy (cs_int) (a.free 4 rfl) (by decide +kernel) (qa_cons (qe_bin os_pow (qe_callTy (cs_int) (a.free 4 rfl) (by decide +kernel) (qa_cons (qe_bin os_add (qe_bin os_add (qe_ix (qe_var 0) (qe_int)) (qe_bin os_mul (qe_bin os_mul (qe_int) (qe_ix (qe_var 0) (qe_int))) (qe_ix (qe_var 0) (qe_int)))) (qe_int)) (qa_nil))) (qe_int)) (qa_nil))) (qe_var 2)))
      (qss_cons (qs_set 3 nd (qe_bin os_mod (qe_callTy (cs_int) (a.free 4 rfl) (by decide +kernel) (qa_cons (qe_bin os_mul (qe_var 3) (qe_bin os_add (qe_bin os_mod (qe_callTy (cs_int) (a.free 4 rfl) (by decide +kernel) (qa_cons (qe_var 3) (qa_nil))) (qe_int)) (qe_bin os_mul (qe_int) (qe_ix (qe_var 0) (qe_int))))) (qa_nil))) (qe_int)))
      (qss_one (qs_ret (qe_bin os_mod (qe_callTy (cs_int) (a.free 4 rfl) (by decide +kernel) (qa_cons (qe_bin os_div (qe_var 3) (qe_int)) (qa_nil))) (qe_var 1))))))))
theorem bi_w_of : ∀ (kV doc pm : Value) (an : Option Addr) (cdv ct : Value) (us : List Value), us.length = (["_law_pot_here", "_law_some"] : List Str).length → bindArgs (PySem.W.fnOf (dOf "_law_of" 57).name (dOf "_law_of" 57).qual (dOf "_law_of" 57).params (dOf "_law_of" 57).body (dOf "_law_of" 57).scope .none kV doc pm an cdv ct) ⟨us, []⟩ = pure ((["_law_pot_here", "_law_some"] : List Str).zip us) :=
  fun _ _ _ _ _ _ us hl => match us, hl with | [_, _], _ => rfl
theorem sc_w_of : FnScope ["_law_pot_here", "_law_some"] ["_law_pot_here", "_law_some"] (dOf "_law_of" 57).scope := ⟨rfl, rfl, rfl, by decide +kernel, rfl, by decide +kernel, by decide +kernel⟩
theorem q_w_of (a : Amb w K mg cs fn) (T : ∀ j, j < 44 → FG P w K mg base cl k (dfs j) (pss j) (t j)) : FG P w K mg base cl (k + 1) (dOf "_law_of" 57) ["_law_pot_here", "_law_some"] (f_w_of t) := by
  have nd := (sc_w_of).nd
  refine fg_def a 38 rfl rfl sc_w_of bi_w_of fun f cdv A outer s H E hr1 hgd => ?_
  have hr := hr1.mono (Nat.le_succ _)
  have hq := room_q hr
  have hi := room_i hr
  have hp := room_p hr
  have hg1 := room_1 hr
  exact qss_one (qs_ret (qe_ix (qe_var 1) (qe_fn (T 37 (by decide)) hr hgd (takes_of rfl rfl rfl rfl) (qa_cons (qe_var 0) (qa_cons (qe_callB (cs_len) (a.free 3 rfl) (by decide +kernel) (qa_cons (qe_var 1) (qa_nil))) (qa_nil))))))
theorem bi_w_trails : ∀ (kV doc pm : Value) (an : Option Addr) (cdv ct : Value) (us : List Value), us.length = (["_law_cut", "_law_ahead"] : List Str).length → bindArgs (PySem.W.fnOf (dOf "_law_trails" 58).name (dOf "_law_trails" 58).qual (dOf "_law_trails" 58).params (dOf "_law_trails" 58).body (dOf "_law_trails" 58).scope .none kV doc pm an cdv ct) ⟨us, []⟩ = pure ((["_law_cut", "_law_ahead"] : List Str).zip us) :=
  fun _ _ _ _ _ _ us hl => match us, hl with | [_, _], _ => rfl
theorem sc_w_trails : FnScope ["_law_cut", "_law_ahead", "_law_found", "_law_n", "_law_limb", "_law_k", "_law_inner"] ["_law_cut", "_law_ahead"] (dOf "_law_trails" 58).scope := ⟨rfl, rfl, rfl, by decide +kernel, rfl, by decide +kernel, by decide +kernel⟩
theorem q_w_trails (a : Amb w K mg cs fn) (T : ∀ j, j < 44 → FG P w K mg base cl k (dfs j) (pss j) (t j)) : FG P w K mg base cl (k + 1) (dOf "_law_trails" 58) ["_law_cut", "_law_ahead"] (f_w_trails t) := by
  have nd := (sc_w_trails).nd
  refine fg_def a 39 rfl rfl sc_w_trails bi_w_trails fun f cdv A outer s H E hr1 hgd => ?_
  have hr := hr1.mono (Nat.le_succ _)
  have hq := room_q hr
  have hi := room_i hr
  have hp := room_p hr
  have hg1 := room_1 hr
  exact qss_cons (qs_set 2 nd (qe_lst (qa_nil)))
      (qss_cons (qs_for (passes_of rfl) rfl (qi_enum (a.free 6 rfl) (qa_cons (qe_var 0) (qa_nil))) (qp_tp rfl (qps_cons (qp_nm 3 nd) (qps_cons (qp_nm 4 nd) (qps_nil)))) (qss_cons (qs_expr (qe_bm PySem.F.plainAttrs_list PySem.F.slot_list_append PySem.F.type_list_append ms_append (qe_var 2) (qa_cons (qe_tup (qa_cons (qe_bin os_add (qe_var 1) (qe_tup (qa_cons (qe_var 3) (qa_nil)))) (qa_cons (qe_var 4) (qa_nil)))) (qa_nil))))
      (qss_one (qs_for (passes_of rfl) rfl (qi_enum (a.free 6 rfl) (qa_cons (qe_ix (qe_var 4) (qe_int)) (qa_nil))) (qp_tp rfl (qps_cons (qp_nm 5 nd) (qps_cons (qp_nm 6 nd) (qps_nil)))) (qss_one (qs_expr (qe_bm PySem.F.plainAttrs_list PySem.F.slot_list_extend PySem.F.type_list_extend ms_extend (qe_var 2) (qa_cons (qe_fn (T 39 (by decide)) hr hgd (takes_of rfl rfl rfl rfl) (qa_cons (qe_var 6) (qa_cons (qe_bin os_add (qe_var 1) (qe_tup (qa_cons (qe_var 3) (qa_cons (qe_var 5) (qa_nil))))) (qa_nil)))) (qa_nil)))))))))
      (qss_one (qs_ret (qe_var 2))))
theorem bi_w_letters : ∀ (kV doc pm : Value) (an : Option Addr) (cdv ct : Value) (us : List Value), us.length = (["_law_pot_here", "_law_end"] : List Str).length → bindArgs (PySem.W.fnOf (dOf "_law_letters" 59).name (dOf "_law_letters" 59).qual (dOf "_law_letters" 59).params (dOf "_law_letters" 59).body (dOf "_law_letters" 59).scope .none kV doc pm an cdv ct) ⟨us, []⟩ = pure ((["_law_pot_here", "_law_end"] : List Str).zip us) :=
  fun _ _ _ _ _ _ us hl => match us, hl with | [_, _], _ => rfl
theorem sc_w_letters : FnScope ["_law_pot_here", "_law_end", "_law_letters_here", "_law_lap"] ["_law_pot_here", "_law_end"] (dOf "_law_letters" 59).scope := ⟨rfl, rfl, rfl, by decide +kernel, rfl, by decide +kernel, by decide +kernel⟩
theorem q_w_letters (a : Amb w K mg cs fn) (T : ∀ j, j < 44 → FG P w K mg base cl k (dfs j) (pss j) (t j)) : FG P w K mg base cl (k + 1) (dOf "_law_letters" 59) ["_law_pot_here", "_law_end"] (f_w_letters t) := by
  have nd := (sc_w_letters).nd
  refine fg_def a 40 rfl rfl sc_w_letters bi_w_letters fun f cdv A outer s H E hr1 hgd => ?_
  have hr := hr1.mono (Nat.le_succ _)
  have hq := room_q hr
  have hi := room_i hr
  have hp := room_p hr
  have hg1 := room_1 hr
  exact qss_cons (qs_set 2 nd (qe_str))
      (qss_one (qs_ret (qe_bin os_add (qe_bm PySem.F.plainAttrs_str PySem.F.slot_str_join PySem.F.type_str_join ms_join (qe_str) (qa_cons (qe_lc rfl nd (qi_range1 (a.free 9 rfl) (qa_cons (qe_fn (T 37 (by decide)) hr hgd (takes_of rfl rfl rfl rfl) (qa_cons (qe_var 0) (qa_cons (qe_int) (qa_nil)))) (qa_nil))) (ok := blkOk_by (own := [("_law_lap", 3)]) (by first | rfl | kernel_rfl)) (fun _ _ _ _ _ => qp_nm 3 nd) (fun _ _ _ _ _ => qts_nil) (fun _ _ _ _ _ => qe_fn (T 38 (by decide)) hr hgd (takes_no _) (qa_cons (qe_var 0) (qa_cons (qe_var 2) (qa_nil))))) (qa_nil))) (qe_var 1))))
theorem bi_w_rows : ∀ (kV doc pm : Value) (an : Option Addr) (cdv ct : Value) (us : List Value), us.length = (["_law_names", "_law_digits", "_law_note"] : List Str).length → bindArgs (PySem.W.fnOf (dOf "_law_rows" 60).name (dOf "_law_rows" 60).qual (dOf "_law_rows" 60).params (dOf "_law_rows" 60).body (dOf "_law_rows" 60).scope .none kV doc pm an cdv ct) ⟨us, []⟩ = pure ((["_law_names", "_law_digits", "_law_note"] : List Str).zip us) :=
  fun _ _ _ _ _ _ us hl => match us, hl with | [_, _, _], _ => rfl
theorem sc_w_rows : FnScope ["_law_names", "_law_digits", "_law_note", "_law_both", "_law_inner", "_law_found", "_law_text_of_call", "_law_more", "_law_line", "_law_rest", "_law_twice", "_law_a", "_law_b", "_law_c", "_law_d", "_law_x", "_law_y", "_law_n", "_law_call", "_law_row", "_law_none"] ["_law_names", "_law_digits", "_law_note"] (dOf "_law_rows" 60).scope := ⟨rfl, rfl, rfl, by decide +kernel, rfl, by decide +kernel, by decide +kernel⟩
theorem q_w_rows (a : Amb w K mg cs fn) (T : ∀ j, j < 44 → FG P w K mg base cl k (dfs j) (pss j) (t j)) : FG P w K mg base cl (k + 1) (dOf "_law_rows" 60) ["_law_names", "_law_digits", "_law_note"] (f_w_rows t) := by
  have nd := (sc_w_rows).nd
  refine fg_def a 41 rfl rfl sc_w_rows bi_w_rows fun f cdv A outer s H E hr1 hgd => ?_
  have hr := hr1.mono (Nat.le_succ _)
  have hq := room_q hr
  have hi := room_i hr
  have hp := room_p hr
  have hg1 := room_1 hr
  exact qss_cons (qs_asg (qe_var 0) (qp_tp rfl (qps_cons (qp_nm 11 nd) (qps_cons (qp_nm 12 nd) (qps_cons (qp_nm 13 nd) (qps_cons (qp_nm 14 nd) (qps_nil)))))))
      (qss_cons (qs_par3 15 16 17 rfl nd (qa_cons (qe_tup (qa_cons (qe_tup (qa_cons (qe_str) (qa_cons (qe_var 12) (qa_nil)))) (qa_cons (qe_tup (qa_nil)) (qa_nil)))) (qa_cons (qe_tup (qa_cons (qe_tup (qa_cons (qe_str) (qa_cons (qe_var 13) (qa_nil)))) (qa_cons (qe_tup (qa_nil)) (qa_nil)))) (qa_cons (qe_tup (qa_cons (qe_tup (qa_cons (qe_str) (qa_cons (qe_var 1) (qa_nil)))) (qa_cons (qe_tup (qa_nil)) (qa_nil)))) (qa_nil)))))
      (qss_cons (qs_set 3 nd (qe_tup (qa_cons (qe_tup (qa_cons (qe_str) (qa_nil))) (qa_cons (qe_tup (qa_cons (qe_tup (qa_cons (qe_tup (qa_cons (qe_tup (qa_cons (qe_str) (qa_nil))) (qa_cons (qe_tup (qa_cons (qe_tup (qa_cons (qe_var 15) (qa_nil))) (qa_nil))) (qa_nil)))) (qa_cons (qe_tup (qa_cons (qe_tup (qa_cons (qe_str) (qa_nil))) (qa_cons (qe_tup (qa_cons (qe_tup (qa_cons (qe_var 17) (qa_nil))) (qa_nil))) (qa_nil)))) (qa_cons (qe_tup (qa_cons (qe_tup (qa_cons (qe_str) (qa_nil))) (qa_cons (qe_tup (qa_cons (qe_tup (qa_cons (qe_var 16) (qa_nil))) (qa_nil))) (qa_nil)))) (qa_nil))))) (qa_nil))) (qa_nil)))))
      (qss_cons (qs_set 4 nd (qe_tup (qa_cons (qe_tup (qa_cons (qe_str) (qa_nil))) (qa_cons (qe_tup (qa_cons (qe_tup (qa_cons (qe_var 3) (qa_nil))) (qa_nil))) (qa_nil)))))
      (qss_cons (qs_par3 18 19 20 rfl nd (qa_cons (qe_tup (qa_cons (qe_tup (qa_cons (qe_str) (qa_cons (qe_var 14) (qa_nil)))) (qa_cons (qe_tup (qa_cons (qe_tup (qa_cons (qe_var 15) (qa_cons (qe_var 17) (qa_nil)))) (qa_nil))) (qa_nil)))) (qa_cons (qe_tup (qa_cons (qe_tup (qa_cons (qe_str) (qa_nil))) (qa_cons (qe_tup (qa_cons (qe_tup (qa_cons (qe_var 16) (qa_nil))) (qa_nil))) (qa_nil)))) (qa_cons (qe_tup (qa_cons (qe_tup (qa_cons (qe_str) (qa_cons (qe_var 11) (qa_nil)))) (qa_cons (qe_tup (qa_cons (qe_tup (qa_nil)) (qa_nil))) (qa_nil)))) (qa_nil)))))
      (qss_cons (qs_set 5 nd (qe_lst (qa_cons (qe_tup (qa_cons (qe_bin os_add (qe_bin os_add (qe_bin os_add (qe_var 11) (qe_str)) (qe_var 12)) (qe_str)) (qa_cons (qe_tup (qa_cons (qe_tup (qa_cons (qe_str) (qa_cons (qe_var 11) (qa_nil)))) (qa_cons (qe_tup (qa_cons (qe_tup (qa_cons (qe_var 15) (qa_nil))) (qa_nil))) (qa_nil)))) (qa_nil)))) (qa_cons (qe_tup (qa_cons (qe_bin os_add (qe_bin os_add (qe_str) (qe_var 1)) (qe_str)) (qa_cons (qe_tup (qa_cons (qe_tup (qa_cons (qe_str) (qa_nil))) (qa_cons (qe_tup (qa_cons (qe_tup (qa_cons (qe_var 17) (qa_nil))) (qa_nil))) (qa_nil)))) (qa_nil)))) (qa_nil)))))
      (qss_cons (qs_expr (qe_bm PySem.F.plainAttrs_list PySem.F.slot_list_append PySem.F.type_list_append ms_append (qe_var 5) (qa_cons (qe_tup (qa_cons (qe_bin os_add (qe_var 11) (qe_str)) (qa_cons (qe_tup (qa_cons (qe_tup (qa_cons (qe_str) (qa_cons (qe_var 11) (qa_nil)))) (qa_cons (qe_tup (qa_cons (qe_tup (qa_nil)) (qa_nil))) (qa_nil)))) (qa_nil)))) (qa_nil))))
      (qss_cons (qs_expr (qe_bm PySem.F.plainAttrs_list PySem.F.slot_list_append PySem.F.type_list_append ms_append (qe_var 5) (qa_cons (qe_tup (qa_cons (qe_bin os_add (qe_bin os_add (qe_bin os_add (qe_bin os_add (qe_bin os_add (qe_var 11) (qe_str)) (qe_var 12)) (qe_str)) (qe_var 1)) (qe_str)) (qa_cons (qe_tup (qa_cons (qe_tup (qa_cons (qe_str) (qa_cons (qe_var 11) (qa_nil)))) (qa_cons (qe_tup (qa_cons (qe_tup (qa_cons (qe_var 15) (qa_cons (qe_var 17) (qa_nil)))) (qa_nil))) (qa_nil)))) (qa_nil)))) (qa_nil))))
      (qss_cons (qs_expr (qe_bm PySem.F.plainAttrs_list PySem.F.slot_list_append PySem.F.type_list_append ms_append (qe_var 5) (qa_cons (qe_tup (qa_cons (qe_bin os_add (qe_bin os_add (qe_bin os_add (qe_bin os_add (qe_bin os_add (qe_bin os_add (qe_bin os_add (qe_var 11) (qe_str)) (qe_var 12)) (qe_str)) (qe_var 1)) (qe_str)) (qe_var 13)) (qe_str)) (qa_cons (qe_tup (qa_cons (qe_tup (qa_cons (qe_str) (qa_cons (qe_var 11) (qa_nil)))) (qa_cons (qe_tup (qa_cons (qe_tup (qa_cons (qe_var 3) (qa_nil))) (qa_nil))) (qa_nil)))) (qa_nil)))) (qa_nil))))
      (qss_cons (qs_expr (qe_bm PySem.F.plainAttrs_list PySem.F.slot_list_append PySem.F.type_list_append ms_append (qe_var 5) (qa_cons (qe_tup (qa_cons (qe_bin os_add (qe_bin os_add (qe_bin os_add (qe_bin os_add (qe_bin os_add (qe_bin os_add (qe_str) (qe_var 12)) (qe_str)) (qe_var 1)) (qe_str)) (qe_var 13)) (qe_str)) (qa_cons (qe_tup (qa_cons (qe_tup (qa_cons (qe_str) (qa_nil))) (qa_cons (qe_tup (qa_cons (qe_tup (qa_cons (qe_var 4) (qa_nil))) (qa_nil))) (qa_nil)))) (qa_nil)))) (qa_nil))))
      (qss_cons (qs_set 6 nd (qe_bin os_add (qe_bin os_add (qe_bin os_add (qe_bin os_add (qe_bin os_add (qe_var 14) (qe_str)) (qe_var 12)) (qe_str)) (qe_var 1)) (qe_str)))
      (qss_cons (qs_set 7 nd (qe_tup (qa_cons (qe_tup (qa_cons (qe_str) (qa_nil))) (qa_cons (qe_tup (qa_cons (qe_tup (qa_cons (qe_tup (qa_cons (qe_tup (qa_cons (qe_str) (qa_nil))) (qa_cons (qe_tup (qa_cons (qe_tup (qa_cons (qe_var 18) (qa_nil))) (qa_nil))) (qa_nil)))) (qa_cons (qe_tup (qa_cons (qe_tup (qa_cons (qe_str) (qa_nil))) (qa_cons (qe_tup (qa_cons (qe_tup (qa_cons (qe_var 4) (qa_nil))) (qa_nil))) (qa_nil)))) (qa_cons (qe_tup (qa_cons (qe_tup (qa_cons (qe_str) (qa_nil))) (qa_cons (qe_tup (qa_cons (qe_tup (qa_cons (qe_var 19) (qa_nil))) (qa_nil))) (qa_nil)))) (qa_nil))))) (qa_nil))) (qa_nil)))))
      (qss_cons (qs_set 8 nd (qe_bin os_add (qe_bin os_add (qe_bin os_add (qe_bin os_add (qe_bin os_add (qe_bin os_add (qe_bin os_add (qe_bin os_add (qe_bin os_add (qe_bin os_add (qe_str) (qe_var 6)) (qe_str)) (qe_var 12)) (qe_str)) (qe_var 1)) (qe_str)) (qe_var 13)) (qe_str)) (qe_var 13)) (qe_str)))
      (qss_cons (qs_expr (qe_bm PySem.F.plainAttrs_list PySem.F.slot_list_append PySem.F.type_list_append ms_append (qe_var 5) (qa_cons (qe_tup (qa_cons (qe_var 8) (qa_cons (qe_tup (qa_cons (qe_tup (qa_cons (qe_str) (qa_nil))) (qa_cons (qe_tup (qa_cons (qe_tup (qa_cons (qe_var 7) (qa_nil))) (qa_nil))) (qa_nil)))) (qa_nil)))) (qa_nil))))
      (qss_cons (qs_expr (qe_bm PySem.F.plainAttrs_list PySem.F.slot_list_append PySem.F.type_list_append ms_append (qe_var 5) (qa_cons (qe_tup (qa_cons (qe_bin os_add (qe_bin os_add (qe_str) (qe_var 11)) (qe_str)) (qa_cons (qe_tup (qa_cons (qe_tup (qa_cons (qe_str) (qa_nil))) (qa_cons (qe_tup (qa_cons (qe_tup (qa_cons (qe_var 20) (qa_nil))) (qa_cons (qe_tup (qa_nil)) (qa_nil)))) (qa_nil)))) (qa_nil)))) (qa_nil))))
      (qss_cons (qs_expr (qe_bm PySem.F.plainAttrs_list PySem.F.slot_list_append PySem.F.type_list_append ms_append (qe_var 5) (qa_cons (qe_tup (qa_cons (qe_str) (qa_cons (qe_tup (qa_cons (qe_tup (qa_cons (qe_str) (qa_nil))) (qa_cons (qe_tup (qa_cons (qe_tup (qa_cons (qe_tup (qa_cons (qe_tup (qa_cons (qe_str) (qa_nil))) (qa_cons (qe_tup (qa_cons (qe_tup (qa_nil)) (qa_nil))) (qa_nil)))) (qa_nil))) (qa_cons (qe_tup (qa_nil)) (qa_cons (qe_tup (qa_nil)) (qa_nil))))) (qa_nil)))) (qa_nil)))) (qa_nil))))
      (qss_cons (qs_set 9 nd (qe_tup (qa_cons (qe_tup (qa_cons (qe_str) (qa_nil))) (qa_cons (qe_tup (qa_cons (qe_tup (qa_cons (qe_tup (qa_cons (qe_tup (qa_cons (qe_str) (qa_cons (qe_var 2) (qa_nil)))) (qa_cons (qe_tup (qa_nil)) (qa_nil)))) (qa_cons (qe_tup (qa_cons (qe_tup (qa_cons (qe_str) (qa_nil))) (qa_cons (qe_tup (qa_cons (qe_tup (qa_cons (qe_var 17) (qa_nil))) (qa_nil))) (qa_nil)))) (qa_nil)))) (qa_nil))) (qa_nil)))))
      (qss_cons (qs_set 8 nd (qe_bin os_add (qe_bin os_add (qe_bin os_add (qe_bin os_add (qe_bin os_add (qe_bin os_add (qe_bin os_add (qe_bin os_add (qe_str) (qe_var 12)) (qe_str)) (qe_var 11)) (qe_str)) (qe_var 2)) (qe_str)) (qe_var 1)) (qe_str)))
      (qss_cons (qs_expr (qe_bm PySem.F.plainAttrs_list PySem.F.slot_list_append PySem.F.type_list_append ms_append (qe_var 5) (qa_cons (qe_tup (qa_cons (qe_var 8) (qa_cons (qe_tup (qa_cons (qe_tup (qa_cons (qe_str) (qa_nil))) (qa_cons (qe_tup (qa_cons (qe_tup (qa_cons (qe_var 15) (qa_nil))) (qa_cons (qe_tup (qa_cons (qe_tup (qa_cons (qe_tup (qa_cons (qe_str) (qa_cons (qe_var 11) (qa_nil)))) (qa_cons (qe_tup (qa_cons (qe_tup (qa_nil)) (qa_nil))) (qa_nil)))) (qa_nil))) (qa_cons (qe_tup (qa_cons (qe_var 9) (qa_nil))) (qa_nil))))) (qa_nil)))) (qa_nil)))) (qa_nil))))
      (qss_cons (qs_set 10 nd (qe_tup (qa_cons (qe_tup (qa_cons (qe_str) (qa_nil))) (qa_cons (qe_tup (qa_cons (qe_tup (qa_cons (qe_var 16) (qa_nil))) (qa_cons (qe_tup (qa_nil)) (qa_cons (qe_tup (qa_cons (qe_tup (qa_cons (qe_tup (qa_cons (qe_str) (qa_nil))) (qa_cons (qe_tup (qa_cons (qe_tup (qa_nil)) (qa_nil))) (qa_nil)))) (qa_nil))) (qa_nil))))) (qa_nil)))))
      (qss_cons (qs_set 8 nd (qe_bin os_add (qe_bin os_add (qe_bin os_add (qe_bin os_add (qe_str) (qe_var 12)) (qe_str)) (qe_var 13)) (qe_str)))
      (qss_cons (qs_expr (qe_bm PySem.F.plainAttrs_list PySem.F.slot_list_append PySem.F.type_list_append ms_append (qe_var 5) (qa_cons (qe_tup (qa_cons (qe_var 8) (qa_cons (qe_tup (qa_cons (qe_tup (qa_cons (qe_str) (qa_nil))) (qa_cons (qe_tup (qa_cons (qe_tup (qa_cons (qe_var 15) (qa_nil))) (qa_cons (qe_tup (qa_cons (qe_var 10) (qa_nil))) (qa_cons (qe_tup (qa_nil)) (qa_nil))))) (qa_nil)))) (qa_nil)))) (qa_nil))))
      (qss_one (qs_ret (qe_bin os_add (qe_var 5) (qe_lst (qa_cons (qe_tup (qa_cons (qe_bin os_add (qe_str) (qe_var 2)) (qa_cons (qe_tup (qa_cons (qe_tup (qa_cons (qe_str) (qa_cons (qe_var 2) (qa_nil)))) (qa_cons (qe_tup (qa_nil)) (qa_nil)))) (qa_nil)))) (qa_nil)))))))))))))))))))))))))))
theorem bi_w_right : ∀ (kV doc pm : Value) (an : Option Addr) (cdv ct : Value) (us : List Value), us.length = (["_law_pot_here"] : List Str).length → bindArgs (PySem.W.fnOf (dOf "_law_right" 61).name (dOf "_law_right" 61).qual (dOf "_law_right" 61).params (dOf "_law_right" 61).body (dOf "_law_right" 61).scope .none kV doc pm an cdv ct) ⟨us, []⟩ = pure ((["_law_pot_here"] : List Str).zip us) :=
  fun _ _ _ _ _ _ us hl => match us, hl with | [_], _ => rfl
theorem sc_w_right : FnScope ["_law_pot_here", "_law_names", "_law_digits", "_law_note", "_law_rows_here", "_law_all_limbs", "_law_page", "_law_limb", "_law_end", "_law_trail", "_law_part", "_law_lap"] ["_law_pot_here"] (dOf "_law_right" 61).scope := ⟨rfl, rfl, rfl, by decide +kernel, rfl, by decide +kernel, by decide +kernel⟩
theorem q_w_right (a : Amb w K mg cs fn) (T : ∀ j, j < 44 → FG P w K mg base cl k (dfs j) (pss j) (t j)) : FG P w K mg base cl (k + 1) (dOf "_law_right" 61) ["_law_pot_here"] (f_w_right t) := by
  have nd := (sc_w_right).nd
  refine fg_def a 42 rfl rfl sc_w_right bi_w_right fun f cdv A outer s H E hr1 hgd => ?_
  have hr := hr1.mono (Nat.le_succ _)
  have hq := room_q hr
  have hi := room_i hr
  have hp := room_p hr
  have hg1 := room_1 hr
  exact qss_cons (qs_setLc 1 rfl nd (qi_val (qe_str)) (ok := blkOk_by (own := [("_law_end", 8)]) (by first | rfl | kernel_rfl)) (fun _ _ _ _ _ => qp_nm 8 nd) (fun _ _ _ _ _ => qts_nil) (fun _ _ _ _ _ => qe_fn (T 40 (by decide)) hr hgd (takes_no _) (qa_cons (qe_var 0) (qa_cons (qe_var 8) (qa_nil)))))
      (qss_cons (qs_set 2 nd (qe_fn (T 38 (by decide)) hr hgd (takes_of rfl rfl rfl rfl) (qa_cons (qe_var 0) (qa_cons (qe_lst (qa_cons (qe_str) (qa_cons (qe_bin os_mulS (qe_str) (qe_bin os_add (qe_int) (qe_fn (T 37 (by decide)) hr hgd (takes_of rfl rfl rfl rfl) (qa_cons (qe_var 0) (qa_cons (qe_int) (qa_nil)))))) (qa_cons (qe_callTy (cs_str) (a.free 2 rfl) (by decide +kernel) (qa_cons (qe_bin os_add (qe_int) (qe_fn (T 37 (by decide)) hr hgd (takes_of rfl rfl rfl rfl) (qa_cons (qe_var 0) (qa_cons (qe_int) (qa_nil))))) (qa_nil))) (qa_nil))))) (qa_nil)))))
      (qss_cons (qs_set 3 nd (qe_bm PySem.F.plainAttrs_str PySem.F.slot_str_strip PySem.F.type_str_strip ms_stripC (qe_bm PySem.F.plainAttrs_str PySem.F.slot_str_join PySem.F.type_str_join ms_join (qe_str) (qa_cons (qe_lc rfl nd (qi_range1 (a.free 9 rfl) (qa_cons (qe_fn (T 37 (by decide)) hr hgd (takes_of rfl rfl rfl rfl) (qa_cons (qe_var 0) (qa_cons (qe_int) (qa_nil)))) (qa_nil))) (ok := blkOk_by (own := [("_law_lap", 11)]) (by first | rfl | kernel_rfl)) (fun _ _ _ _ _ => qp_nm 11 nd) (fun _ _ _ _ _ => qts_nil) (fun _ _ _ _ _ => qe_fn (T 38 (by decide)) hr hgd (takes_no _) (qa_cons (qe_var 0) (qa_cons (qe_str) (qa_nil))))) (qa_nil))) (qa_cons (qe_str) (qa_nil))))
      (qss_cons (qs_par 4 5 rfl nd (qa_cons (qe_fn (T 41 (by decide)) hr hgd (takes_of rfl rfl rfl rfl) (qa_cons (qe_var 1) (qa_cons (qe_var 2) (qa_cons (qe_var 3) (qa_nil))))) (qa_cons (qe_tup (qa_nil)) (qa_nil))))
      (qss_cons (qs_for (passes_of rfl) rfl (qi_val (qe_var 4)) (qp_tp rfl (qps_cons (qp_nm 6 nd) (qps_cons (qp_nm 7 nd) (qps_nil)))) (qss_cons (qs_if (qt_w (qw_or (qt_cmp (os_ne hq) (qe_callB (cs_repr hp hgd) (a.free 11 rfl) (by decide +kernel) (qa_cons (qe_fn (T 27 (by decide)) hr hgd (takes_of rfl rfl rfl rfl) (qa_cons (qe_var 6) (qa_nil))) (qa_nil))) (qe_callB (cs_repr hp hgd) (a.free 11 rfl) (by decide +kernel) (qa_cons (qe_tup (qa_cons (qe_var 7) (qa_nil))) (qa_nil)))) (qw_or1 (qt_cmp (os_notB) (qe_fn (T 31 (by decide)) hr hgd (takes_of rfl rfl rfl rfl) (qa_cons (qe_tup (qa_cons (qe_var 7) (qa_nil))) (qa_nil))) (qe_bl))))) (qss_one (qs_ret (qe_bl))) (qss_nil))
      (qss_cons (qs_for (passes_of rfl) rfl (qi_val (qe_fn (T 39 (by decide)) hr hgd (takes_of rfl rfl rfl rfl) (qa_cons (qe_tup (qa_cons (qe_var 7) (qa_nil))) (qa_cons (qe_tup (qa_nil)) (qa_nil))))) (qp_tp rfl (qps_cons (qp_nm 9 nd) (qps_cons (qp_nm 10 nd) (qps_nil)))) (qss_one (qs_if (qt_cmp (os_ne hq) (qe_callB (cs_repr hp hgd) (a.free 11 rfl) (by decide +kernel) (qa_cons (qe_fn (T 35 (by decide)) hr hgd (takes_of rfl rfl rfl rfl) (qa_cons (qe_tup (qa_cons (qe_var 7) (qa_nil))) (qa_cons (qe_var 9) (qa_nil)))) (qa_nil))) (qe_callB (cs_repr hp hgd) (a.free 11 rfl) (by decide +kernel) (qa_cons (qe_var 10) (qa_nil)))) (qss_one (qs_ret (qe_bl))) (qss_nil))))
      (qss_one (qs_set 5 nd (qe_bin os_add (qe_var 5) (qe_tup (qa_cons (qe_var 7) (qa_nil)))))))))
      (qss_one (qs_ret (qe_cmp (os_eq hq) (qe_callB (cs_repr hp hgd) (a.free 11 rfl) (by decide +kernel) (qa_cons (qe_fn (T 27 (by decide)) hr hgd (takes_of rfl rfl rfl rfl) (qa_cons (qe_bm PySem.F.plainAttrs_str PySem.F.slot_str_join PySem.F.type_str_join ms_join (qe_str) (qa_cons (qe_lc rfl nd (qi_val (qe_var 4)) (ok := blkOk_by (own := [("_law_page", 6), ("_law_limb", 7)]) (by first | rfl | kernel_rfl)) (fun _ _ _ _ _ => qp_tp rfl (qps_cons (qp_nm 6 nd) (qps_cons (qp_nm 7 nd) (qps_nil)))) (fun _ _ _ _ _ => qts_nil) (fun _ _ _ _ _ => qe_var 6)) (qa_nil))) (qa_nil))) (qa_nil))) (qe_callB (cs_repr hp hgd) (a.free 11 rfl) (by decide +kernel) (qa_cons (qe_var 5) (qa_nil))))))))))
theorem bi_law : ∀ (kV doc pm : Value) (an : Option Addr) (cdv ct : Value) (us : List Value), us.length = (["_law_script"] : List Str).length → bindArgs (PySem.W.fnOf (dOf "law" 62).name (dOf "law" 62).qual (dOf "law" 62).params (dOf "law" 62).body (dOf "law" 62).scope .none kV doc pm an cdv ct) ⟨us, []⟩ = pure ((["_law_script"] : List Str).zip us) :=
  fun _ _ _ _ _ _ us hl => match us, hl with | [_], _ => rfl
theorem sc_law : FnScope ["_law_script", "_law_k", "_law_pot_here", "_law_lap"] ["_law_script"] (dOf "law" 62).scope := ⟨rfl, rfl, rfl, by decide +kernel, rfl, by decide +kernel, by decide +kernel⟩
theorem q_law (a : Amb w K mg cs fn) (T : ∀ j, j < 44 → FG P w K mg base cl k (dfs j) (pss j) (t j)) : FG P w K mg base cl (k + 1) (dOf "law" 62) ["_law_script"] (f_law t) := by
  have nd := (sc_law).nd
  refine fg_def a 43 rfl rfl sc_law bi_law fun f cdv A outer s H E hr1 hgd => ?_
  have hr := hr1.mono (Nat.le_succ _)
  have hq := room_q hr
  have hi := room_i hr
  have hp := room_p hr
  have hg1 := room_1 hr
  exact qss_cons (qs_for (passes_of rfl) rfl (qi_range1 (a.free 9 rfl) (qa_cons (qe_callB (cs_max rfl) (a.free 12 rfl) (by decide +kernel) (qa_cons (qe_int) (qa_cons (qe_callB (cs_min rfl) (a.free 13 rfl) (by decide +kernel) (qa_cons (qe_int) (qa_cons (qe_callB (cs_len) (a.free 3 rfl) (by decide +kernel) (qa_cons (qe_var 0) (qa_nil))) (qa_nil)))) (qa_nil)))) (qa_nil))) (qp_nm 1 nd) (qss_cons (qs_set 2 nd (qe_fn (T 36 (by decide)) hr hgd (takes_of rfl rfl rfl rfl) (qa_cons (qe_var 0) (qa_cons (qe_var 1) (qa_nil)))))
      (qss_one (qs_if (qt_not (qt_val (qe_callB (cs_all rfl) (a.free 0 rfl) (by decide +kernel) (qa_cons (qe_lc rfl nd (qi_range1 (a.free 9 rfl) (qa_cons (qe_int) (qa_nil))) (ok := blkOk_by (own := [("_law_lap", 3)]) (by first | rfl | kernel_rfl)) (fun _ _ _ _ _ => qp_nm 3 nd) (fun _ _ _ _ _ => qts_nil) (fun _ _ _ _ _ => qe_fn (T 42 (by decide)) hr hgd (takes_no _) (qa_cons (qe_var 2) (qa_nil)))) (qa_nil))))) (qss_one (qs_ret (qe_bl))) (qss_nil)))))
      (qss_one (qs_ret (qe_bl)))
end
end LK

set_option Elab.async false
set_option linter.all false
set_option maxRecDepth 100000
set_option maxHeartbeats 4000000
/-! Mn: what a mirror comes to, by what must hold behind it. No program here. -/
namespace Mn
open PySem PySem.Spec PyProof.Rows L2
def Res.wp {α : Type} (r : Res α) (Q : α → Sto → Prop) : Prop := match r with
  | .ok a S => Q a S
  | _ => False
def RS.wp (r : RS) (N : En → Sto → Prop) (R : D → Sto → Prop) : Prop := match r with
  | .nx ρ S => N ρ S
  | .rt d S => R d S
  | _ => False
section
variable {α β : Type} {r : Res α} {Q Q' : α → Sto → Prop} {k : α → Sto → Res β} {QB : β → Sto → Prop}
theorem wp_ok {a : α} {S : Sto} : (Res.ok a S).wp Q ↔ Q a S := Iff.rfl
theorem wp_bad : (Res.bad : Res α).wp Q ↔ False := Iff.rfl
theorem wp_bind : (r.bind k).wp QB ↔ r.wp fun a S => (k a S).wp QB := by
  cases r <;> exact Iff.rfl
theorem wp_mono (h : r.wp Q) (hi : ∀ a S, Q a S → Q' a S) : r.wp Q' := by
  cases r with
  | ok a S => exact hi a S h
  | exc _ _ _ => exact h
  | bad => exact h
theorem wp_ex (h : r.wp Q) : ∃ a S, r = .ok a S ∧ Q a S := by
  cases r with
  | ok a S => exact ⟨a, S, rfl, h⟩
  | exc _ _ _ => exact h.elim
  | bad => exact h.elim
theorem wp_only : (r.only).wp Q ↔ r.wp Q := by cases r <;> exact Iff.rfl
theorem wp_st {ρ : En} {k : α → Sto → RS} {N : En → Sto → Prop} {R : D → Sto → Prop} : (r.st ρ k).wp N R ↔ r.wp fun a S => (k a S).wp N R := by
  cases r <;> exact Iff.rfl
end
section
variable {r : RS} {N N' : En → Sto → Prop} {R R' : D → Sto → Prop} {ρ : En} {S : Sto} {d : D}
theorem sw_nx : (RS.nx ρ S).wp N R ↔ N ρ S := Iff.rfl
theorem sw_rt : (RS.rt d S).wp N R ↔ R d S := Iff.rfl
theorem sw_mono (h : r.wp N R) (h1 : ∀ ρ S, N ρ S → N' ρ S) (h2 : ∀ d S, R d S → R' d S) : r.wp N' R' := by
  cases r with
  | nx ρ S => exact h1 ρ S h
  | rt d S => exact h2 d S h
  | _ => exact h
end
section
variable {ρ : En} {S : Sto} {Q : D → Sto → Prop} {QA : List D → Sto → Prop} {QT : Bool → Sto → Prop} {N : En → Sto → Prop} {R : D → Sto → Prop} {a b c : M} {t u : MT} {ma : MA} {s1 s2 : MS} {f g : D → D → Sto → Res D} {fn : F} {i n l : Nat} {d : D} {ds : List D}
theorem w_var : (mVar i ρ S).wp Q ↔ (match ρ[i]? with | some (some d) => Q d S | _ => False) := by
  unfold mVar
  split <;> simp_all [Res.wp]
theorem w_c : (mC d ρ S).wp Q ↔ Q d S := Iff.rfl
theorem w_bin : (mBin f a b ρ S).wp Q ↔ (a ρ S).wp fun x S => (b ρ S).wp fun y S => (f x y S).wp Q := by unfold mBin; simp only [wp_bind]
theorem w_un {f : D → Sto → Res D} : (mUn f a ρ S).wp Q ↔ (a ρ S).wp fun x S => (f x S).wp Q := by unfold mUn; simp only [wp_bind]
theorem w_nil : (aNil ρ S).wp QA ↔ QA [] S := Iff.rfl
theorem w_cons : (aCons a ma ρ S).wp QA ↔ (a ρ S).wp fun x S => (ma ρ S).wp fun xs S => QA (x :: xs) S := by unfold aCons; simp only [wp_bind, wp_ok]
theorem w_cb : (mCB fn ma ρ S).wp Q ↔ (ma ρ S).wp fun ds S => (fn ds S).wp Q := by unfold mCB; simp only [wp_bind]
theorem w_tup : (mTup ma ρ S).wp Q ↔ (ma ρ S).wp fun ds S => ds.length ≤ sizeLine ∧ Q (.tup ds) S := by
  unfold mTup
  simp only [wp_bind]
  constructor <;> intro h <;> refine wp_mono h fun ds S h => ?_
  · split at h
    · rename_i hz; exact ⟨hz, h⟩
    · exact h.elim
  · rw [if_pos h.1]; exact h.2
theorem w_lst : (mLst ma ρ S).wp Q ↔ (ma ρ S).wp fun ds S => ds.length ≤ sizeLine ∧ Q (.ref S.length) (S ++ [.lst ds]) := by
  unfold mLst
  simp only [wp_bind]
  constructor <;> intro h <;> refine wp_mono h fun ds S h => ?_
  · split at h
    · rename_i hz; exact ⟨hz, h⟩
    · exact h.elim
  · rw [if_pos h.1]; exact h.2
theorem w_val : (tVal a ρ S).wp QT ↔ (a ρ S).wp fun d S => ∃ x, d = .bl x ∧ QT x S := by
  unfold tVal
  simp only [wp_bind]
  constructor <;> intro h <;> refine wp_mono h fun d S h => ?_
  · split at h
    · exact ⟨_, rfl, h⟩
    · exact h.elim
  · obtain ⟨x, rfl, h⟩ := h; exact h
theorem w_tnot : (tNot t ρ S).wp QT ↔ (t ρ S).wp fun x S => QT (!x) S := by unfold tNot; simp only [wp_bind, wp_ok]
theorem w_tand : (tAnd t u ρ S).wp QT ↔ (t ρ S).wp fun x S => if x = true then (u ρ S).wp QT else QT false S := by
  unfold tAnd
  simp only [wp_bind]
  constructor <;> intro h <;> refine wp_mono h fun d S h => ?_ <;> split <;> simp_all [Res.wp]
theorem w_tor : (tOr t u ρ S).wp QT ↔ (t ρ S).wp fun x S => if x = true then QT true S else (u ρ S).wp QT := by
  unfold tOr
  simp only [wp_bind]
  constructor <;> intro h <;> refine wp_mono h fun d S h => ?_ <;> split <;> simp_all [Res.wp]
theorem w_and : (mAnd a b ρ S).wp Q ↔ (a ρ S).wp fun d S => ∃ x, d = .bl x ∧ if x = true then (b ρ S).wp Q else Q (.bl false) S := by
  unfold mAnd
  simp only [wp_bind]
  constructor <;> intro h <;> refine wp_mono h fun d S h => ?_
  · split at h
    · refine ⟨_, rfl, ?_⟩
      split <;> simp_all [Res.wp]
    · exact h.elim
  · obtain ⟨x, rfl, h⟩ := h
    cases x <;> simp_all [Res.wp]
theorem w_or : (mOr a b ρ S).wp Q ↔ (a ρ S).wp fun d S => ∃ x, d = .bl x ∧ if x = true then Q (.bl true) S else (b ρ S).wp Q := by
  unfold mOr
  simp only [wp_bind]
  constructor <;> intro h <;> refine wp_mono h fun d S h => ?_
  · split at h
    · refine ⟨_, rfl, ?_⟩
      split <;> simp_all [Res.wp]
    · exact h.elim
  · obtain ⟨x, rfl, h⟩ := h
    cases x <;> simp_all [Res.wp]
theorem w_not : (mNot a ρ S).wp Q ↔ (a ρ S).wp fun d S => ∃ x, d = .bl x ∧ Q (.bl (!x)) S := by
  unfold mNot
  simp only [wp_bind]
  constructor <;> intro h <;> refine wp_mono h fun d S h => ?_
  · split at h
    · exact ⟨_, rfl, h⟩
    · exact h.elim
  · obtain ⟨x, rfl, h⟩ := h; exact h
theorem w_if : (mIf t a b ρ S).wp Q ↔ (t ρ S).wp fun x S => if x = true then (a ρ S).wp Q else (b ρ S).wp Q := by
  unfold mIf
  simp only [wp_bind]
  constructor <;> intro h <;> refine wp_mono h fun d S h => ?_ <;> split <;> simp_all
theorem w_chain : (mChain f g a b c ρ S).wp Q ↔ (a ρ S).wp fun x S => (b ρ S).wp fun y S => (f x y S).wp fun z S => ∃ k, z = .bl k ∧ if k = true then (c ρ S).wp fun w S => (g y w S).wp Q else Q (.bl false) S := by
  unfold mChain
  simp only [wp_bind]
  constructor <;> intro h <;> refine wp_mono h fun x S h => wp_mono h fun y S h => wp_mono h fun z S h => ?_
  · split at h
    · rename_i k
      refine ⟨k, rfl, ?_⟩
      cases k with
      | true =>
        rw [if_pos rfl] at h ⊢
        exact wp_bind.mp h
      | false => exact h
    · exact h.elim
  · obtain ⟨k, rfl, h⟩ := h
    cases k with
    | true =>
      rw [if_pos rfl] at h
      show Res.wp (if true = true then (c ρ S).bind fun w S => g y w S else .ok (.bl false) S) Q
      rw [if_pos rfl]
      exact wp_bind.mpr h
    | false => exact h
theorem w_isi {T : String} : (mIsi T a ρ S).wp Q ↔ (a ρ S).wp fun d S => kOf S d ≠ "?" ∧ Q (.bl (isB (kOf S d) T)) S := by
  unfold mIsi
  simp only [wp_bind]
  constructor <;> intro h <;> refine wp_mono h fun d S h => ?_
  · split at h
    · exact h.elim
    · rename_i hz; exact ⟨hz, h⟩
  · rw [if_neg h.1]; exact h.2
theorem w_mt {T : String} {f : D → F} : (mMt T f a ma ρ S).wp Q ↔ (a ρ S).wp fun d S => kOf S d = T ∧ (ma ρ S).wp fun ds S => (f d ds S).wp Q := by
  unfold mMt
  simp only [wp_bind]
  constructor <;> intro h <;> refine wp_mono h fun d S h => ?_
  · split at h
    · rename_i hz; exact ⟨hz, wp_bind.mp h⟩
    · exact h.elim
  · rw [if_pos h.1]; exact wp_bind.mpr h.2
theorem w_tab {kvs : List (Str × D)} : (mTab kvs a ρ S).wp Q ↔ (a ρ S).wp fun d S => ∃ x e, d = .str x ∧ tabD kvs x = some e ∧ Q e S := by
  unfold mTab
  simp only [wp_bind]
  constructor <;> intro h <;> refine wp_mono h fun d S h => ?_
  · split at h
    · rename_i x
      split at h
      · rename_i e he; exact ⟨x, e, rfl, he, h⟩
      · exact h.elim
    · exact h.elim
  · obtain ⟨x, e, rfl, he, h⟩ := h
    show Res.wp (match tabD kvs x with | some e => .ok e S | none => .bad) Q
    rw [he]; exact h
theorem w_onone {QO : Option Int → Sto → Prop} : (oNone ρ S).wp QO ↔ QO none S := Iff.rfl
theorem w_osome {QO : Option Int → Sto → Prop} : (oSome a ρ S).wp QO ↔ (a ρ S).wp fun d S => ∃ i, d = .int i ∧ QO (some i) S := by
  unfold oSome
  simp only [wp_bind]
  constructor <;> intro h <;> refine wp_mono h fun d S h => ?_
  · split at h
    · exact ⟨_, rfl, h⟩
    · exact h.elim
  · obtain ⟨x, rfl, h⟩ := h; exact h
theorem w_sl {lo hi : MO} : (mSl a lo hi ρ S).wp Q ↔ (a ρ S).wp fun x S => (lo ρ S).wp fun l S => (hi ρ S).wp fun h S => (fSl x l h S).wp Q := by unfold mSl; simp only [wp_bind]
/-! statements -/
theorem s_nil : (sNil ρ S).wp N R ↔ N ρ S := Iff.rfl
theorem s_seq : (sSeq s1 s2 ρ S).wp N R ↔ (s1 ρ S).wp (fun ρ S => (s2 ρ S).wp N R) R := by
  unfold sSeq
  cases s1 ρ S <;> exact Iff.rfl
theorem s_drop : (sDrop a ρ S).wp N R ↔ (a ρ S).wp fun _ S => N ρ S := by unfold sDrop; simp only [wp_st, sw_nx]
theorem s_ret : (sRet a ρ S).wp N R ↔ (a ρ S).wp R := by unfold sRet; simp only [wp_st, sw_rt]
theorem s_set : (sSet i a ρ S).wp N R ↔ (a ρ S).wp fun d S => N (ρ.set i (some d)) S := by unfold sSet; simp only [wp_st, sw_nx]
theorem s_if : (sIf t s1 s2 ρ S).wp N R ↔ (t ρ S).wp fun x S => if x = true then (s1 ρ S).wp N R else (s2 ρ S).wp N R := by
  unfold sIf
  simp only [wp_st]
  constructor <;> intro h <;> refine wp_mono h fun d S h => ?_ <;> split <;> simp_all
theorem s_par {j : Nat} : (sPar i j ma ρ S).wp N R ↔ (ma ρ S).wp fun ds S => ∃ d e, ds = [d, e] ∧ N ((ρ.set i (some d)).set j (some e)) S := by
  unfold sPar
  simp only [wp_st]
  constructor <;> intro h <;> refine wp_mono h fun ds S h => ?_
  · split at h
    · exact ⟨_, _, rfl, h⟩
    · exact h.elim
  · obtain ⟨d, e, rfl, h⟩ := h; exact h
theorem s_asg {p : Pt} : (sAsg p a ρ S).wp N R ↔ (a ρ S).wp fun d S => ∃ ρ1, p.put S ρ d = some ρ1 ∧ N ρ1 S := by
  unfold sAsg
  simp only [wp_st]
  constructor <;> intro h <;> refine wp_mono h fun d S h => ?_
  · split at h
    · rename_i ρ1 e; exact ⟨ρ1, e, h⟩
    · exact h.elim
  · obtain ⟨ρ1, e, h⟩ := h; rw [e]; exact h
theorem s_put : (sPut b c a ρ S).wp N R ↔ (a ρ S).wp fun d S => (b ρ S).wp fun x S => (c ρ S).wp fun y S => ∃ n k xs j, x = .ref n ∧ y = .int k ∧ S[n]? = some (.lst xs) ∧ ixN xs.length k = some j ∧ N ρ (S.set n (.lst (xs.set j d))) := by
  unfold sPut
  simp only [wp_st]
  constructor <;> intro h <;> refine wp_mono h fun d S h => wp_mono h fun x S h => wp_mono h fun y S h => ?_
  · split at h
    · split at h
      · split at h
        · exact ⟨_, _, _, _, rfl, rfl, by assumption, by assumption, h⟩
        · exact h.elim
      · exact h.elim
    · exact h.elim
  · obtain ⟨n, k, xs, j, rfl, rfl, hs, hj, h⟩ := h
    show RS.wp (match S[n]? with | some (.lst xs) => (match ixN xs.length k with | some j => .nx ρ (S.set n (.lst (xs.set j d))) | none => .bad) | _ => .bad) N R
    rw [hs]
    show RS.wp (match ixN xs.length k with | some j => .nx ρ (S.set n (.lst (xs.set j d))) | none => .bad) N R
    rw [hj]
    exact h
theorem w_def {m : MS} (h : ds.length = n) (hm : (m (ds.map some ++ List.replicate (l - ds.length) none) S).wp (fun _ S => Q .non S) Q) : (mDef n l m ds S).wp Q := by
  unfold mDef
  rw [if_pos h]
  generalize m (ds.map some ++ List.replicate (l - ds.length) none) S = r at hm ⊢
  cases r <;> first | exact hm | exact hm.elim
end
/-! ### loops -/
theorem s_for {it : MI} {p : Pt} {body : MS} {ρ : En} {S : Sto} {N : En → Sto → Prop} {R : D → Sto → Prop} : (sFor it p body ρ S).wp N R ↔ (it ρ S).wp fun z S1 => (mLoop p body z.2 z.1 ρ S1).wp N R := by unfold sFor; simp only [wp_st]
/-- a loop, by what holds ahead of each turn -/
theorem loop_wp {p : Pt} {body : MS} {chk : Sto → Bool} {N : En → Sto → Prop} {R : D → Sto → Prop} (I : List D → En → Sto → Prop) (hc : ∀ l ρ S, I l ρ S → chk S = true)
    (hs : ∀ d l ρ S, I (d :: l) ρ S → ∃ ρ1, p.put S ρ d = some ρ1 ∧ (body ρ1 S).wp (I l) R) (he : ∀ ρ S, I [] ρ S → N ρ S) : ∀ (l : List D) (ρ : En) (S : Sto), I l ρ S → (mLoop p body chk l ρ S).wp N R
  | [], ρ, S, h => by
    unfold mLoop
    rw [if_pos (hc _ _ _ h)]
    exact he ρ S h
  | d :: l, ρ, S, h => by
    unfold mLoop
    rw [if_pos (hc _ _ _ h)]
    obtain ⟨ρ1, e, hb⟩ := hs d l ρ S h
    rw [e]
    show RS.wp (match body ρ1 S with | .nx ρ2 S2 => mLoop p body chk l ρ2 S2 | .ct ρ2 S2 => mLoop p body chk l ρ2 S2 | .bk ρ2 S2 => .nx ρ2 S2 | .rt d S2 => .rt d S2 | .ex c n ρ2 S2 => .ex c n ρ2 S2 | .bad => .bad) N R
    generalize body ρ1 S = r at hb ⊢
    cases r with
    | nx ρ2 S2 => exact loop_wp I hc hs he l ρ2 S2 hb
    | rt d S2 => exact hb
    | _ => exact hb.elim
theorem w_comp {it : MI} {p : Pt} {cond : MT} {elt : M} {vs : List Nat} {ρ : En} {S : Sto} {Q : D → Sto → Prop} (hw : p.within vs = true) (h : (it ρ S).wp fun z S1 => (mCompL p cond elt z.2 S1.length (wipeE ρ vs) z.1 (S1 ++ [.lst []])).wp Q) : (mComp it p cond elt vs ρ S).wp Q := by
  unfold mComp
  simp only [wp_bind]
  refine wp_mono h fun z S1 h => ?_
  rw [if_pos hw]
  exact h
/-- a comprehension without a condition, by what holds ahead of each turn: the items that are left, those that are made, the store without the new list -/
theorem comp_wp {p : Pt} {elt : M} {chk : Sto → Bool} {n : Nat} {ρ : En} {Q : D → Sto → Prop} (I : List D → List D → Sto → Prop) (hc : ∀ l acc S, I l acc S → chk S = true)
    (hs : ∀ d l acc S, I (d :: l) acc S → S[n]? = some (.lst acc) → ∃ ρ1, p.put S ρ d = some ρ1 ∧ (elt ρ1 S).wp fun x S2 => S2[n]? = some (.lst acc) ∧ acc.length < sizeLine ∧ I l (acc ++ [x]) (S2.set n (.lst (acc ++ [x]))))
    (he : ∀ acc S, I [] acc S → S[n]? = some (.lst acc) → Q (.ref n) S) : ∀ (l acc : List D) (S : Sto), I l acc S → S[n]? = some (.lst acc) → (mCompL p tYesM elt chk n ρ l S).wp Q
  | [], acc, S, h, hn => by
    unfold mCompL
    rw [if_pos (hc _ _ _ h)]
    exact he acc S h hn
  | d :: l, acc, S, h, hn => by
    unfold mCompL
    rw [if_pos (hc _ _ _ h)]
    obtain ⟨ρ1, e, hb⟩ := hs d l acc S h hn
    rw [e]
    show Res.wp ((Res.ok true S).only.bind fun b S1 => if b = true then ((elt ρ1 S1).only).bind fun x S2 => match S2[n]? with
          | some (.lst acc) => if acc.length < sizeLine then mCompL p tYesM elt chk n ρ l (S2.set n (.lst (acc ++ [x]))) else .bad
          | _ => .bad
        else mCompL p tYesM elt chk n ρ l S1) Q
    rw [wp_bind, wp_only, wp_ok, if_pos rfl, wp_bind, wp_only]
    refine wp_mono hb fun x S2 ⟨h1, h2, h3⟩ => ?_
    rw [h1]
    show Res.wp (if acc.length < sizeLine then mCompL p tYesM elt chk n ρ l (S2.set n (.lst (acc ++ [x]))) else .bad) Q
    rw [if_pos h2]
    have hl : n < S2.length := (List.getElem?_eq_some_iff.mp h1).1
    exact comp_wp I hc hs he l (acc ++ [x]) _ h3 (List.getElem?_set_self hl)
/-! ### iterables -/
theorem i_val {m : M} {ρ : En} {S : Sto} {Q : It0 → Sto → Prop} : (iVal m ρ S).wp Q ↔ (m ρ S).wp fun d S1 => ∃ z, itD S1 d = some z ∧ Q z S1 := by
  unfold iVal
  simp only [wp_bind]
  constructor <;> intro h <;> refine wp_mono h fun d S h => ?_
  · split at h
    · rename_i z e; exact ⟨z, e, h⟩
    · exact h.elim
  · obtain ⟨z, e, h⟩ := h; rw [e]; exact h
theorem i_range1 {ma : MA} {ρ : En} {S : Sto} {Q : It0 → Sto → Prop} : (iRange1 ma ρ S).wp Q ↔ (ma ρ S).wp fun ds S1 => ∃ j, ds = [.int j] ∧ smallI j = true ∧ Q ((List.range j.toNat).map fun i => .int (0 + (i : Nat)), always) S1 := by
  unfold iRange1
  simp only [wp_bind]
  constructor <;> intro h <;> refine wp_mono h fun ds S h => ?_
  · split at h
    · rename_i j
      split at h
      · rename_i hj; exact ⟨j, rfl, hj, h⟩
      · exact h.elim
    · exact h.elim
  · obtain ⟨j, rfl, hj, h⟩ := h
    show Res.wp (if smallI j = true then _ else _) Q
    rw [if_pos hj]; exact h
end Mn

set_option Elab.async false
set_option linter.all false
set_option maxRecDepth 100000
set_option maxHeartbeats 4000000
/-! Mn: the laws' pot, take, of. No program here. -/
namespace Mn
open PySem PySem.Spec PyProof.Rows L2
section
variable {S : Sto} {Q : D → Sto → Prop} {i j : Int} {c : Int → Int → Bool} {g : Int → Int → D} {n : Nat} {ds es : List D} {d : D} {x y : Str}
theorem w_fI : (fI c g (.int i) (.int j) S).wp Q ↔ c i j = true ∧ Q (g i j) S := by
  show Res.wp (if c i j = true then .ok (g i j) S else .bad) Q ↔ _
  constructor <;> intro h
  · split at h
    · rename_i hc; exact ⟨hc, h⟩
    · exact h.elim
  · rw [if_pos h.1]; exact h.2
theorem w_addI : (fAdd (.int i) (.int j) S).wp Q ↔ Q (.int (i + j)) S := Iff.rfl
theorem w_addS : (fAdd (.str x) (.str y) S).wp Q ↔ x.length + y.length ≤ sizeLine ∧ Q (.str (x ++ y)) S := by
  show Res.wp (if x.length + y.length ≤ sizeLine then .ok (.str (x ++ y)) S else .bad) Q ↔ _
  constructor <;> intro h
  · split at h
    · rename_i hc; exact ⟨hc, h⟩
    · exact h.elim
  · rw [if_pos h.1]; exact h.2
theorem w_addT : (fAdd (.tup ds) (.tup es) S).wp Q ↔ ds.length + es.length ≤ sizeLine ∧ Q (.tup (ds ++ es)) S := by
  show Res.wp (if ds.length + es.length ≤ sizeLine then .ok (.tup (ds ++ es)) S else .bad) Q ↔ _
  constructor <;> intro h
  · split at h
    · rename_i hc; exact ⟨hc, h⟩
    · exact h.elim
  · rw [if_pos h.1]; exact h.2
theorem w_addL {m : Nat} (h1 : S[n]? = some (.lst ds)) (h2 : S[m]? = some (.lst es)) : (fAdd (.ref n) (.ref m) S).wp Q ↔ ds.length + es.length ≤ sizeLine ∧ Q (.ref S.length) (S ++ [.lst (ds ++ es)]) := by
  have e : fAdd (.ref n) (.ref m) S = if ds.length + es.length ≤ sizeLine then .ok (.ref S.length) (S ++ [.lst (ds ++ es)]) else .bad := by
    show (match S[n]?, S[m]? with | some (.lst a), some (.lst b) => _ | _, _ => _) = _
    rw [h1, h2]
  rw [e]
  constructor <;> intro h
  · split at h
    · rename_i hc; exact ⟨hc, h⟩
    · exact h.elim
  · rw [if_pos h.1]; exact h.2
theorem w_mulI : (fMul (.int i) (.int j) S).wp Q ↔ mulOk i j = true ∧ Q (.int (i * j)) S := by
  show Res.wp (if mulOk i j = true then .ok (.int (i * j)) S else .bad) Q ↔ _
  constructor <;> intro h
  · split at h
    · rename_i hc; exact ⟨hc, h⟩
    · exact h.elim
  · rw [if_pos h.1]; exact h.2
theorem w_ixL (h : S[n]? = some (.lst ds)) : (fIx (.ref n) (.int i) S).wp Q ↔ ∃ d, atI ds i = some d ∧ Q d S := by
  have e : fIx (.ref n) (.int i) S = match atI ds i with | some d => .ok d S | none => .bad := by
    show (match S[n]? with | some (.lst ds) => _ | _ => _) = _
    rw [h] <;> rfl
  rw [e]
  constructor <;> intro h
  · split at h
    · rename_i d hd; exact ⟨d, hd, h⟩
    · exact h.elim
  · obtain ⟨d, hd, h⟩ := h; rw [hd]; exact h
theorem w_ixT : (fIx (.tup ds) (.int i) S).wp Q ↔ ∃ d, atI ds i = some d ∧ Q d S := by
  show Res.wp (match atI ds i with | some d => .ok d S | none => .bad) Q ↔ _
  constructor <;> intro h
  · split at h
    · rename_i d hd; exact ⟨d, hd, h⟩
    · exact h.elim
  · obtain ⟨d, hd, h⟩ := h; rw [hd]; exact h
theorem w_ixF : (fIx (.fls ds) (.int i) S).wp Q ↔ ∃ d, atI ds i = some d ∧ Q d S := by
  show Res.wp (match atI ds i with | some d => .ok d S | none => .bad) Q ↔ _
  constructor <;> intro h
  · split at h
    · rename_i d hd; exact ⟨d, hd, h⟩
    · exact h.elim
  · obtain ⟨d, hd, h⟩ := h; rw [hd]; exact h
theorem w_int : (cInt [.int i] S).wp Q ↔ Q (.int i) S := Iff.rfl
theorem w_intB {b : Bool} : (cInt [.bl b] S).wp Q ↔ Q (.int (if b then 1 else 0)) S := Iff.rfl
theorem w_abs : (cAbs [.int i] S).wp Q ↔ Q (.int (if i < 0 then -i else i)) S := Iff.rfl
theorem w_lenT : (cLen [.tup ds] S).wp Q ↔ Q (.int (ds.length : Nat)) S := Iff.rfl
theorem w_lenF : (cLen [.fls ds] S).wp Q ↔ Q (.int (ds.length : Nat)) S := Iff.rfl
theorem w_lenS : (cLen [.str x] S).wp Q ↔ x.length ≤ sizeLine ∧ Q (.int (x.length : Nat)) S := by
  show Res.wp (if x.length ≤ sizeLine then .ok (.int (x.length : Nat)) S else .bad) Q ↔ _
  constructor <;> intro h
  · split at h
    · rename_i hc; exact ⟨hc, h⟩
    · exact h.elim
  · rw [if_pos h.1]; exact h.2
theorem w_lenL (h : S[n]? = some (.lst ds)) : (cLen [.ref n] S).wp Q ↔ Q (.int (ds.length : Nat)) S := by
  have e : cLen [.ref n] S = .ok (.int (ds.length : Nat)) S := by
    show (match S[n]? with | some (.lst xs) => _ | _ => _) = _
    rw [h]
  rw [e]
  exact Iff.rfl
theorem w_tupT : (cTuple [.tup ds] S).wp Q ↔ Q (.tup ds) S := Iff.rfl
theorem w_tupL (h : S[n]? = some (.lst ds)) : (cTuple [.ref n] S).wp Q ↔ Q (.tup ds) S := by
  have e : cTuple [.ref n] S = .ok (.tup ds) S := by
    show (match S[n]? with | some (.lst xs) => _ | _ => _) = _
    rw [h]
  rw [e]
  exact Iff.rfl
theorem w_app (h : S[n]? = some (.lst ds)) : (fAppend (.ref n) [d] S).wp Q ↔ ds.length < sizeLine ∧ Q .non (S.set n (.lst (ds ++ [d]))) := by
  have e : fAppend (.ref n) [d] S = if ds.length < sizeLine then .ok .non (S.set n (.lst (ds ++ [d]))) else .bad := by
    show (match S[n]? with | some (.lst xs) => _ | _ => _) = _
    rw [h]
  rw [e]
  constructor <;> intro h
  · split at h
    · rename_i hc; exact ⟨hc, h⟩
    · exact h.elim
  · rw [if_pos h.1]; exact h.2
theorem w_eq {d e : D} {b : Bool} (h : eqN eqK S d e = some b) : (fEq d e S).wp Q ↔ Q (.bl b) S := by
  unfold fEq
  rw [h]
  exact Iff.rfl
theorem w_ne {d e : D} {b : Bool} (h : eqN eqK S d e = some b) : (fNe d e S).wp Q ↔ Q (.bl (!b)) S := by
  unfold fNe
  rw [h]
  exact Iff.rfl
theorem w_in {d e : D} {b : Bool} (h : inW S d e = some b) : (fIn d e S).wp Q ↔ Q (.bl b) S := by
  unfold fIn
  rw [h]
  exact Iff.rfl
theorem w_notIn {d e : D} {b : Bool} (h : inW S d e = some b) : (fNotIn d e S).wp Q ↔ Q (.bl (!b)) S := by
  unfold fNotIn
  rw [h]
  exact Iff.rfl
theorem eqN_int : eqN eqK S (.int i) (.int j) = some (i == j) := rfl
theorem eqN_str : eqN eqK S (.str x) (.str y) = some (x == y) := rfl
end
/-! ### dicts -/
section
variable {ρ : En} {S : Sto} {Q : D → Sto → Prop} {QP : List (D × D) → Sto → Prop} {a b c : M} {mp : MP}
theorem w_pnil : (pNil ρ S).wp QP ↔ QP [] S := Iff.rfl
theorem w_pcons : (pCons a b mp ρ S).wp QP ↔ (a ρ S).wp fun x S => (b ρ S).wp fun y S => (mp ρ S).wp fun ps S => QP ((x, y) :: ps) S := by unfold pCons; simp only [wp_bind, wp_ok]
theorem w_disp : (mDisp mp ρ S).wp Q ↔ (mp ρ (S ++ [.dct []])).wp fun ps S1 => ∃ kvs, keysD ps = some kvs ∧ kvs.length ≤ 15 ∧ S1[S.length]? = some (.dct []) ∧ Q (.ref S.length) (S1.set S.length (.dct (mergeD [] kvs))) := by
  unfold mDisp
  simp only [wp_bind]
  constructor <;> intro h <;> refine wp_mono h fun ps S1 h => ?_
  · split at h
    · rename_i kvs hk
      split at h
      · rename_i hc
        exact ⟨kvs, hk, hc.1, hc.2, h⟩
      · exact h.elim
    · exact h.elim
  · obtain ⟨kvs, hk, h1, h2, h⟩ := h
    rw [hk]
    show Res.wp (if _ then _ else _) Q
    rw [if_pos ⟨h1, h2⟩]
    exact h
theorem w_upd {n m : Nat} {k l : List (Key × D)} (nm : n ≠ m) (h1 : S[n]? = some (.dct k)) (h2 : S[m]? = some (.dct l)) (h3 : k.length + l.length ≤ sizeLine) : (fUpdate (.ref n) [.ref m] S).wp Q ↔ Q .non (S.set n (.dct (mergeD k l))) := by
  have e : fUpdate (.ref n) [.ref m] S = .ok .non (S.set n (.dct (mergeD k l))) := by
    show (if n = m then _ else _) = _
    rw [if_neg nm]
    show (match S[n]?, S[m]? with | some (.dct a), some (.dct b) => _ | _, _ => _) = _
    rw [h1, h2]
    show (if _ then _ else _) = _
    rw [if_pos h3]
  rw [e]
  exact Iff.rfl
theorem w_get2 : (mGet2 a b c ρ S).wp Q ↔ (a ρ S).wp fun d S => kOf S d = "dict" ∧ (b ρ S).wp fun y S => (c ρ S).wp fun z S => ∃ n kk kvs, d = .ref n ∧ keyD y = some kk ∧ S[n]? = some (.dct kvs) ∧ Q ((valD kvs kk).getD z) S := by
  unfold mGet2
  simp only [wp_bind]
  constructor <;> intro h <;> refine wp_mono h fun d S h => ?_
  · split at h
    · rename_i hk
      refine ⟨hk, ?_⟩
      rw [wp_bind] at h
      refine wp_mono h fun y S h => ?_
      rw [wp_bind] at h
      refine wp_mono h fun z S h => ?_
      split at h
      · split at h
        · exact ⟨_, _, _, rfl, by assumption, by assumption, h⟩
        · exact h.elim
      · exact h.elim
    · exact h.elim
  · rw [if_pos h.1, wp_bind]
    refine wp_mono h.2 fun y S h => ?_
    rw [wp_bind]
    refine wp_mono h fun z S h => ?_
    obtain ⟨n, kk, kvs, rfl, hk, hs, h⟩ := h
    rw [hk]
    show Res.wp (match S[n]? with | some (.dct kvs) => .ok ((valD kvs kk).getD z) S | _ => .bad) Q
    rw [hs]
    exact h
end
/-! ### what a store keeps but for the pot -/
def Ext (p : Nat) (S S' : Sto) : Prop := S.length ≤ S'.length ∧ ∀ n, n < S.length → n ≠ p → S'[n]? = S[n]?
section
variable {p : Nat} {S S' S'' : Sto}
theorem Ext.refl (p : Nat) (S : Sto) : Ext p S S := ⟨Nat.le_refl _, fun _ _ _ => rfl⟩
theorem Ext.trans (a : Ext p S S') (b : Ext p S' S'') : Ext p S S'' := ⟨Nat.le_trans a.1 b.1, fun n h1 h2 => (b.2 n (Nat.lt_of_lt_of_le h1 a.1) h2).trans (a.2 n h1 h2)⟩
theorem Ext.app (a : Ext p S S') (l : List Ob) : Ext p S (S' ++ l) := ⟨by rw [List.length_append]; have := a.1; omega, fun n h1 h2 => by rw [List.getElem?_append_left (Nat.lt_of_lt_of_le h1 a.1)]; exact a.2 n h1 h2⟩
theorem Ext.put (a : Ext p S S') (o : Ob) : Ext p S (S'.set p o) := ⟨by rw [List.length_set]; exact a.1, fun n h1 h2 => by rw [List.getElem?_set_ne (Ne.symm h2)]; exact a.2 n h1 h2⟩
/-- something new is written -/
theorem Ext.set (a : Ext p S S') {m : Nat} (hm : S.length ≤ m) (o : Ob) : Ext p S (S'.set m o) := ⟨by rw [List.length_set]; exact a.1, fun n h1 h2 => by rw [List.getElem?_set_ne (by omega)]; exact a.2 n h1 h2⟩
theorem Ext.at_ (a : Ext p S S') {n : Nat} {o : Ob} (h : S[n]? = some o) (hn : n ≠ p) : S'[n]? = some o := (a.2 n (List.getElem?_eq_some_iff.mp h).1 hn).trans h
theorem Ext.lt (a : Ext p S S') {n : Nat} (h : n < S.length) : n < S'.length := Nat.lt_of_lt_of_le h a.1
end
/-- the pot at p: drawn from at most c times -/
def Pot (p : Nat) (c : Int) (S : Sto) : Prop := ∃ own mixed cnt : Int, S[p]? = some (.lst [.int own, .int mixed, .int cnt]) ∧ 0 ≤ own ∧ (0 ≤ mixed ∧ mixed < 2 ^ 62) ∧ 0 ≤ cnt ∧ cnt ≤ c
theorem Pot.lt {p : Nat} {c : Int} {S : Sto} (h : Pot p c S) : p < S.length := by
  obtain ⟨_, _, _, e, _⟩ := h
  exact (List.getElem?_eq_some_iff.mp e).1
theorem Pot.le {p : Nat} {c c' : Int} {S : Sto} (h : Pot p c S) (hc : c ≤ c') : Pot p c' S := by
  obtain ⟨a, b, n, e, h1, h2, h3, h4⟩ := h
  exact ⟨a, b, n, e, h1, h2, h3, by omega⟩
theorem Pot.app {p : Nat} {c : Int} {S : Sto} (h : Pot p c S) (l : List Ob) : Pot p c (S ++ l) := by
  have hl := h.lt
  obtain ⟨a, b, n, e, r⟩ := h
  exact ⟨a, b, n, by rw [List.getElem?_append_left hl]; exact e, r⟩
theorem Pot.set {p m : Nat} {c : Int} {S : Sto} (h : Pot p c S) (hm : m ≠ p) (o : Ob) : Pot p c (S.set m o) := by
  obtain ⟨a, b, n, e, r⟩ := h
  exact ⟨a, b, n, by rw [List.getElem?_set_ne hm]; exact e, r⟩
/-- the laws' take -/
def bTake : MS := (sSeq (sIf (tVal (mBin fGt (mBin fIx (mVar 0) (mC (.int 0))) (mC (.int 0)))) (sSeq (sSet 4 (mBin fMod (mCB cInt (aCons (mBin fIx (mVar 0) (mC (.int 0))) aNil)) (mVar 1)))
  (sSeq (sPut (mVar 0) (mC (.int 0)) (mBin fDiv (mBin fIx (mVar 0) (mC (.int 0))) (mVar 1)))
  (sRet (mVar 4)))) sNil)
  (sSeq (sPut (mVar 0) (mC (.int 2)) (mBin fAdd (mBin fIx (mVar 0) (mC (.int 2))) (mC (.int 1))))
  (sSeq (sSet 2 (mBin fIx (mLst (aCons (mC (.int 2147483647)) (aCons (mC (.int 2147483629)) (aCons (mC (.int 2147483587)) (aCons (mC (.int 2147483579)) (aCons (mC (.int 2147483563)) aNil)))))) (mBin fMod (mCB cInt (aCons (mBin fIx (mVar 0) (mC (.int 2))) aNil)) (mC (.int 5)))))
  (sSeq (sSet 3 (mBin fMod (mCB cInt (aCons (mBin fPow (mCB cInt (aCons (mBin fAdd (mBin fAdd (mBin fIx (mVar 0) (mC (.int 1))) (mBin fMul (mBin fMul (mC (.int 99991)) (mBin fIx (mVar 0) (mC (.int 2)))) (mBin fIx (mVar 0) (mC (.int 2))))) (mC (.int 41))) aNil)) (mC (.int 3))) aNil)) (mVar 2)))
  (sSeq (sSet 3 (mBin fMod (mCB cInt (aCons (mBin fMul (mVar 3) (mBin fAdd (mBin fMod (mCB cInt (aCons (mVar 3) aNil)) (mC (.int 10009))) (mBin fMul (mC (.int 83)) (mBin fIx (mVar 0) (mC (.int 2)))))) aNil)) (mC (.int 2305843009213693907))))
  (sRet (mBin fMod (mCB cInt (aCons (mBin fDiv (mVar 3) (mC (.int 109))) aNil)) (mVar 1))))))))
def fTake : F := mDef 2 5 bTake
theorem mulOk_l {i j : Int} (h1 : -(2 ^ 64) < i) (h2 : i < 2 ^ 64) : mulOk i j = true := by unfold mulOk; rw [decide_eq_true h1, decide_eq_true h2]; rfl
theorem mulOk_r {i j : Int} (h1 : -(2 ^ 64) < j) (h2 : j < 2 ^ 64) : mulOk i j = true := by unfold mulOk; rw [decide_eq_true h1, decide_eq_true h2]; simp
theorem prime_at {r : Int} (h0 : 0 ≤ r) (h1 : r < 5) : ∃ q : Int, atI [D.int 2147483647, .int 2147483629, .int 2147483587, .int 2147483579, .int 2147483563] r = some (.int q) ∧ 0 < q ∧ q < 2 ^ 31 := by
  have : r = 0 ∨ r = 1 ∨ r = 2 ∨ r = 3 ∨ r = 4 := by omega
  rcases this with rfl | rfl | rfl | rfl | rfl <;> exact ⟨_, rfl, by decide, by decide⟩
theorem take_wp {p : Nat} {c u : Int} {S : Sto} {Q : D → Sto → Prop} (h : Pot p c S) (hc : c < 2 ^ 40) (hu : 0 < u) (hu2 : u < 1073741824)
    (q : ∀ (r : Int) S', 0 ≤ r → r < u → Ext p S S' → Pot p (c + 1) S' → Q (.int r) S') : (fTake [.ref p, .int u] S).wp Q := by
  have hl := h.lt
  obtain ⟨own, mixed, cnt, e, ho, ⟨hm0, hm1⟩, hn0, hn1⟩ := h
  unfold fTake bTake
  refine w_def rfl ?_
  have ed : divOk u = true := by unfold divOk; rw [decide_eq_true hu, decide_eq_true hu2]; rfl
  try simp only [s_nil, s_seq, s_drop, s_ret, s_set, s_if, s_par, s_put, s_for, w_var, w_c, w_bin, w_un, w_nil, w_cons, w_cb, w_tup, w_lst, w_val, w_tnot, w_tand, w_tor, w_and, w_or, w_not, w_if, w_chain, w_isi, w_mt, w_tab, w_onone, w_osome, w_sl, List.map_cons, List.map_nil, List.length_cons, List.length_nil, List.cons_append, List.nil_append, List.getElem?_cons_zero, List.getElem?_cons_succ, List.set_cons_zero, List.set_cons_succ, List.reduceReplicate, Nat.reduceAdd, Nat.reduceSub]
  rw [w_ixL e]
  refine ⟨.int own, rfl, ?_⟩
  rw [w_fI]
  refine ⟨rfl, decide (0 < own), rfl, ?_⟩
  by_cases hp : 0 < own
  · rw [if_pos (decide_eq_true hp), w_ixL e]
    refine ⟨.int own, rfl, ?_⟩
    rw [w_int, w_fI]
    refine ⟨decide_eq_true hu, ?_⟩
    try simp only [s_nil, s_seq, s_drop, s_ret, s_set, s_if, s_par, s_put, s_for, w_var, w_c, w_bin, w_un, w_nil, w_cons, w_cb, w_tup, w_lst, w_val, w_tnot, w_tand, w_tor, w_and, w_or, w_not, w_if, w_chain, w_isi, w_mt, w_tab, w_onone, w_osome, w_sl, List.map_cons, List.map_nil, List.length_cons, List.length_nil, List.cons_append, List.nil_append, List.getElem?_cons_zero, List.getElem?_cons_succ, List.set_cons_zero, List.set_cons_succ, List.reduceReplicate, Nat.reduceAdd, Nat.reduceSub]
    rw [w_ixL e]
    refine ⟨.int own, rfl, ?_⟩
    rw [w_fI]
    refine ⟨ed, p, 0, _, 0, rfl, rfl, e, rfl, ?_⟩
    refine q (own % u) _ (Int.emod_nonneg _ (by omega)) (Int.emod_lt_of_pos _ hu) ((Ext.refl p S).put _) ⟨own / u, mixed, cnt, ?_, Int.ediv_nonneg ho (by omega), ⟨hm0, hm1⟩, hn0, by omega⟩
    rw [List.getElem?_set_self hl]
    rfl
  · rw [if_neg (by simp [hp]), w_ixL e]
    refine ⟨.int cnt, rfl, ?_⟩
    rw [w_addI]
    refine ⟨p, 2, _, 2, rfl, rfl, e, rfl, by decide, ?_⟩
    try simp only [s_nil, s_seq, s_drop, s_ret, s_set, s_if, s_par, s_put, s_for, w_var, w_c, w_bin, w_un, w_nil, w_cons, w_cb, w_tup, w_lst, w_val, w_tnot, w_tand, w_tor, w_and, w_or, w_not, w_if, w_chain, w_isi, w_mt, w_tab, w_onone, w_osome, w_sl, List.map_cons, List.map_nil, List.length_cons, List.length_nil, List.cons_append, List.nil_append, List.getElem?_cons_zero, List.getElem?_cons_succ, List.set_cons_zero, List.set_cons_succ, List.reduceReplicate, Nat.reduceAdd, Nat.reduceSub]
    have e1 : (S.set p (.lst [.int own, .int mixed, .int (cnt + 1)]))[p]? = some (.lst [.int own, .int mixed, .int (cnt + 1)]) := List.getElem?_set_self hl
    have x1 : Ext p S (S.set p (.lst [.int own, .int mixed, .int (cnt + 1)])) := (Ext.refl p S).put _
    have e2 : ∀ l : Ob, (S.set p (.lst [.int own, .int mixed, .int (cnt + 1)]) ++ [l])[p]? = some (.lst [.int own, .int mixed, .int (cnt + 1)]) := fun l => by
      rw [List.getElem?_append_left (by rw [List.length_set]; exact hl)]
      exact e1
    rw [w_ixL (e2 _)]
    refine ⟨.int (cnt + 1), rfl, ?_⟩
    rw [w_int, w_fI]
    refine ⟨by decide, ?_⟩
    rw [w_ixL (n := (S.set p (.lst [.int own, .int mixed, .int (cnt + 1)])).length) List.getElem?_concat_length]
    obtain ⟨pr, e3, pr0, pr1⟩ := prime_at (Int.emod_nonneg (cnt + 1) (by decide : (5 : Int) ≠ 0)) (Int.emod_lt_of_pos (cnt + 1) (by decide : (0 : Int) < 5))
    refine ⟨.int pr, e3, ?_⟩
    try simp only [s_nil, s_seq, s_drop, s_ret, s_set, s_if, s_par, s_put, s_for, w_var, w_c, w_bin, w_un, w_nil, w_cons, w_cb, w_tup, w_lst, w_val, w_tnot, w_tand, w_tor, w_and, w_or, w_not, w_if, w_chain, w_isi, w_mt, w_tab, w_onone, w_osome, w_sl, List.map_cons, List.map_nil, List.length_cons, List.length_nil, List.cons_append, List.nil_append, List.getElem?_cons_zero, List.getElem?_cons_succ, List.set_cons_zero, List.set_cons_succ, List.reduceReplicate, Nat.reduceAdd, Nat.reduceSub]
    have sq : (99991 * (cnt + 1) * (cnt + 1)).natAbs < 2 ^ 98 := by
      have h1 : 0 ≤ cnt + 1 := by omega
      have h2 : cnt + 1 ≤ 2 ^ 40 := by omega
      have h3 : (cnt + 1) * (cnt + 1) ≤ 2 ^ 40 * 2 ^ 40 := Int.mul_le_mul h2 h2 h1 (by decide)
      have h4 : 0 ≤ (cnt + 1) * (cnt + 1) := Int.mul_nonneg h1 h1
      have h5 : 99991 * (cnt + 1) * (cnt + 1) = 99991 * ((cnt + 1) * (cnt + 1)) := Int.mul_assoc _ _ _
      omega
    have sq0 : 0 ≤ 99991 * (cnt + 1) * (cnt + 1) := Int.mul_nonneg (by omega) (by omega)
    rw [w_ixL (e2 _)]
    refine ⟨.int mixed, rfl, ?_⟩
    rw [w_ixL (e2 _)]
    refine ⟨.int (cnt + 1), rfl, ?_⟩
    rw [w_mulI]
    refine ⟨mulOk_l (by decide) (by decide), ?_⟩
    rw [w_ixL (e2 _)]
    refine ⟨.int (cnt + 1), rfl, ?_⟩
    rw [w_mulI]
    refine ⟨mulOk_r (by omega) (by omega), ?_⟩
    rw [w_addI, w_addI, w_int, w_fI]
    have bb : Builtin.Int.intBits (mixed + 99991 * (cnt + 1) * (cnt + 1) + 41) ≤ 99 := PyProof.Rows.intBits_le (by omega)
    refine ⟨by
      unfold powOk
      rw [decide_eq_true (by decide : (0 : Int) ≤ 3), Bool.true_and]
      exact decide_eq_true (by omega), ?_⟩
    rw [w_int, w_fI]
    refine ⟨decide_eq_true pr0, ?_⟩
    try simp only [s_nil, s_seq, s_drop, s_ret, s_set, s_if, s_par, s_put, s_for, w_var, w_c, w_bin, w_un, w_nil, w_cons, w_cb, w_tup, w_lst, w_val, w_tnot, w_tand, w_tor, w_and, w_or, w_not, w_if, w_chain, w_isi, w_mt, w_tab, w_onone, w_osome, w_sl, List.map_cons, List.map_nil, List.length_cons, List.length_nil, List.cons_append, List.nil_append, List.getElem?_cons_zero, List.getElem?_cons_succ, List.set_cons_zero, List.set_cons_succ, List.reduceReplicate, Nat.reduceAdd, Nat.reduceSub]
    generalize hx : (mixed + 99991 * (cnt + 1) * (cnt + 1) + 41) ^ (3 : Int).toNat % pr = x
    have x0 : 0 ≤ x := by rw [← hx]; exact Int.emod_nonneg _ (by omega)
    have x1' : x < pr := by rw [← hx]; exact Int.emod_lt_of_pos _ pr0
    rw [w_int, w_fI]
    refine ⟨by decide, ?_⟩
    rw [w_ixL (e2 _)]
    refine ⟨.int (cnt + 1), rfl, ?_⟩
    rw [w_mulI]
    refine ⟨mulOk_l (by decide) (by decide), ?_⟩
    rw [w_addI, w_mulI]
    refine ⟨mulOk_l (by omega) (by omega), ?_⟩
    rw [w_int, w_fI]
    refine ⟨by decide, ?_⟩
    try simp only [s_nil, s_seq, s_drop, s_ret, s_set, s_if, s_par, s_put, s_for, w_var, w_c, w_bin, w_un, w_nil, w_cons, w_cb, w_tup, w_lst, w_val, w_tnot, w_tand, w_tor, w_and, w_or, w_not, w_if, w_chain, w_isi, w_mt, w_tab, w_onone, w_osome, w_sl, List.map_cons, List.map_nil, List.length_cons, List.length_nil, List.cons_append, List.nil_append, List.getElem?_cons_zero, List.getElem?_cons_succ, List.set_cons_zero, List.set_cons_succ, List.reduceReplicate, Nat.reduceAdd, Nat.reduceSub]
    rw [w_fI]
    refine ⟨by decide, ?_⟩
    rw [w_int, w_fI]
    refine ⟨decide_eq_true hu, ?_⟩
    exact q _ _ (Int.emod_nonneg _ (by omega)) (Int.emod_lt_of_pos _ hu) (x1.app _) ⟨own, mixed, cnt + 1, e2 _, ho, ⟨hm0, hm1⟩, by omega, by omega⟩
/-- the laws' of -/
def fOf (take : F) : F := mDef 2 2 (sRet (mBin fIx (mVar 1) (mCB take (aCons (mVar 0) (aCons (mCB cLen (aCons (mVar 1) aNil)) aNil)))))
theorem atI_nat {ds : List D} {r : Int} (h0 : 0 ≤ r) (h1 : r < (ds.length : Nat)) : ∃ d, atI ds r = some d ∧ d ∈ ds := by
  have hr : r.toNat < ds.length := by omega
  refine ⟨ds[r.toNat], ?_, List.getElem_mem _⟩
  unfold atI
  rw [show ixN ds.length r = some r.toNat by unfold ixN; rw [if_pos h0, if_pos h1]]
  exact List.getElem?_eq_getElem hr
theorem b01 (b : Bool) : 0 ≤ (if b = true then (1 : Int) else 0) ∧ (if b = true then (1 : Int) else 0) < 2 ^ 64 := by cases b <;> decide
theorem of_wp {p n : Nat} {c : Int} {S : Sto} {ds : List D} {Q : D → Sto → Prop} (h : Pot p c S) (hc : c < 2 ^ 40) (hn : S[n]? = some (.lst ds)) (np : n ≠ p) (h0 : 0 < ds.length) (h1 : ds.length < 1073741824)
    (q : ∀ d S', d ∈ ds → Ext p S S' → Pot p (c + 1) S' → Q d S') : (fOf fTake [.ref p, .ref n] S).wp Q := by
  unfold fOf
  refine w_def rfl ?_
  simp only [s_nil, s_seq, s_drop, s_ret, s_set, s_if, s_par, s_put, s_for, w_var, w_c, w_bin, w_un, w_nil, w_cons, w_cb, w_tup, w_lst, w_val, w_tnot, w_tand, w_tor, w_and, w_or, w_not, w_if, w_chain, w_isi, w_mt, w_tab, w_onone, w_osome, w_sl, List.map_cons, List.map_nil, List.length_cons, List.length_nil, List.cons_append, List.nil_append, List.getElem?_cons_zero, List.getElem?_cons_succ, List.set_cons_zero, List.set_cons_succ, List.reduceReplicate, Nat.reduceAdd, Nat.reduceSub]
  rw [w_lenL hn]
  refine take_wp h hc (by omega) (by omega) fun r S' r0 r1 x hp => ?_
  rw [w_ixL (x.at_ hn np)]
  obtain ⟨d, e, hd⟩ := atI_nat r0 r1
  exact ⟨d, e, q d S' hd x hp⟩
/-- the laws' pot -/
def fPot : F := mDef 2 4 (sSeq (sSet 2 (mIf (tVal (mBin fLt (mVar 1) (mCB cLen (aCons (mVar 0) aNil)))) (mBin fIx (mVar 0) (mVar 1)) (mBin fAdd (mBin fMul (mC (.int 47)) (mVar 1)) (mC (.int 23)))))
  (sSeq (sSet 3 (mBin fMul (mBin fMod (mCB cInt (aCons (mCB cAbs (aCons (mVar 2) aNil)) aNil)) (mBin fPow (mBin fPow (mC (.int 10)) (mC (.int 60))) (mC (.int 5)))) (mCB cInt (aCons (mBin fGe (mCB cAbs (aCons (mVar 2) aNil)) (mBin fPow (mC (.int 10)) (mC (.int 18)))) aNil))))
  (sRet (mLst (aCons (mVar 3) (aCons (mBin fMod (mCB cInt (aCons (mBin fAdd (mBin fAdd (mBin fMul (mBin fMod (mCB cInt (aCons (mVar 2) aNil)) (mC (.int 2305843009213693951))) (mC (.int 70991))) (mBin fMul (mBin fMul (mC (.int 5323)) (mVar 1)) (mVar 1))) (mC (.int 71))) aNil)) (mC (.int 2305843009213693921))) (aCons (mC (.int 0)) aNil)))))))
theorem pot_wp {S : Sto} {ns : List Int} {k : Int} {Q : D → Sto → Prop} (h0 : 0 ≤ k) (h1 : k < 100) (q : ∀ a b : Int, 0 ≤ a → (0 ≤ b ∧ b < 2 ^ 62) → Q (.ref S.length) (S ++ [.lst [.int a, .int b, .int 0]])) : (fPot [.fls (ns.map D.int), .int k] S).wp Q := by
  have core : ∀ x : Int, (((sSeq (sSet 3 (mBin fMul (mBin fMod (mCB cInt (aCons (mCB cAbs (aCons (mVar 2) aNil)) aNil)) (mBin fPow (mBin fPow (mC (.int 10)) (mC (.int 60))) (mC (.int 5)))) (mCB cInt (aCons (mBin fGe (mCB cAbs (aCons (mVar 2) aNil)) (mBin fPow (mC (.int 10)) (mC (.int 18)))) aNil))))
  (sRet (mLst (aCons (mVar 3) (aCons (mBin fMod (mCB cInt (aCons (mBin fAdd (mBin fAdd (mBin fMul (mBin fMod (mCB cInt (aCons (mVar 2) aNil)) (mC (.int 2305843009213693951))) (mC (.int 70991))) (mBin fMul (mBin fMul (mC (.int 5323)) (mVar 1)) (mVar 1))) (mC (.int 71))) aNil)) (mC (.int 2305843009213693921))) (aCons (mC (.int 0)) aNil))))))) [some (.fls (ns.map D.int)), some (.int k), some (.int x), none] S).wp (fun _ S => Q .non S) Q := by
    intro x
    simp only [s_nil, s_seq, s_drop, s_ret, s_set, s_if, s_par, s_put, s_for, w_var, w_c, w_bin, w_un, w_nil, w_cons, w_cb, w_tup, w_lst, w_val, w_tnot, w_tand, w_tor, w_and, w_or, w_not, w_if, w_chain, w_isi, w_mt, w_tab, w_onone, w_osome, w_sl, List.map_cons, List.map_nil, List.length_cons, List.length_nil, List.cons_append, List.nil_append, List.getElem?_cons_zero, List.getElem?_cons_succ, List.set_cons_zero, List.set_cons_succ, List.reduceReplicate, Nat.reduceAdd, Nat.reduceSub]
    rw [w_abs, w_int, w_fI]
    refine ⟨by decide +kernel, ?_⟩
    rw [w_fI]
    refine ⟨by decide +kernel, ?_⟩
    rw [w_fI]
    refine ⟨decide_eq_true (by decide +kernel), ?_⟩
    rw [w_abs, w_fI]
    refine ⟨by decide +kernel, ?_⟩
    rw [w_fI]
    refine ⟨rfl, ?_⟩
    rw [w_intB, w_mulI]
    refine ⟨mulOk_r (Int.lt_of_lt_of_le (by decide) (b01 _).1) (b01 _).2, ?_⟩
    try simp only [s_nil, s_seq, s_drop, s_ret, s_set, s_if, s_par, s_put, s_for, w_var, w_c, w_bin, w_un, w_nil, w_cons, w_cb, w_tup, w_lst, w_val, w_tnot, w_tand, w_tor, w_and, w_or, w_not, w_if, w_chain, w_isi, w_mt, w_tab, w_onone, w_osome, w_sl, List.map_cons, List.map_nil, List.length_cons, List.length_nil, List.cons_append, List.nil_append, List.getElem?_cons_zero, List.getElem?_cons_succ, List.set_cons_zero, List.set_cons_succ, List.reduceReplicate, Nat.reduceAdd, Nat.reduceSub]
    rw [w_int, w_fI]
    refine ⟨by decide, ?_⟩
    rw [w_mulI]
    refine ⟨mulOk_r (by decide) (by decide), ?_⟩
    rw [w_mulI]
    refine ⟨mulOk_l (by decide) (by decide), ?_⟩
    rw [w_mulI]
    refine ⟨mulOk_r (by omega) (by omega), ?_⟩
    rw [w_addI, w_addI, w_int, w_fI]
    refine ⟨by decide, by decide, ?_⟩
    refine q _ _ (Int.mul_nonneg (Int.emod_nonneg _ (by decide +kernel)) (b01 _).1) ⟨Int.emod_nonneg _ (by decide), ?_⟩
    have := Int.emod_lt_of_pos (x % 2305843009213693951 * 70991 + 5323 * k * k + 71) (by decide : (0 : Int) < 2305843009213693921)
    omega
  unfold fPot
  refine w_def rfl ?_
  rw [s_seq]
  simp only [s_nil, s_seq, s_drop, s_ret, s_set, s_if, s_par, s_put, s_for, w_var, w_c, w_bin, w_un, w_nil, w_cons, w_cb, w_tup, w_lst, w_val, w_tnot, w_tand, w_tor, w_and, w_or, w_not, w_if, w_chain, w_isi, w_mt, w_tab, w_onone, w_osome, w_sl, List.map_cons, List.map_nil, List.length_cons, List.length_nil, List.cons_append, List.nil_append, List.getElem?_cons_zero, List.getElem?_cons_succ, List.set_cons_zero, List.set_cons_succ, List.reduceReplicate, Nat.reduceAdd, Nat.reduceSub]
  rw [w_lenF, w_fI]
  refine ⟨rfl, _, rfl, ?_⟩
  by_cases hk : k < ((ns.map D.int).length : Nat)
  · rw [if_pos (decide_eq_true hk), w_ixF]
    obtain ⟨d, e, hd⟩ := atI_nat h0 hk
    obtain ⟨x, _, rfl⟩ := List.mem_map.mp hd
    refine ⟨.int x, e, ?_⟩
    have := core x
    simp only [s_nil, s_seq, s_drop, s_ret, s_set, s_if, s_par, s_put, s_for, w_var, w_c, w_bin, w_un, w_nil, w_cons, w_cb, w_tup, w_lst, w_val, w_tnot, w_tand, w_tor, w_and, w_or, w_not, w_if, w_chain, w_isi, w_mt, w_tab, w_onone, w_osome, w_sl, List.map_cons, List.map_nil, List.length_cons, List.length_nil, List.cons_append, List.nil_append, List.getElem?_cons_zero, List.getElem?_cons_succ, List.set_cons_zero, List.set_cons_succ, List.reduceReplicate, Nat.reduceAdd, Nat.reduceSub] at this
    exact this
  · rw [if_neg (by rw [decide_eq_false hk]; exact Bool.false_ne_true), w_mulI]
    refine ⟨mulOk_l (by decide) (by decide), ?_⟩
    rw [w_addI]
    have := core (47 * k + 23)
    simp only [s_nil, s_seq, s_drop, s_ret, s_set, s_if, s_par, s_put, s_for, w_var, w_c, w_bin, w_un, w_nil, w_cons, w_cb, w_tup, w_lst, w_val, w_tnot, w_tand, w_tor, w_and, w_or, w_not, w_if, w_chain, w_isi, w_mt, w_tab, w_onone, w_osome, w_sl, List.map_cons, List.map_nil, List.length_cons, List.length_nil, List.cons_append, List.nil_append, List.getElem?_cons_zero, List.getElem?_cons_succ, List.set_cons_zero, List.set_cons_succ, List.reduceReplicate, Nat.reduceAdd, Nat.reduceSub] at this
    exact this
end Mn

set_option Elab.async false
set_option linter.all false
set_option maxRecDepth 100000
set_option maxHeartbeats 4000000
/-! Mn: values as data: what stays, how great it is. No program here. -/
namespace Mn
open PySem PySem.Spec PyProof.Rows L2
mutual
/-- short ints, plain texts, no dict, tuples and lists of at most w -/
def okP (w : Nat) : PyData → Bool
  | .none => true
  | .bool _ => true
  | .int i => decide (i.natAbs < 10)
  | .str x => x.cps.toList.all fun c => decide (c < 128)
  | .list xs => decide (xs.length ≤ w) && okPs w xs
  | .tuple xs => decide (xs.length ≤ w) && okPs w xs
  | .dict _ => false
def okPs (w : Nat) : List PyData → Bool
  | [] => true
  | x :: xs => okP w x && okPs w xs
end
theorem okPs_iff {w : Nat} : ∀ {xs : List PyData}, okPs w xs = true ↔ ∀ x ∈ xs, okP w x = true
  | [] => ⟨fun _ x hx => (by cases hx), fun _ => rfl⟩
  | x :: xs => by
    show (okP w x && okPs w xs) = true ↔ _
    rw [Bool.and_eq_true, okPs_iff]
    constructor
    · rintro ⟨h1, h2⟩ y hy
      rcases List.mem_cons.mp hy with rfl | hy
      · exact h1
      · exact h2 y hy
    · intro h
      exact ⟨h x List.mem_cons_self, fun y hy => h y (List.mem_cons_of_mem _ hy)⟩
mutual
theorem okP_mono {w w' : Nat} (h : w ≤ w') : ∀ q : PyData, okP w q = true → okP w' q = true
  | .none, _ => rfl
  | .bool _, _ => rfl
  | .int _, q => q
  | .str _, q => q
  | .list xs, q => by
    have q : (decide (xs.length ≤ w) && okPs w xs) = true := q
    rw [Bool.and_eq_true] at q
    show (decide (xs.length ≤ w') && okPs w' xs) = true
    rw [decide_eq_true (Nat.le_trans (of_decide_eq_true q.1) h), okPs_mono h xs q.2]
    rfl
  | .tuple xs, q => by
    have q : (decide (xs.length ≤ w) && okPs w xs) = true := q
    rw [Bool.and_eq_true] at q
    show (decide (xs.length ≤ w') && okPs w' xs) = true
    rw [decide_eq_true (Nat.le_trans (of_decide_eq_true q.1) h), okPs_mono h xs q.2]
    rfl
  | .dict _, q => by cases q
theorem okPs_mono {w w' : Nat} (h : w ≤ w') : ∀ qs : List PyData, okPs w qs = true → okPs w' qs = true
  | [], _ => rfl
  | x :: xs, q => by
    have q : (okP w x && okPs w xs) = true := q
    rw [Bool.and_eq_true] at q
    show (okP w' x && okPs w' xs) = true
    rw [okP_mono h x q.1, okPs_mono h xs q.2]
    rfl
end
mutual
theorem ok_short {w : Nat} : ∀ q : PyData, okP w q = true → q.leavesShort 8 = true
  | .none, _ => rfl
  | .bool _, _ => rfl
  | .int i, h => by
    have h : i.natAbs < 10 := of_decide_eq_true h
    have all : ∀ i : Int, i.natAbs < 10 → (PyData.shown (.int i)).length ≤ 8 := by
      intro i hi
      have : i = -9 ∨ i = -8 ∨ i = -7 ∨ i = -6 ∨ i = -5 ∨ i = -4 ∨ i = -3 ∨ i = -2 ∨ i = -1 ∨ i = 0 ∨ i = 1 ∨ i = 2 ∨ i = 3 ∨ i = 4 ∨ i = 5 ∨ i = 6 ∨ i = 7 ∨ i = 8 ∨ i = 9 := by omega
      rcases this with rfl | rfl | rfl | rfl | rfl | rfl | rfl | rfl | rfl | rfl | rfl | rfl | rfl | rfl | rfl | rfl | rfl | rfl | rfl <;> decide +kernel
    simp only [PyData.leavesShort]
    exact decide_eq_true (all i h)
  | .str x, h => by
    have h : (x.cps.toList.all fun c => decide (c < 128)) = true := h
    simp only [PyData.leavesShort]
    rw [List.all_eq_true] at h ⊢
    intro c hc
    have := of_decide_eq_true (h c hc)
    exact decide_eq_true (by omega)
  | .list xs, h => by
    have q : (decide (xs.length ≤ w) && okPs w xs) = true := h
    rw [Bool.and_eq_true] at q
    simp only [PyData.leavesShort]
    exact oks_short xs q.2
  | .tuple xs, h => by
    have q : (decide (xs.length ≤ w) && okPs w xs) = true := h
    rw [Bool.and_eq_true] at q
    simp only [PyData.leavesShort]
    exact oks_short xs q.2
  | .dict _, h => by cases h
theorem oks_short {w : Nat} : ∀ qs : List PyData, okPs w qs = true → PyData.leavesShortAll 8 qs = true
  | [], _ => rfl
  | x :: xs, h => by
    have q : (okP w x && okPs w xs) = true := h
    rw [Bool.and_eq_true] at q
    simp only [PyData.leavesShortAll]
    rw [ok_short x q.1, oks_short xs q.2]
    rfl
end
mutual
theorem ok_showable {w : Nat} : ∀ q : PyData, okP w q = true → q.showable = true
  | .none, _ => rfl
  | .bool _, _ => rfl
  | .int i, h => by
    have h : i.natAbs < 10 := of_decide_eq_true h
    simp only [PyData.showable]
    refine decide_eq_true ?_
    have all : ∀ n : Nat, n < 10 → n.log2 < 1920 := by decide +kernel
    exact all _ h
  | .str x, h => rfl
  | .list xs, h => by
    have q : (decide (xs.length ≤ w) && okPs w xs) = true := h
    rw [Bool.and_eq_true] at q
    simp only [PyData.showable]
    exact oks_showable xs q.2
  | .tuple xs, h => by
    have q : (decide (xs.length ≤ w) && okPs w xs) = true := h
    rw [Bool.and_eq_true] at q
    simp only [PyData.showable]
    exact oks_showable xs q.2
  | .dict _, h => by cases h
theorem oks_showable {w : Nat} : ∀ qs : List PyData, okPs w qs = true → PyData.showableAll qs = true
  | [], _ => rfl
  | x :: xs, h => by
    have q : (okP w x && okPs w xs) = true := h
    rw [Bool.and_eq_true] at q
    simp only [PyData.showableAll]
    rw [ok_showable x q.1, oks_showable xs q.2]
    rfl
end
/-! ### data of a store, the pot left out -/
def pvF (p : Nat) : Nat → Sto → Nat → Option PyData
  | 0, _, _ => none
  | k + 1, S, n => if n = p then none else match S[n]? with
    | some (.lst ds) => (D.pysG (pvF p k S) ds).map .list
    | _ => none
abbrev pv (p r : Nat) (S : Sto) (d : D) : Option PyData := d.pyG (pvF p r S)
abbrev pvs (p r : Nat) (S : Sto) (ds : List D) : Option (List PyData) := D.pysG (pvF p r S) ds
mutual
theorem pyG_mono {f g : Nat → Option PyData} (h : ∀ n q, f n = some q → g n = some q) : ∀ {d : D} {q : PyData}, d.pyG f = some q → d.pyG g = some q
  | .non, _, e => e
  | .bl _, _, e => e
  | .int _, _, e => e
  | .str _, _, e => e
  | .tup ds, _, e => by
    obtain ⟨ps, hp, rfl⟩ := Option.map_eq_some_iff.mp (show (D.pysG f ds).map PyData.tuple = some _ from e)
    show (D.pysG g ds).map PyData.tuple = _
    rw [pysG_mono h hp]
    rfl
  | .fls ds, _, e => by
    obtain ⟨ps, hp, rfl⟩ := Option.map_eq_some_iff.mp (show (D.pysG f ds).map PyData.list = some _ from e)
    show (D.pysG g ds).map PyData.list = _
    rw [pysG_mono h hp]
    rfl
  | .ref n, _, e => h n _ e
theorem pysG_mono {f g : Nat → Option PyData} (h : ∀ n q, f n = some q → g n = some q) : ∀ {ds : List D} {qs : List PyData}, D.pysG f ds = some qs → D.pysG g ds = some qs
  | [], _, e => e
  | d :: ds, _, e => by
    unfold D.pysG at e
    split at e
    · rename_i p ps h1 h2
      injection e with e
      subst e
      unfold D.pysG
      rw [pyG_mono h h1, pysG_mono h h2]
    · cases e
end
theorem pvF_ext {p : Nat} {S S' : Sto} (x : Ext p S S') : ∀ (k n : Nat) (q : PyData), pvF p k S n = some q → pvF p k S' n = some q
  | 0, _, _, e => by cases e
  | k + 1, n, q, e => by
    unfold pvF at e ⊢
    split at e
    · cases e
    · rename_i np
      rw [if_neg np]
      split at e
      · rename_i ds hs
        rw [x.at_ hs np]
        obtain ⟨ps, hp, rfl⟩ := Option.map_eq_some_iff.mp e
        show (D.pysG (pvF p k S') ds).map PyData.list = _
        rw [pysG_mono (pvF_ext x k) hp]
        rfl
      · cases e
theorem pvF_succ {p : Nat} {S : Sto} : ∀ (k n : Nat) (q : PyData), pvF p k S n = some q → pvF p (k + 1) S n = some q
  | 0, _, _, e => by cases e
  | k + 1, n, q, e => by
    unfold pvF at e ⊢
    split at e
    · cases e
    · rename_i np
      rw [if_neg np]
      split at e
      · rename_i ds hs
        obtain ⟨ps, hp, rfl⟩ := Option.map_eq_some_iff.mp e
        show (D.pysG (pvF p (k + 1) S) ds).map PyData.list = _
        rw [pysG_mono (pvF_succ k) hp]
        rfl
      · cases e
theorem pvF_le {p : Nat} {S : Sto} {k k' : Nat} (h : k ≤ k') (n : Nat) (q : PyData) (e : pvF p k S n = some q) : pvF p k' S n = some q := by
  induction h with
  | refl => exact e
  | step _ ih => exact pvF_succ _ _ _ ih
theorem pvF_pyF {p : Nat} {S : Sto} : ∀ (k n : Nat) (q : PyData), pvF p k S n = some q → pyF k S n = some q
  | 0, _, _, e => by cases e
  | k + 1, n, q, e => by
    unfold pvF at e
    unfold pyF
    split at e
    · cases e
    · split at e
      · rename_i ds hs
        try rw [hs]
        obtain ⟨ps, hp, rfl⟩ := Option.map_eq_some_iff.mp e
        show (D.pysG (pyF k S) ds).map PyData.list = _
        rw [pysG_mono (pvF_pyF k) hp]
        rfl
      · cases e
theorem pyF_le {S : Sto} {k k' : Nat} (h : k ≤ k') : ∀ (n : Nat) (q : PyData), pyF k S n = some q → pyF k' S n = some q := by
  have one : ∀ (k n : Nat) (q : PyData), pyF k S n = some q → pyF (k + 1) S n = some q := by
    intro k
    induction k with
    | zero => intro n q e; cases e
    | succ k ih =>
      intro n q e
      unfold pyF at e ⊢
      split at e
      · rename_i ds hs
        obtain ⟨ps, hp, rfl⟩ := Option.map_eq_some_iff.mp e
        show (D.pysG (pyF (k + 1) S) ds).map PyData.list = _
        rw [pysG_mono ih hp]
        rfl
      · cases e
  induction h with
  | refl => exact fun _ _ e => e
  | step _ ih => exact fun n q e => one _ _ _ (ih n q e)
/-! ### values with their bounds -/
structure Gd (w W h : Nat) (q : PyData) : Prop where
  ok : okP w q = true
  wt : q.weight ≤ W
  dp : q.depth ≤ h
structure Gds (w W h : Nat) (qs : List PyData) : Prop where
  ok : okPs w qs = true
  wt : PyData.weightAll qs ≤ W
  dp : PyData.depthAll qs ≤ h
theorem Gd.le {w W h w' W' h' : Nat} {q : PyData} (g : Gd w W h q) (a : w ≤ w') (b : W ≤ W') (c : h ≤ h') : Gd w' W' h' q := ⟨okP_mono a _ g.ok, Nat.le_trans g.wt b, Nat.le_trans g.dp c⟩
/-- d is data behind S, so deep in lists, and so great -/
def Vl (p r w W h : Nat) (S : Sto) (d : D) : Prop := ∃ q, pv p r S d = some q ∧ Gd w W h q
def Vls (p r w W h : Nat) (S : Sto) (ds : List D) : Prop := ∃ qs, pvs p r S ds = some qs ∧ Gds w W h qs
section
variable {p r w W h r' w' W' h' : Nat} {S S' : Sto} {d e : D} {ds es : List D}
theorem Vl.ext (v : Vl p r w W h S d) (x : Ext p S S') : Vl p r w W h S' d := by
  obtain ⟨q, e, g⟩ := v
  exact ⟨q, pyG_mono (pvF_ext x r) e, g⟩
theorem Vls.ext (v : Vls p r w W h S ds) (x : Ext p S S') : Vls p r w W h S' ds := by
  obtain ⟨q, e, g⟩ := v
  exact ⟨q, pysG_mono (pvF_ext x r) e, g⟩
theorem Vl.le (v : Vl p r w W h S d) (hr : r ≤ r') (a : w ≤ w') (b : W ≤ W') (c : h ≤ h') : Vl p r' w' W' h' S d := by
  obtain ⟨q, e, g⟩ := v
  exact ⟨q, pyG_mono (pvF_le hr) e, g.le a b c⟩
theorem Vls.le (v : Vls p r w W h S ds) (hr : r ≤ r') (a : w ≤ w') (b : W ≤ W') (c : h ≤ h') : Vls p r' w' W' h' S ds := by
  obtain ⟨q, e, g⟩ := v
  exact ⟨q, pysG_mono (pvF_le hr) e, okPs_mono a _ g.ok, Nat.le_trans g.wt b, Nat.le_trans g.dp c⟩
theorem Vls.nil : Vls p r w 0 0 S [] := ⟨[], rfl, rfl, Nat.le_refl _, Nat.le_refl _⟩
theorem Vls.cons (v : Vl p r w W h S d) (vs : Vls p r w W' h' S ds) : Vls p r w (W + 1 + W') (max h h') S (d :: ds) := by
  obtain ⟨q, e, g⟩ := v
  obtain ⟨qs, es, gs⟩ := vs
  refine ⟨q :: qs, ?_, ?_, ?_, ?_⟩
  · show D.pysG _ (d :: ds) = _
    unfold D.pysG
    have e : D.pyG (pvF p r S) d = some q := e
    have es : D.pysG (pvF p r S) ds = some qs := es
    rw [e, es]
  · show (okP w q && okPs w qs) = true
    rw [g.ok, gs.ok]
    rfl
  · show q.weight + 1 + PyData.weightAll qs ≤ _
    have := g.wt
    have := gs.wt
    omega
  · show max q.depth (PyData.depthAll qs) ≤ _
    have := g.dp
    have := gs.dp
    omega
theorem pysG_len {f : Nat → Option PyData} : ∀ {ds : List D} {qs : List PyData}, D.pysG f ds = some qs → qs.length = ds.length
  | [], _, e => by
    have e : some [] = some _ := e
    injection e with e
    subst e
    rfl
  | d :: ds, _, e => by
    unfold D.pysG at e
    split at e
    · rename_i p ps h1 h2
      injection e with e
      subst e
      exact congrArg Nat.succ (pysG_len h2)
    · cases e
theorem Vls.tup (v : Vls p r w W h S ds) (hl : ds.length ≤ w) : Vl p r w W (h + 1) S (.tup ds) := by
  obtain ⟨qs, e, g⟩ := v
  refine ⟨.tuple qs, ?_, ?_, g.wt, Nat.succ_le_succ g.dp⟩
  · show (D.pysG _ ds).map PyData.tuple = _
    have e : D.pysG (pvF p r S) ds = some qs := e
    rw [e]
    rfl
  · show (decide (qs.length ≤ w) && okPs w qs) = true
    rw [decide_eq_true (by rw [pysG_len e]; exact hl), g.ok]
    rfl
theorem Vl.untup (v : Vl p r w W h S (.tup ds)) : ds.length ≤ w ∧ 1 ≤ h ∧ Vls p r w W (h - 1) S ds := by
  obtain ⟨q, e, g⟩ := v
  obtain ⟨qs, hp, rfl⟩ := Option.map_eq_some_iff.mp (show (D.pysG (pvF p r S) ds).map PyData.tuple = some q from e)
  have ok : (decide (qs.length ≤ w) && okPs w qs) = true := g.ok
  rw [Bool.and_eq_true] at ok
  have dp : PyData.depthAll qs + 1 ≤ h := g.dp
  refine ⟨by rw [← pysG_len hp]; exact of_decide_eq_true ok.1, by omega, qs, hp, ok.2, g.wt, by omega⟩
theorem Vls.uncons (v : Vls p r w W h S (d :: ds)) : ∃ W1 W2, W1 + 1 + W2 ≤ W ∧ Vl p r w W1 h S d ∧ Vls p r w W2 h S ds := by
  obtain ⟨qs, e, g⟩ := v
  have e : D.pysG (pvF p r S) (d :: ds) = some qs := e
  unfold D.pysG at e
  split at e
  · rename_i q qs' h1 h2
    injection e with e
    subst e
    have ok : (okP w q && okPs w qs') = true := g.ok
    rw [Bool.and_eq_true] at ok
    have wt : q.weight + 1 + PyData.weightAll qs' ≤ W := g.wt
    have dp : max q.depth (PyData.depthAll qs') ≤ h := g.dp
    exact ⟨_, _, wt, ⟨q, h1, ok.1, Nat.le_refl _, by omega⟩, ⟨qs', h2, ok.2, Nat.le_refl _, by omega⟩⟩
  · cases e
theorem Vls.append (v : Vls p r w W h S ds) (v' : Vls p r w W' h S es) : Vls p r w (W + W') h S (ds ++ es) := by
  induction ds generalizing W with
  | nil => exact v'.le (Nat.le_refl _) (Nat.le_refl _) (by omega) (Nat.le_refl _)
  | cons d ds ih =>
    obtain ⟨W1, W2, hW, v1, v2⟩ := v.uncons
    have := Vls.cons v1 (ih v2)
    exact this.le (Nat.le_refl _) (Nat.le_refl _) (by omega) (by omega)
/-- parted at a place -/
theorem Vls.split (v : Vls p r w W h S ds) (i : Nat) : ∃ W1 W2, W1 + W2 ≤ W ∧ Vls p r w W1 h S (ds.take i) ∧ Vls p r w W2 h S (ds.drop i) := by
  induction ds generalizing W i with
  | nil => exact ⟨0, 0, by omega, by rw [List.take_nil]; exact Vls.nil.le (Nat.le_refl _) (Nat.le_refl _) (Nat.le_refl _) (Nat.zero_le _), by rw [List.drop_nil]; exact Vls.nil.le (Nat.le_refl _) (Nat.le_refl _) (Nat.le_refl _) (Nat.zero_le _)⟩
  | cons d ds ih =>
    cases i with
    | zero => exact ⟨0, W, by omega, Vls.nil.le (Nat.le_refl _) (Nat.le_refl _) (Nat.le_refl _) (Nat.zero_le _), v⟩
    | succ i =>
      obtain ⟨W1, W2, hW, v1, v2⟩ := v.uncons
      obtain ⟨A, B, hAB, a, b⟩ := ih v2 i
      exact ⟨W1 + 1 + A, B, by omega, (Vls.cons v1 a).le (Nat.le_refl _) (Nat.le_refl _) (Nat.le_refl _) (by omega), b⟩
theorem Vls.take (v : Vls p r w W h S ds) (i : Nat) : Vls p r w W h S (ds.take i) := by
  obtain ⟨A, B, hAB, a, b⟩ := v.split i
  exact a.le (Nat.le_refl _) (Nat.le_refl _) (by omega) (Nat.le_refl _)
theorem Vls.drop (v : Vls p r w W h S ds) (i : Nat) : Vls p r w W h S (ds.drop i) := by
  obtain ⟨A, B, hAB, a, b⟩ := v.split i
  exact b.le (Nat.le_refl _) (Nat.le_refl _) (by omega) (Nat.le_refl _)
theorem Vls.rev (v : Vls p r w W h S ds) : Vls p r w W h S ds.reverse := by
  induction ds generalizing W with
  | nil => exact v
  | cons d ds ih =>
    obtain ⟨W1, W2, hW, v1, v2⟩ := v.uncons
    rw [List.reverse_cons]
    have one : Vls p r w (W1 + 1) h S [d] := (Vls.cons v1 Vls.nil).le (Nat.le_refl _) (Nat.le_refl _) (by omega) (by omega)
    exact ((ih v2).append one).le (Nat.le_refl _) (Nat.le_refl _) (by omega) (Nat.le_refl _)
/-- the item at a place, what stands ahead of it and behind -/
theorem Vls.at_ (v : Vls p r w W h S ds) {i : Nat} (hi : ds[i]? = some d) : ∃ A B C, A + B + 1 + C ≤ W ∧ Vls p r w A h S (ds.take i) ∧ Vl p r w B h S d ∧ Vls p r w C h S (ds.drop (i + 1)) := by
  obtain ⟨A, B, hAB, a, b⟩ := v.split i
  have hl := (List.getElem?_eq_some_iff.mp hi).1
  have e : ds.drop i = d :: ds.drop (i + 1) := by
    rw [List.drop_eq_getElem_cons hl]
    congr 1
    exact Option.some.inj ((List.getElem?_eq_getElem hl).symm.trans hi)
  rw [e] at b
  obtain ⟨B1, C, hBC, b1, c⟩ := b.uncons
  exact ⟨A, B1, C, by omega, a, b1, c⟩
theorem Vls.mem (v : Vls p r w W h S ds) (hd : d ∈ ds) : Vl p r w W h S d := by
  obtain ⟨i, hi⟩ := List.getElem?_of_mem hd
  obtain ⟨A, B, C, hW, a, b, c⟩ := v.at_ hi
  exact b.le (Nat.le_refl _) (Nat.le_refl _) (by omega) (Nat.le_refl _)
/-- a new list -/
theorem Vls.newL (v : Vls p r w W h S ds) (hl : ds.length ≤ w) {n : Nat} (hn : n ≠ p) (hs : S[n]? = some (.lst ds)) : Vl p (r + 1) w W (h + 1) S (.ref n) := by
  obtain ⟨qs, e, g⟩ := v
  refine ⟨.list qs, ?_, ?_, g.wt, Nat.succ_le_succ g.dp⟩
  · show pvF p (r + 1) S n = _
    unfold pvF
    rw [if_neg hn, hs]
    show (D.pysG (pvF p r S) ds).map PyData.list = _
    have e : D.pysG (pvF p r S) ds = some qs := e
    rw [e]
    rfl
  · show (decide (qs.length ≤ w) && okPs w qs) = true
    rw [decide_eq_true (by rw [pysG_len e]; exact hl), g.ok]
    rfl
/-- repr -/
theorem w_repr {Q : D → Sto → Prop} (v : Vl p r w W h S d) (hr : r ≤ 40) (hW : W ≤ 1600000) (hh : h ≤ 150) (q : ∀ x : PyData, pyD S d = some x → Q (.str x.shown) S) : (cRepr [d] S).wp Q := by
  obtain ⟨x, e, g⟩ := v
  have e2 : pyD S d = some x := pyG_mono (fun n y z => pyF_le hr n y (pvF_pyF r n y z)) e
  unfold cRepr
  show Res.wp (match pyD S d with | some p => if (p.showable && decide (p.shown.length ≤ sizeLine) && decide (p.depth ≤ 150)) = true then .ok (.str p.shown) S else .bad | none => .bad) Q
  rw [e2]
  show Res.wp (if (x.showable && decide (x.shown.length ≤ sizeLine) && decide (x.depth ≤ 150)) = true then .ok (.str x.shown) S else .bad) Q
  have sl := PyData.shown_le 8 (by decide) x (ok_short x g.ok)
  have hw := g.wt
  have hd := g.dp
  rw [ok_showable x g.ok, decide_eq_true (show x.shown.length ≤ sizeLine by rw [sizeLine_eq]; omega), decide_eq_true (show x.depth ≤ 150 by omega)]
  exact q x e2
theorem w_reprB {Q : D → Sto → Prop} {b : Bool} (q : Q (.str (PyData.shown (.bool b))) S) : (cRepr [.bl b] S).wp Q := by
  cases b <;> exact q
end
end Mn

set_option Elab.async false
set_option linter.all false
set_option maxRecDepth 100000
set_option maxHeartbeats 4000000
/-! Mn: what is a tree: the program's own look, in plain words. -/
namespace Mn
open PySem PySem.Spec PyProof.Rows L2
def t_LOTS : List (Str × D) := [("set", .tup [.str "one E"]), ("run", .tup [.str "E's"]), ("give", .tup [.str "one E"]), ("if", .tup [.str "one E", .str "a block", .str "perhaps an else"]), ("loop", .tup [.str "one E", .str "a block"]), ("else", .tup [.str "a block"]), ("note", .tup []), ("name", .tup []), ("number", .tup []), ("call", .tup [.str "E's"]), ("list", .tup [.str "E's"]), ("in", .tup [.str "one E"]), ("sum", .tup [.str "terms with signs"]), ("plus", .tup [.str "one term"]), ("minus", .tup [.str "one term"])]
def t_FORMS : List (Str × D) := [("one E", .tup [.tup [.str "name", .str "number", .str "call", .str "list", .str "in", .str "sum"], .int 1, .int 1]), ("E's", .tup [.tup [.str "name", .str "number", .str "call", .str "list", .str "in", .str "sum"], .int 0, .non]), ("a block", .tup [.tup [.str "set", .str "run", .str "give", .str "if", .str "loop", .str "note"], .int 0, .non]), ("perhaps an else", .tup [.tup [.str "else"], .int 0, .int 1]), ("terms with signs", .tup [.tup [.str "plus", .str "minus"], .int 2, .non]), ("one term", .tup [.tup [.str "name", .str "number", .str "call", .str "list", .str "in"], .int 1, .int 1])]
/-- are_all -/
def g_are_all  : F := mDef 2 3 (sRet (mCB cAll (aCons (mComp (iVal (mVar 0)) (.nm 2) tYesM (mBin fIn (mVar 2) (mVar 1)) [2]) aNil)))
/-- is_name -/
def g_is_name (c_are_all : F) : F := mDef 1 1 (sSeq (sIf (tOr (tNot (tVal (mIsi "str" (mVar 0)))) (tNot (tVal (mChain fLe fLe (mC (.int 1)) (mCB cLen (aCons (mVar 0) aNil)) (mC (.int 8)))))) (sRet (mC (.bl false))) sNil)
  (sRet (mAnd (mCB c_are_all (aCons (mVar 0) (aCons (mC (.str "abcdefghijklmnopqrstuvwxyz")) aNil))) (mBin fNotIn (mVar 0) (mC (.tup [.str "if", .str "else", .str "loop", .str "give"]))))))
/-- is_number -/
def g_is_number (c_are_all : F) : F := mDef 1 1 (sSeq (sIf (tOr (tNot (tVal (mIsi "str" (mVar 0)))) (tOr (tNot (tVal (mChain fLe fLe (mC (.int 1)) (mCB cLen (aCons (mVar 0) aNil)) (mC (.int 6))))) (tNot (tVal (mCB c_are_all (aCons (mVar 0) (aCons (mC (.str "0123456789")) aNil))))))) (sRet (mC (.bl false))) sNil)
  (sRet (mOr (mBin fEq (mVar 0) (mC (.str "0"))) (mBin fNe (mBin fIx (mVar 0) (mC (.int 0))) (mC (.str "0"))))))
/-- is_note -/
def g_is_note (c_are_all : F) : F := mDef 1 1 (sSeq (sIf (tOr (tNot (tVal (mIsi "str" (mVar 0)))) (tVal (mBin fGt (mCB cLen (aCons (mVar 0) aNil)) (mC (.int 40))))) (sRet (mC (.bl false))) sNil)
  (sRet (mAnd (mCB c_are_all (aCons (mVar 0) (aCons (mBin fAdd (mBin fAdd (mC (.str "abcdefghijklmnopqrstuvwxyz")) (mC (.str "0123456789"))) (mC (.str " "))) aNil))) (mBin fEq (mVar 0) (mMt "str" fStripC (mVar 0) (aCons (mC (.str " ")) aNil))))))
/-- is_label -/
def g_is_label (c_is_name : F) (c_is_number : F) (c_is_note : F) : F := mDef 1 1 (sSeq (sIf (tVal (mBin fIn (mBin fIx (mVar 0) (mC (.int 0))) (mC (.tup [.str "set", .str "run", .str "call", .str "name"])))) (sRet (mAnd (mBin fEq (mCB cLen (aCons (mVar 0) aNil)) (mC (.int 2))) (mCB c_is_name (aCons (mBin fIx (mVar 0) (mC (.int 1))) aNil)))) sNil)
  (sSeq (sIf (tVal (mBin fEq (mBin fIx (mVar 0) (mC (.int 0))) (mC (.str "number")))) (sRet (mAnd (mBin fEq (mCB cLen (aCons (mVar 0) aNil)) (mC (.int 2))) (mCB c_is_number (aCons (mBin fIx (mVar 0) (mC (.int 1))) aNil)))) sNil)
  (sSeq (sIf (tVal (mBin fEq (mBin fIx (mVar 0) (mC (.int 0))) (mC (.str "note")))) (sRet (mAnd (mBin fEq (mCB cLen (aCons (mVar 0) aNil)) (mC (.int 2))) (mCB c_is_note (aCons (mBin fIx (mVar 0) (mC (.int 1))) aNil)))) sNil)
  (sRet (mBin fEq (mCB cLen (aCons (mVar 0) aNil)) (mC (.int 1)))))))
/-- is_part -/
def g_is_part (c_is_label : F) (c_is_lot : F) : F := mDef 2 7 (sSeq (sIf (tOr (tNot (tVal (mIsi "tuple" (mVar 0)))) (tVal (mBin fNe (mCB cLen (aCons (mVar 0) aNil)) (mC (.int 2))))) (sRet (mC (.bl false))) sNil)
  (sSeq (sAsg (.tp [(.nm 3), (.nm 4)]) (mVar 0))
  (sSeq (sIf (tOr (tNot (tVal (mIsi "tuple" (mVar 3)))) (tOr (tVal (mBin fEq (mVar 3) (mTup aNil))) (tOr (tVal (mBin fNotIn (mBin fIx (mVar 3) (mC (.int 0))) (mVar 1))) (tNot (tVal (mCB c_is_label (aCons (mVar 3) aNil))))))) (sRet (mC (.bl false))) sNil)
  (sSeq (sSet 2 (mTab t_LOTS (mBin fIx (mVar 3) (mC (.int 0)))))
  (sSeq (sIf (tOr (tNot (tVal (mIsi "tuple" (mVar 4)))) (tVal (mBin fNe (mCB cLen (aCons (mVar 4) aNil)) (mCB cLen (aCons (mVar 2) aNil))))) (sRet (mC (.bl false))) sNil)
  (sRet (mCB cAll (aCons (mComp (iZip2 (aCons (mVar 4) (aCons (mVar 2) aNil))) (.tp [(.nm 5), (.nm 6)]) tYesM (mCB c_is_lot (aCons (mVar 5) (aCons (mVar 6) aNil))) [5, 6]) aNil))))))))
/-- is_lot -/
def g_is_lot (c_is_part : F) : F := mDef 2 6 (sSeq (sAsg (.tp [(.nm 2), (.nm 3), (.nm 4)]) (mTab t_FORMS (mVar 1)))
  (sSeq (sIf (tOr (tNot (tVal (mIsi "tuple" (mVar 0)))) (tOr (tVal (mBin fLt (mCB cLen (aCons (mVar 0) aNil)) (mVar 3))) (tAnd (tVal (mBin fNotN (mVar 4) (mC .non))) (tVal (mBin fGt (mCB cLen (aCons (mVar 0) aNil)) (mVar 4)))))) (sRet (mC (.bl false))) sNil)
  (sSeq (sIf (tNot (tVal (mCB cAll (aCons (mComp (iVal (mVar 0)) (.nm 5) tYesM (mCB c_is_part (aCons (mVar 5) (aCons (mVar 2) aNil))) [5]) aNil)))) (sRet (mC (.bl false))) sNil)
  (sRet (mOr (mBin fNe (mVar 1) (mC (.str "terms with signs"))) (mBin fEq (mBin fIx (mBin fIx (mVar 0) (mC (.int 0))) (mC (.int 0))) (mTup (aCons (mC (.str "plus")) aNil))))))))
/-- is_tree -/
def g_is_tree (c_is_lot : F) : F := mDef 1 1 (sRet (mCB c_is_lot (aCons (mVar 0) (aCons (mC (.str "a block")) aNil))))

/-! ### all([.. for ..]) where only new lists are made -/
theorem all_wp {it : MI} {p : Pt} {elt : M} {vs : List Nat} {ρ : En} {S : Sto} {Q : D → Sto → Prop} {ds : List D} {chk : Sto → Bool} (b : D → Bool) (hw : p.within vs = true) (hit : it ρ S = .ok (ds, chk) S) (hc : ∀ l, chk (S ++ l) = true) (hl : ds.length < sizeLine)
    (he : ∀ d, d ∈ ds → ∀ l (Q' : D → Sto → Prop), (∀ l', Q' (.bl (b d)) (S ++ (l ++ l'))) → ∃ ρ1, p.put (S ++ l) (wipeE ρ vs) d = some ρ1 ∧ (elt ρ1 (S ++ l)).wp Q')
    (q : ∀ l, Q (.bl (ds.all b)) (S ++ l)) : (mCB cAll (aCons (mComp it p tYesM elt vs) aNil) ρ S).wp Q := by
  rw [w_cb, w_cons]
  refine w_comp hw ?_
  rw [hit]
  show Res.wp (mCompL p tYesM elt chk S.length (wipeE ρ vs) ds (S ++ [.lst []])) _
  refine comp_wp (I := fun r acc S' => ∃ l done, S' = S ++ (Ob.lst acc :: l) ∧ acc = done.map (fun d => D.bl (b d)) ∧ done ++ r = ds) (fun r acc S' => ?_) (fun d r acc S' => ?_) (fun acc S' => ?_) ds [] _ ⟨[], [], rfl, rfl, rfl⟩ List.getElem?_concat_length
  · rintro ⟨l, done, rfl, _, _⟩
    exact hc _
  · rintro ⟨l, done, rfl, ha, hd⟩ hn
    have hm : d ∈ ds := by rw [← hd]; simp
    refine he d hm (Ob.lst acc :: l) _ fun l' => ?_
    have e : S ++ (Ob.lst acc :: l ++ l') = S ++ Ob.lst acc :: (l ++ l') := rfl
    rw [e]
    refine ⟨by simp, ?_, l ++ l', done ++ [d], ?_, ?_, ?_⟩
    · rw [ha, List.length_map]
      have := congrArg List.length hd
      rw [List.length_append, List.length_cons] at this
      omega
    · rw [List.set_append_right _ _ (Nat.le_refl _), Nat.sub_self]
      rfl
    · rw [ha, List.map_append]
      rfl
    · rw [List.append_assoc]
      exact hd
  · rintro ⟨l, done, rfl, ha, hd⟩ hn
    rw [List.append_nil] at hd
    subst hd
    have bl : ∀ ds : List D, blsOf (ds.map fun d => D.bl (b d)) = some (ds.map b) := by
      intro ds
      induction ds with
      | nil => rfl
      | cons d r ih =>
        show (blsOf (r.map fun d => D.bl (b d))).map (b d :: ·) = _
        rw [ih]
        rfl
    show Res.wp (cAll [.ref S.length] (S ++ Ob.lst acc :: l)) Q
    have e1 : (S ++ Ob.lst acc :: l)[S.length]? = some (.lst acc) := by simp
    have e : cAll [.ref S.length] (S ++ Ob.lst acc :: l) = .ok (.bl ((done.map b).all id)) (S ++ Ob.lst acc :: l) := by
      show (match (S ++ Ob.lst acc :: l)[S.length]? with | some (.lst xs) => (match blsOf xs with | some bs => Res.ok (D.bl (bs.all id)) _ | none => .bad) | _ => .bad) = _
      rw [e1]
      show (match blsOf acc with | some bs => Res.ok (D.bl (bs.all id)) _ | none => .bad) = _
      rw [ha, bl]
    rw [e]
    have e2 : (done.map b).all id = done.all b := by rw [List.all_map]; rfl
    rw [e2]
    exact q _
theorem all_wp2 {it : MI} {p : Pt} {elt : M} {vs : List Nat} {ρ : En} {S : Sto} {Q : D → Sto → Prop} {ds : List D} {chk : Sto → Bool} (b : D → Bool) (hw : p.within vs = true) (hit : it ρ S = .ok (ds, chk) S) (hc : ∀ l, chk (S ++ l) = true) (hl : ds.length < sizeLine)
    (he : ∀ d, d ∈ ds → ∀ l (Q' : D → Sto → Prop), (∀ l', Q' (.bl (b d)) (S ++ (l ++ l'))) → ∃ ρ1, p.put (S ++ l) (wipeE ρ vs) d = some ρ1 ∧ (elt ρ1 (S ++ l)).wp Q')
    (q : ∀ l, Q (.bl (ds.all b)) (S ++ l)) : (mComp it p tYesM elt vs ρ S).wp fun x S => (cAll [x] S).wp Q := by
  have h := all_wp (Q := Q) b hw hit hc hl he q
  rw [w_cb, w_cons] at h
  exact h
/-! ### values that can be looked at -/
/-- a list's place, or no place at all -/
def Sv (S : Sto) (d : D) : Prop := match d with
  | .ref n => ∃ ds, S[n]? = some (.lst ds)
  | _ => True
theorem Sv.app {S : Sto} {d : D} (h : Sv S d) (l : List Ob) : Sv (S ++ l) d := by
  cases d with
  | ref n =>
    obtain ⟨ds, e⟩ := h
    exact ⟨ds, by rw [List.getElem?_append_left (List.getElem?_eq_some_iff.mp e).1]; exact e⟩
  | _ => trivial
theorem Vl.sv {p r w W h : Nat} {S : Sto} {d : D} (v : Vl p r w W h S d) : Sv S d := by
  cases d with
  | ref n =>
    obtain ⟨q, e, _⟩ := v
    have e : pvF p r S n = some q := e
    cases r with
    | zero => cases e
    | succ r =>
      unfold pvF at e
      split at e
      · cases e
      · split at e
        · rename_i ds hs; exact ⟨ds, hs⟩
        · cases e
  | _ => trivial
theorem Sv.k {S : Sto} {d : D} (h : Sv S d) : kOf S d ≠ "?" := by
  cases d with
  | ref n =>
    obtain ⟨ds, e⟩ := h
    show kOb S[n]? ≠ "?"
    rw [e]
    show "list" ≠ "?"
    decide
  | _ => simp [kOf]
theorem Sv.isT {S : Sto} {d : D} (h : Sv S d) : isB (kOf S d) "tuple" = (match d with | .tup _ => true | _ => false) := by
  cases d with
  | ref n =>
    obtain ⟨ds, e⟩ := h
    show isB (kOb S[n]?) "tuple" = false
    rw [e]
    rfl
  | _ => rfl
theorem Sv.isS {S : Sto} {d : D} (h : Sv S d) : isB (kOf S d) "str" = (match d with | .str _ => true | _ => false) := by
  cases d with
  | ref n =>
    obtain ⟨ds, e⟩ := h
    show isB (kOb S[n]?) "str" = false
    rw [e]
    rfl
  | _ => rfl
theorem Sv.sh {S : Sto} {d : D} (h : Sv S d) : ∃ s, shD S d = some s ∧ (∀ x, s = .sc (.str x) → d = .str x) ∧ (∀ x, d = .str x → s = .sc (.str x)) ∧ (∀ xs, s = .tp xs → d = .tup xs) := by
  cases d with
  | ref n =>
    obtain ⟨ds, e⟩ := h
    refine ⟨.ls ds, ?_, (fun x z => by cases z), (fun x z => by cases z), (fun xs z => by cases z)⟩
    show (match S[n]? with | some (.lst ds) => some (Sh.ls ds) | _ => none) = _
    rw [e]
  | non => exact ⟨_, rfl, (fun x z => by cases z), (fun x z => by cases z), (fun xs z => by cases z)⟩
  | bl _ => exact ⟨_, rfl, (fun x z => by cases z), (fun x z => by cases z), (fun xs z => by cases z)⟩
  | int _ => exact ⟨_, rfl, (fun x z => by cases z), (fun x z => by cases z), (fun xs z => by cases z)⟩
  | str _ => exact ⟨_, rfl, (fun x z => by cases z; rfl), (fun x z => by cases z; rfl), (fun xs z => by cases z)⟩
  | tup _ => exact ⟨_, rfl, (fun x z => by cases z), (fun x z => by cases z), (fun xs z => by cases z; rfl)⟩
  | fls _ => exact ⟨_, rfl, (fun x z => by cases z), (fun x z => by cases z), (fun xs z => by cases z)⟩
/-- a value is that text -/
def isX (d : D) (y : Str) : Bool := decide (d = .str y)
theorem eq_str {S : Sto} {d : D} (h : Sv S d) (y : Str) : eqN eqK S d (.str y) = some (isX d y) ∧ eqN eqK S (.str y) d = some (isX d y) := by
  obtain ⟨s, hs, h1, h2, _⟩ := h.sh
  have e1 : eqN eqK S d (.str y) = (match shD S d with | some a => a.eqW (eqN 149 S) (.sc (.str y)) | _ => none) := by
    show (match shD S d, shD S (.str y) with | some a, some b => a.eqW (eqN 149 S) b | _, _ => none) = _
    rw [hs]
    rfl
  have e2 : eqN eqK S (.str y) d = (match shD S d with | some a => (Sh.sc (.str y)).eqW (eqN 149 S) a | _ => none) := by
    show (match shD S (.str y), shD S d with | some a, some b => a.eqW (eqN 149 S) b | _, _ => none) = _
    rw [hs]
    rfl
  rw [e1, e2, hs]
  cases s with
  | sc c =>
    cases c with
    | str x =>
      have e := h1 x rfl
      subst e
      have z : isX (.str x) y = (x == y) := by
        unfold isX
        rw [Bool.eq_iff_iff]
        simp
      have z2 : (y == x) = (x == y) := by
        rw [Bool.eq_iff_iff, beq_iff_eq, beq_iff_eq]
        exact eq_comm
      exact ⟨by rw [z]; rfl, by rw [z, ← z2]; rfl⟩
    | _ =>
      have z : isX d y = false := decide_eq_false fun e => by have := h2 y e; cases this
      exact ⟨by rw [z]; rfl, by rw [z]; rfl⟩
  | tp xs =>
    have z : isX d y = false := decide_eq_false fun e => by have := h2 y e; cases this
    exact ⟨by rw [z]; rfl, by rw [z]; rfl⟩
  | ls xs =>
    have z : isX d y = false := decide_eq_false fun e => by have := h2 y e; cases this
    exact ⟨by rw [z]; rfl, by rw [z]; rfl⟩
/-- a value is one of those texts -/
def isIn (d : D) (ys : List Str) : Bool := ys.any fun y => isX d y
theorem inN_strs {S : Sto} {d : D} (h : Sv S d) : ∀ ys : List Str, inN S d (ys.map D.str) = some (isIn d ys) := by
  have key : ∀ ys : List Str, andO ((ys.map D.str).map fun y => (eqN eqK S y d).map (!·)) = some (!(isIn d ys)) := by
    intro ys
    induction ys with
    | nil => rfl
    | cons y r ih =>
      rw [List.map_cons, List.map_cons, (eq_str h y).2]
      show (andO ((r.map D.str).map fun y => (eqN eqK S y d).map (!·))).map ((!(isX d y)) && ·) = _
      rw [ih]
      show some (!(isX d y) && !(isIn d r)) = some (!(isX d y || isIn d r))
      rw [Bool.not_or]
  intro ys
  unfold inN
  rw [key]
  show some (!!(isIn d ys)) = _
  rw [Bool.not_not]
theorem inW_tup {S : Sto} {d : D} (h : Sv S d) (ys : List Str) : inW S d (.tup (ys.map D.str)) = some (isIn d ys) := inN_strs h ys
theorem inW_ref {S : Sto} {d : D} (h : Sv S d) {n : Nat} {ys : List Str} (e : S[n]? = some (.lst (ys.map D.str))) : inW S d (.ref n) = some (isIn d ys) := by
  show (match shD S (.ref n) with | some (.tp ys) => inN S d ys | some (.ls ys) => inN S d ys | _ => none) = _
  have : shD S (.ref n) = some (.ls (ys.map D.str)) := by
    show (match S[n]? with | some (.lst ds) => some (Sh.ls ds) | _ => none) = _
    rw [e]
  rw [this]
  exact inN_strs h ys
theorem eq_unit {S : Sto} (xs : List D) : eqN eqK S (.tup xs) (.tup []) = some xs.isEmpty := by
  show (andO (List.zipWith (eqN 149 S) xs [])).map (· && (xs.length == ([] : List D).length)) = _
  rw [List.zipWith_nil_right]
  cases xs <;> rfl
theorem eq_one {S : Sto} (xs : List D) (y : Str) (h : ∀ d ∈ xs, Sv S d) : eqN eqK S (.tup xs) (.tup [.str y]) = some (decide (xs = [.str y])) := by
  have e149 : ∀ d, Sv S d → eqN 149 S d (.str y) = some (isX d y) := fun d hd => by
    obtain ⟨s, hs, h1, h2, _⟩ := hd.sh
    show (match shD S d, shD S (.str y) with | some a, some b => a.eqW (eqN 148 S) b | _, _ => none) = _
    rw [hs]
    cases s with
    | sc c =>
      cases c with
      | str x =>
        have e := h1 x rfl
        subst e
        have z : isX (.str x) y = (x == y) := by
          unfold isX
          rw [Bool.eq_iff_iff]
          simp
        rw [z]
        rfl
      | _ =>
        have z : isX d y = false := decide_eq_false fun e => by have := h2 y e; cases this
        rw [z]
        rfl
    | tp xs =>
      have z : isX d y = false := decide_eq_false fun e => by have := h2 y e; cases this
      rw [z]
      rfl
    | ls xs =>
      have z : isX d y = false := decide_eq_false fun e => by have := h2 y e; cases this
      rw [z]
      rfl
  show (andO (List.zipWith (eqN 149 S) xs [.str y])).map (· && (xs.length == 1)) = _
  cases xs with
  | nil => rfl
  | cons d r =>
    have hd := h d List.mem_cons_self
    rw [List.zipWith_cons_cons, List.zipWith_nil_right, e149 d hd]
    show some (isX d y && true && ((d :: r).length == 1)) = _
    congr 1
    rw [Bool.and_true, Bool.eq_iff_iff, Bool.and_eq_true]
    unfold isX
    simp
/-! ### the words -/
def sgn (x z : Str) : Bool := x.cps.toList.all fun c => decide (c ∈ z.cps.toList)
def nameB (x : Str) : Bool := decide (1 ≤ x.length) && (decide (x.length ≤ 8) && (sgn x "abcdefghijklmnopqrstuvwxyz" && !(isIn (.str x) ["if", "else", "loop", "give"])))
def numB (x : Str) : Bool := decide (1 ≤ x.length) && (decide (x.length ≤ 6) && (sgn x "0123456789" && (decide (x = "0") || !(decide (x.cps.toList.head? = some 48)))))
def noteB (x : Str) : Bool := decide (x.length ≤ 40) && (sgn x "abcdefghijklmnopqrstuvwxyz0123456789 " && decide (x = Txt.stripChars x " "))
def onS (f : Str → Bool) : D → Bool
  | .str x => f x
  | _ => false
theorem are_all_wp {S : Sto} {x z : Str} {Q : D → Sto → Prop} (hx : x.length < sizeLine) (q : ∀ l, Q (.bl (sgn x z)) (S ++ l)) : (g_are_all [.str x, .str z] S).wp Q := by
  unfold g_are_all
  refine w_def rfl ?_
  rw [s_ret]
  refine all_wp (ds := x.cps.toList.map fun c => .str ⟨#[c]⟩) (chk := always) (b := fun d => match d with | .str y => inS y z | _ => false) rfl rfl (fun _ => rfl) (by rw [List.length_map, Array.length_toList]; exact hx) (fun d hd l Q' q' => ?_) (fun l => ?_)
  · obtain ⟨c, hc, rfl⟩ := List.mem_map.mp hd
    refine ⟨_, rfl, ?_⟩
    simp only [s_nil, s_seq, s_drop, s_ret, s_set, s_if, s_par, s_put, s_for, w_var, w_c, w_bin, w_un, w_nil, w_cons, w_cb, w_tup, w_lst, w_val, w_tnot, w_tand, w_tor, w_and, w_or, w_not, w_if, w_chain, w_isi, w_mt, w_tab, w_onone, w_osome, w_sl, List.map_cons, List.map_nil, List.length_cons, List.length_nil, List.cons_append, List.nil_append, List.getElem?_cons_zero, List.getElem?_cons_succ, List.set_cons_zero, List.set_cons_succ, List.reduceReplicate, Nat.reduceAdd, Nat.reduceSub]
    exact (w_in (b := inS ⟨#[c]⟩ z) rfl).mpr (by have := q' []; rw [List.append_nil] at this; exact this)
  · have e : (x.cps.toList.map fun c => D.str ⟨#[c]⟩).all (fun d => match d with | .str y => inS y z | _ => false) = sgn x z := by
      rw [List.all_map]
      rfl
    rw [e]
    exact q l
theorem name_wp {S : Sto} {d : D} {Q : D → Sto → Prop} (sv : Sv S d) (hx : ∀ x, d = .str x → x.length < sizeLine) (q : ∀ l, Q (.bl (onS nameB d)) (S ++ l)) : (g_is_name g_are_all [d] S).wp Q := by
  have q0 := q []
  rw [List.append_nil] at q0
  unfold g_is_name
  refine w_def rfl ?_
  simp only [s_nil, s_seq, s_drop, s_ret, s_set, s_if, s_par, s_put, s_for, w_var, w_c, w_bin, w_un, w_nil, w_cons, w_cb, w_tup, w_lst, w_val, w_tnot, w_tand, w_tor, w_and, w_or, w_not, w_if, w_chain, w_isi, w_mt, w_tab, w_onone, w_osome, w_sl, List.map_cons, List.map_nil, List.length_cons, List.length_nil, List.cons_append, List.nil_append, List.getElem?_cons_zero, List.getElem?_cons_succ, List.set_cons_zero, List.set_cons_succ, List.reduceReplicate, Nat.reduceAdd, Nat.reduceSub]
  refine ⟨sv.k, _, rfl, ?_⟩
  rw [sv.isS]
  cases d with
  | str x =>
    have hx := hx x rfl
    show if (!true) = true then _ else _
    rw [if_neg (by decide), w_lenS]
    refine ⟨Nat.le_of_lt hx, ?_⟩
    rw [w_fI]
    refine ⟨rfl, _, rfl, ?_⟩
    have tail : ∀ b : Bool, nameB x = (b && (sgn x "abcdefghijklmnopqrstuvwxyz" && !(isIn (.str x) ["if", "else", "loop", "give"]))) → if (!b) = true then Q (.bl false) S else (g_are_all [.str x, .str "abcdefghijklmnopqrstuvwxyz"] S).wp fun d S => ∃ x_1, d = .bl x_1 ∧ if x_1 = true then (fNotIn (.str x) (.tup [.str "if", .str "else", .str "loop", .str "give"]) S).wp Q else Q (.bl false) S := by
      intro b hb
      have q : ∀ l, Q (.bl (nameB x)) (S ++ l) := q
      rw [hb] at q
      cases b with
      | false =>
        have := q []
        rw [List.append_nil] at this
        simp only [Bool.not_false, Bool.not_true, Bool.false_eq_true, if_true, if_false, Bool.and_true, Bool.true_and, Bool.false_and, Bool.and_false, Bool.or_true, Bool.true_or, Bool.or_false, Bool.false_or] at this ⊢
        exact this
      | true =>
        simp only [Bool.not_false, Bool.not_true, Bool.false_eq_true, if_true, if_false, Bool.and_true, Bool.true_and, Bool.false_and, Bool.and_false, Bool.or_true, Bool.true_or, Bool.or_false, Bool.false_or] at q ⊢
        refine are_all_wp hx fun l => ⟨_, rfl, ?_⟩
        split
        · rename_i hs
          have := q l
          rw [hs] at this
          exact (w_notIn (inW_tup (d := .str x) trivial ["if", "else", "loop", "give"])).mpr this
        · rename_i hs
          have := q l
          rw [eq_false_of_ne_true hs] at this
          exact this
    by_cases h1 : (1 : Int) ≤ (x.length : Nat)
    · rw [if_pos (decide_eq_true h1), w_fI]
      refine ⟨rfl, _, rfl, ?_⟩
      refine tail _ ?_
      unfold nameB
      rw [decide_eq_true (show 1 ≤ x.length by omega), Bool.true_and]
      congr 1
      rw [Bool.eq_iff_iff, decide_eq_true_iff, decide_eq_true_iff]
      omega
    · rw [if_neg (by rw [decide_eq_false h1]; exact Bool.false_ne_true)]
      refine ⟨_, rfl, ?_⟩
      refine tail _ ?_
      unfold nameB
      rw [decide_eq_false (show ¬ 1 ≤ x.length by omega)]
      rfl
  | _ =>
    simp only [Bool.not_false, Bool.not_true, Bool.false_eq_true, if_true, if_false, Bool.and_true, Bool.true_and, Bool.false_and, Bool.and_false, Bool.or_true, Bool.true_or, Bool.or_false, Bool.false_or]
    exact q0
theorem w_ixS {S : Sto} {x : Str} {i : Int} {Q : D → Sto → Prop} : (fIx (.str x) (.int i) S).wp Q ↔ x.length ≤ sizeLine ∧ ∃ c, atI x.cps.toList i = some c ∧ Q (.str ⟨#[c]⟩) S := by
  show Res.wp (if x.length ≤ sizeLine then (match atI x.cps.toList i with | some c => .ok (.str ⟨#[c]⟩) S | none => .bad) else .bad) Q ↔ _
  constructor <;> intro h
  · split at h
    · rename_i hz
      split at h
      · rename_i c hc; exact ⟨hz, c, hc, h⟩
      · exact h.elim
    · exact h.elim
  · rw [if_pos h.1]
    obtain ⟨_, c, hc, h⟩ := h
    rw [hc]
    exact h
theorem w_stripC {S : Sto} {x y : Str} {Q : D → Sto → Prop} : (fStripC (.str x) [.str y] S).wp Q ↔ x.length ≤ sizeLine ∧ Q (.str (Txt.stripChars x y)) S := by
  show Res.wp (if x.length ≤ sizeLine then .ok (.str (Txt.stripChars x y)) S else .bad) Q ↔ _
  constructor <;> intro h
  · split at h
    · rename_i hz; exact ⟨hz, h⟩
    · exact h.elim
  · rw [if_pos h.1]; exact h.2
theorem beq_dec (x y : Str) : (x == y) = decide (x = y) := by
  rw [Bool.eq_iff_iff, beq_iff_eq, decide_eq_true_iff]
theorem atI_zero {α : Type} (c : α) (r : List α) : atI (c :: r) 0 = some c := by
  unfold atI
  rw [show ixN (c :: r).length 0 = some 0 by
    unfold ixN
    rw [if_pos (by decide), if_pos (by rw [List.length_cons]; omega)]
    rfl]
  rfl
theorem atI_one {α : Type} (c d : α) (r : List α) : atI (c :: d :: r) 1 = some d := by
  unfold atI
  rw [show ixN (c :: d :: r).length 1 = some 1 by
    unfold ixN
    rw [if_pos (by decide), if_pos (by rw [List.length_cons, List.length_cons]; omega)]
    rfl]
  rfl
theorem head_at {x : Str} (h : 1 ≤ x.length) : ∃ c, atI x.cps.toList 0 = some c ∧ x.cps.toList.head? = some c := by
  have hl : 0 < x.cps.toList.length := by rw [Array.length_toList]; exact h
  obtain ⟨c, r, e⟩ := List.exists_cons_of_length_pos hl
  rw [e]
  exact ⟨c, atI_zero _ _, rfl⟩
theorem one_ne (c : Nat) : (!((⟨#[c]⟩ : Str) == "0")) = !(decide (c = 48)) := by
  congr 1
  rw [beq_dec, Bool.eq_iff_iff, decide_eq_true_iff, decide_eq_true_iff]
  constructor
  · intro h
    have h : (⟨#[c]⟩ : Str).cps.toList = ("0" : Str).cps.toList := by rw [h]
    have h2 : [c] = [48] := h
    injection h2
  · intro h
    rw [h]
    rfl
theorem number_wp {S : Sto} {d : D} {Q : D → Sto → Prop} (sv : Sv S d) (hx : ∀ x, d = .str x → x.length < sizeLine) (q : ∀ l, Q (.bl (onS numB d)) (S ++ l)) : (g_is_number g_are_all [d] S).wp Q := by
  have q0 := q []
  rw [List.append_nil] at q0
  unfold g_is_number
  refine w_def rfl ?_
  simp only [s_nil, s_seq, s_drop, s_ret, s_set, s_if, s_par, s_put, s_for, w_var, w_c, w_bin, w_un, w_nil, w_cons, w_cb, w_tup, w_lst, w_val, w_tnot, w_tand, w_tor, w_and, w_or, w_not, w_if, w_chain, w_isi, w_mt, w_tab, w_onone, w_osome, w_sl, List.map_cons, List.map_nil, List.length_cons, List.length_nil, List.cons_append, List.nil_append, List.getElem?_cons_zero, List.getElem?_cons_succ, List.set_cons_zero, List.set_cons_succ, List.reduceReplicate, Nat.reduceAdd, Nat.reduceSub]
  refine ⟨sv.k, _, rfl, ?_⟩
  rw [sv.isS]
  cases d with
  | str x =>
    have hx := hx x rfl
    have q0 : Q (.bl (numB x)) S := q0
    have q : ∀ l, Q (.bl (numB x)) (S ++ l) := q
    simp only [Bool.not_false, Bool.not_true, Bool.false_eq_true, if_true, if_false, Bool.and_true, Bool.true_and, Bool.false_and, Bool.and_false, Bool.or_true, Bool.true_or, Bool.or_false, Bool.false_or]
    rw [w_lenS]
    refine ⟨Nat.le_of_lt hx, ?_⟩
    rw [w_fI]
    refine ⟨rfl, _, rfl, ?_⟩
    by_cases h1 : 1 ≤ x.length
    · rw [if_pos (decide_eq_true (by omega : (1 : Int) ≤ (x.length : Nat))), w_fI]
      refine ⟨rfl, _, rfl, ?_⟩
      by_cases h2 : x.length ≤ 6
      · rw [show decide (((x.length : Nat) : Int) ≤ 6) = true from decide_eq_true (by omega)]
        simp only [Bool.not_false, Bool.not_true, Bool.false_eq_true, if_true, if_false, Bool.and_true, Bool.true_and, Bool.false_and, Bool.and_false, Bool.or_true, Bool.true_or, Bool.or_false, Bool.false_or]
        refine are_all_wp hx fun l => ⟨_, rfl, ?_⟩
        have ql := q l
        unfold numB at ql
        rw [decide_eq_true h1, decide_eq_true h2] at ql
        cases hs : sgn x "0123456789" with
        | false =>
          rw [hs] at ql
          simp only [Bool.not_false, Bool.not_true, Bool.false_eq_true, if_true, if_false, Bool.and_true, Bool.true_and, Bool.false_and, Bool.and_false, Bool.or_true, Bool.true_or, Bool.or_false, Bool.false_or] at ql ⊢
          exact ql
        | true =>
          rw [hs] at ql
          simp only [Bool.not_false, Bool.not_true, Bool.false_eq_true, if_true, if_false, Bool.and_true, Bool.true_and, Bool.false_and, Bool.and_false, Bool.or_true, Bool.true_or, Bool.or_false, Bool.false_or] at ql ⊢
          rw [w_eq eqN_str]
          refine ⟨_, rfl, ?_⟩
          rw [beq_dec]
          by_cases h0 : x = "0"
          · rw [decide_eq_true h0] at ql ⊢
            simp only [Bool.not_false, Bool.not_true, Bool.false_eq_true, if_true, if_false, Bool.and_true, Bool.true_and, Bool.false_and, Bool.and_false, Bool.or_true, Bool.true_or, Bool.or_false, Bool.false_or] at ql ⊢
            exact ql
          · rw [decide_eq_false h0] at ql ⊢
            simp only [Bool.not_false, Bool.not_true, Bool.false_eq_true, if_true, if_false, Bool.and_true, Bool.true_and, Bool.false_and, Bool.and_false, Bool.or_true, Bool.true_or, Bool.or_false, Bool.false_or] at ql ⊢
            rw [w_ixS]
            obtain ⟨c, e1, e2⟩ := head_at h1
            refine ⟨Nat.le_of_lt hx, c, e1, ?_⟩
            rw [w_ne eqN_str, one_ne]
            rw [e2] at ql
            have e3 : decide (some c = some 48) = decide (c = 48) := by rw [Bool.eq_iff_iff, decide_eq_true_iff, decide_eq_true_iff]; simp
            rw [e3] at ql
            exact ql
      · rw [show decide (((x.length : Nat) : Int) ≤ 6) = false from decide_eq_false (by omega)]
        simp only [Bool.not_false, Bool.not_true, Bool.false_eq_true, if_true, if_false, Bool.and_true, Bool.true_and, Bool.false_and, Bool.and_false, Bool.or_true, Bool.true_or, Bool.or_false, Bool.false_or]
        unfold numB at q0
        rw [decide_eq_false h2] at q0
        simp only [Bool.not_false, Bool.not_true, Bool.false_eq_true, if_true, if_false, Bool.and_true, Bool.true_and, Bool.false_and, Bool.and_false, Bool.or_true, Bool.true_or, Bool.or_false, Bool.false_or] at q0
        exact q0
    · rw [if_neg (by rw [decide_eq_false (by omega : ¬ (1 : Int) ≤ (x.length : Nat))]; exact Bool.false_ne_true)]
      refine ⟨_, rfl, ?_⟩
      unfold numB at q0
      rw [decide_eq_false h1] at q0
      simp only [Bool.not_false, Bool.not_true, Bool.false_eq_true, if_true, if_false, Bool.and_true, Bool.true_and, Bool.false_and, Bool.and_false, Bool.or_true, Bool.true_or, Bool.or_false, Bool.false_or] at q0 ⊢
      exact q0
  | _ =>
    simp only [Bool.not_false, Bool.not_true, Bool.false_eq_true, if_true, if_false, Bool.and_true, Bool.true_and, Bool.false_and, Bool.and_false, Bool.or_true, Bool.true_or, Bool.or_false, Bool.false_or]
    exact q0
theorem note_wp {S : Sto} {d : D} {Q : D → Sto → Prop} (sv : Sv S d) (hx : ∀ x, d = .str x → x.length < sizeLine) (q : ∀ l, Q (.bl (onS noteB d)) (S ++ l)) : (g_is_note g_are_all [d] S).wp Q := by
  have q0 := q []
  rw [List.append_nil] at q0
  unfold g_is_note
  refine w_def rfl ?_
  simp only [s_nil, s_seq, s_drop, s_ret, s_set, s_if, s_par, s_put, s_for, w_var, w_c, w_bin, w_un, w_nil, w_cons, w_cb, w_tup, w_lst, w_val, w_tnot, w_tand, w_tor, w_and, w_or, w_not, w_if, w_chain, w_isi, w_mt, w_tab, w_onone, w_osome, w_sl, List.map_cons, List.map_nil, List.length_cons, List.length_nil, List.cons_append, List.nil_append, List.getElem?_cons_zero, List.getElem?_cons_succ, List.set_cons_zero, List.set_cons_succ, List.reduceReplicate, Nat.reduceAdd, Nat.reduceSub]
  refine ⟨sv.k, _, rfl, ?_⟩
  rw [sv.isS]
  cases d with
  | str x =>
    have hx := hx x rfl
    have q0 : Q (.bl (noteB x)) S := q0
    have q : ∀ l, Q (.bl (noteB x)) (S ++ l) := q
    simp only [Bool.not_false, Bool.not_true, Bool.false_eq_true, if_true, if_false, Bool.and_true, Bool.true_and, Bool.false_and, Bool.and_false, Bool.or_true, Bool.true_or, Bool.or_false, Bool.false_or]
    rw [w_lenS]
    refine ⟨Nat.le_of_lt hx, ?_⟩
    rw [w_fI]
    refine ⟨rfl, _, rfl, ?_⟩
    by_cases h1 : x.length ≤ 40
    · rw [show decide ((40 : Int) < ((x.length : Nat) : Int)) = false from decide_eq_false (by omega)]
      simp only [Bool.not_false, Bool.not_true, Bool.false_eq_true, if_true, if_false, Bool.and_true, Bool.true_and, Bool.false_and, Bool.and_false, Bool.or_true, Bool.true_or, Bool.or_false, Bool.false_or]
      rw [w_addS]
      refine ⟨by decide +kernel, ?_⟩
      rw [w_addS]
      refine ⟨by decide +kernel, ?_⟩
      rw [show ("abcdefghijklmnopqrstuvwxyz" : Str) ++ "0123456789" ++ " " = "abcdefghijklmnopqrstuvwxyz0123456789 " by decide +kernel]
      refine are_all_wp hx fun l => ⟨_, rfl, ?_⟩
      have ql := q l
      unfold noteB at ql
      rw [decide_eq_true h1] at ql
      cases hs : sgn x "abcdefghijklmnopqrstuvwxyz0123456789 " with
      | false =>
        rw [hs] at ql
        simp only [Bool.not_false, Bool.not_true, Bool.false_eq_true, if_true, if_false, Bool.and_true, Bool.true_and, Bool.false_and, Bool.and_false, Bool.or_true, Bool.true_or, Bool.or_false, Bool.false_or] at ql ⊢
        exact ql
      | true =>
        rw [hs] at ql
        simp only [Bool.not_false, Bool.not_true, Bool.false_eq_true, if_true, if_false, Bool.and_true, Bool.true_and, Bool.false_and, Bool.and_false, Bool.or_true, Bool.true_or, Bool.or_false, Bool.false_or] at ql ⊢
        refine ⟨rfl, ?_⟩
        rw [w_stripC]
        refine ⟨Nat.le_of_lt hx, ?_⟩
        rw [w_eq eqN_str, beq_dec]
        exact ql
    · rw [show decide ((40 : Int) < ((x.length : Nat) : Int)) = true from decide_eq_true (by omega)]
      simp only [Bool.not_false, Bool.not_true, Bool.false_eq_true, if_true, if_false, Bool.and_true, Bool.true_and, Bool.false_and, Bool.and_false, Bool.or_true, Bool.true_or, Bool.or_false, Bool.false_or]
      unfold noteB at q0
      rw [decide_eq_false h1] at q0
      simp only [Bool.not_false, Bool.not_true, Bool.false_eq_true, if_true, if_false, Bool.and_true, Bool.true_and, Bool.false_and, Bool.and_false, Bool.or_true, Bool.true_or, Bool.or_false, Bool.false_or] at q0
      exact q0
  | _ =>
    simp only [Bool.not_false, Bool.not_true, Bool.false_eq_true, if_true, if_false, Bool.and_true, Bool.true_and, Bool.false_and, Bool.and_false, Bool.or_true, Bool.true_or, Bool.or_false, Bool.false_or]
    exact q0
/-- texts are not too long -/
def Sh0 (d : D) : Prop := ∀ x, d = .str x → x.length < sizeLine
def one2 (f : D → Bool) : List D → Bool
  | [v] => f v
  | _ => false
def labB (k : Str) (r : List D) : Bool := if isIn (.str k) ["set", "run", "call", "name"] = true then one2 (onS nameB) r else if k = "number" then one2 (onS numB) r else if k = "note" then one2 (onS noteB) r else r.isEmpty
theorem two_wp {S : Sto} {k : Str} {r : List D} {Q : D → Sto → Prop} {g : F} {f : Str → Bool} {ρ : En} (h0 : ρ[0]? = some (some (.tup (.str k :: r)))) (hr : ∀ d ∈ r, Sv S d ∧ Sh0 d) (hg : ∀ d (Q : D → Sto → Prop), Sv S d → Sh0 d → (∀ l, Q (.bl (onS f d)) (S ++ l)) → (g [d] S).wp Q) (q : ∀ l, Q (.bl (one2 (onS f) r)) (S ++ l)) :
    (mAnd (mBin fEq (mCB cLen (aCons (mVar 0) aNil)) (mC (.int 2))) (mCB g (aCons (mBin fIx (mVar 0) (mC (.int 1))) aNil)) ρ S).wp Q := by
  have q0 := q []
  rw [List.append_nil] at q0
  simp only [s_nil, s_seq, s_drop, s_ret, s_set, s_if, s_par, s_put, s_for, w_var, w_c, w_bin, w_un, w_nil, w_cons, w_cb, w_tup, w_lst, w_val, w_tnot, w_tand, w_tor, w_and, w_or, w_not, w_if, w_chain, w_isi, w_mt, w_tab, w_onone, w_osome, w_sl, List.map_cons, List.map_nil, List.length_cons, List.length_nil, List.cons_append, List.nil_append, List.getElem?_cons_zero, List.getElem?_cons_succ, List.set_cons_zero, List.set_cons_succ, List.reduceReplicate, Nat.reduceAdd, Nat.reduceSub, h0]
  rw [w_lenT, w_eq eqN_int]
  refine ⟨_, rfl, ?_⟩
  cases r with
  | nil => exact q0
  | cons v t =>
    cases t with
    | nil =>
      show if true = true then _ else _
      rw [if_pos rfl, w_ixT]
      refine ⟨v, atI_one _ _ _, ?_⟩
      obtain ⟨a, b⟩ := hr v List.mem_cons_self
      exact hg v Q a b q
    | cons u t =>
      rw [if_neg (by
        show ¬ (((((D.str k :: v :: u :: t).length : Nat) : Int) == 2) = true)
        rw [beq_iff_eq]
        simp only [List.length_cons]
        omega)]
      exact q0
theorem label_wp {S : Sto} {k : Str} {r : List D} {Q : D → Sto → Prop} (hr : ∀ d ∈ r, Sv S d ∧ Sh0 d) (q : ∀ l, Q (.bl (labB k r)) (S ++ l)) : (g_is_label (g_is_name g_are_all) (g_is_number g_are_all) (g_is_note g_are_all) [.tup (.str k :: r)] S).wp Q := by
  have q0 := q []
  rw [List.append_nil] at q0
  unfold g_is_label
  refine w_def rfl ?_
  rw [s_seq, s_if, w_val, w_bin, w_bin, List.map_cons, List.map_nil, List.length_cons, List.length_nil]
  show Res.wp (fIx (.tup (.str k :: r)) (.int 0) S) _
  rw [w_ixT]
  refine ⟨.str k, atI_zero _ _, ?_⟩
  rw [w_c]
  refine (w_in (inW_tup (d := .str k) trivial ["set", "run", "call", "name"])).mpr ⟨_, rfl, ?_⟩
  unfold labB at q q0
  by_cases h1 : isIn (.str k) ["set", "run", "call", "name"] = true
  · rw [if_pos h1] at q ⊢
    rw [s_ret]
    exact two_wp rfl hr (fun d Q a b c => name_wp a b c) q
  · rw [if_neg h1] at q q0 ⊢
    rw [s_nil, s_seq, s_if, w_val, w_bin, w_bin]
    show Res.wp (fIx (.tup (.str k :: r)) (.int 0) S) _
    rw [w_ixT]
    refine ⟨.str k, atI_zero _ _, ?_⟩
    rw [w_c, w_eq eqN_str]
    refine ⟨_, rfl, ?_⟩
    by_cases h2 : k = "number"
    · rw [if_pos h2] at q
      rw [if_pos (by rw [beq_iff_eq]; exact h2), s_ret]
      exact two_wp rfl hr (fun d Q a b c => number_wp a b c) q
    · rw [if_neg h2] at q q0
      rw [if_neg (by rw [beq_iff_eq]; exact h2), s_nil, s_seq, s_if, w_val, w_bin, w_bin]
      show Res.wp (fIx (.tup (.str k :: r)) (.int 0) S) _
      rw [w_ixT]
      refine ⟨.str k, atI_zero _ _, ?_⟩
      rw [w_c, w_eq eqN_str]
      refine ⟨_, rfl, ?_⟩
      by_cases h3 : k = "note"
      · rw [if_pos h3] at q
        rw [if_pos (by rw [beq_iff_eq]; exact h3), s_ret]
        exact two_wp rfl hr (fun d Q a b c => note_wp a b c) q
      · rw [if_neg h3] at q q0
        rw [if_neg (by rw [beq_iff_eq]; exact h3), s_nil, s_ret]
        simp only [s_nil, s_seq, s_drop, s_ret, s_set, s_if, s_par, s_put, s_for, w_var, w_c, w_bin, w_un, w_nil, w_cons, w_cb, w_tup, w_lst, w_val, w_tnot, w_tand, w_tor, w_and, w_or, w_not, w_if, w_chain, w_isi, w_mt, w_tab, w_onone, w_osome, w_sl, List.map_cons, List.map_nil, List.length_cons, List.length_nil, List.cons_append, List.nil_append, List.getElem?_cons_zero, List.getElem?_cons_succ, List.set_cons_zero, List.set_cons_succ, List.reduceReplicate, Nat.reduceAdd, Nat.reduceSub]
        rw [w_lenT, w_eq eqN_int]
        have e : ((((D.str k :: r).length : Nat) : Int) == 1) = r.isEmpty := by
          cases r with
          | nil => rfl
          | cons v t =>
            rw [Bool.eq_iff_iff, beq_iff_eq]
            simp only [List.length_cons]
            constructor
            · intro z; omega
            · intro z; cases z
        rw [e]
        exact q0
end Mn

set_option Elab.async false
set_option linter.all false
set_option maxRecDepth 100000
set_option maxHeartbeats 4000000
/-! Mn: parts and lots. -/
namespace Mn
open PySem PySem.Spec PyProof.Rows L2
structure Form where
  kinds : List Str
  least : Nat
  most : Option Nat
def kTerms : List Str := ["name", "number", "call", "list", "in"]
def kExprs : List Str := ["name", "number", "call", "list", "in", "sum"]
def kStmts : List Str := ["set", "run", "give", "if", "loop", "note"]
def lotsL : List (Str × List Str) := [("set", ["one E"]), ("run", ["E's"]), ("give", ["one E"]), ("if", ["one E", "a block", "perhaps an else"]), ("loop", ["one E", "a block"]), ("else", ["a block"]), ("note", []), ("name", []), ("number", []), ("call", ["E's"]), ("list", ["E's"]), ("in", ["one E"]), ("sum", ["terms with signs"]), ("plus", ["one term"]), ("minus", ["one term"])]
def formsL : List (Str × Form) := [("one E", ⟨kExprs, 1, some 1⟩), ("E's", ⟨kExprs, 0, none⟩), ("a block", ⟨kStmts, 0, none⟩), ("perhaps an else", ⟨["else"], 0, some 1⟩), ("terms with signs", ⟨["plus", "minus"], 2, none⟩), ("one term", ⟨kTerms, 1, some 1⟩)]
def sortsOf (k : Str) : List Str := ((lotsL.find? fun q => decide (q.1 = k)).map (·.2)).getD []
def formOf (s : Str) : Form := ((formsL.find? fun q => decide (q.1 = s)).map (·.2)).getD ⟨[], 0, none⟩
def Form.d (f : Form) : D := .tup [.tup (f.kinds.map .str), .int (f.least : Nat), match f.most with | none => .non | some m => .int (m : Nat)]
def allK : List Str := lotsL.map (·.1)
def allS : List Str := formsL.map (·.1)
theorem tab_lots : ∀ k ∈ allK, tabD t_LOTS k = some (.tup ((sortsOf k).map .str)) := by
  have h : (allK.all fun k => decide (tabD t_LOTS k = some (.tup ((sortsOf k).map .str)))) = true := by decide +kernel
  exact fun k hk => of_decide_eq_true (List.all_eq_true.mp h k hk)
theorem tab_forms : ∀ s ∈ allS, tabD t_FORMS s = some (formOf s).d := by
  have h : (allS.all fun s => decide (tabD t_FORMS s = some (formOf s).d)) = true := by decide +kernel
  exact fun k hk => of_decide_eq_true (List.all_eq_true.mp h k hk)
theorem sorts_all : ∀ k ∈ allK, ∀ s ∈ sortsOf k, s ∈ allS := by
  have h : (allK.all fun k => (sortsOf k).all fun s => decide (s ∈ allS)) = true := by decide +kernel
  exact fun k hk s hs => of_decide_eq_true (List.all_eq_true.mp (List.all_eq_true.mp h k hk) s hs)
theorem kinds_all : ∀ s ∈ allS, ∀ k ∈ (formOf s).kinds, k ∈ allK := by
  have h : (allS.all fun s => (formOf s).kinds.all fun k => decide (k ∈ allK)) = true := by decide +kernel
  exact fun k hk s hs => of_decide_eq_true (List.all_eq_true.mp (List.all_eq_true.mp h k hk) s hs)
theorem least_added : 2 ≤ (formOf "terms with signs").least := by decide +kernel
/-- the first item's label is ('plus',) -/
def plus1 : List D → Bool
  | .tup (.tup xs :: _) :: _ => decide (xs = [.str "plus"])
  | _ => false
def mostOk : Option Nat → Nat → Bool
  | none, _ => true
  | some m, n => decide (n ≤ m)
def lotW (pb : D → Bool) (added : Bool) (fm : Form) : D → Bool
  | .tup items => decide (fm.least ≤ items.length) && (mostOk fm.most items.length && (items.all pb && (!added || plus1 items)))
  | _ => false
def lotS (pb : List Str → D → Bool) (s : Str) (d : D) : Bool := lotW (pb (formOf s).kinds) (decide (s = "terms with signs")) (formOf s) d
/-- a part, looked at so deep -/
def partB : Nat → List Str → D → Bool
  | n + 1, kinds, .tup [.tup (.str k :: r), .tup lots] => isIn (.str k) kinds && (labB k r && (decide (lots.length = (sortsOf k).length) && (List.zip lots (sortsOf k)).all fun q => lotS (partB n) q.2 q.1))
  | _, _, _ => false
def lotB (n : Nat) (s : Str) (d : D) : Bool := lotS (partB n) s d
abbrev fLab : F := g_is_label (g_is_name g_are_all) (g_is_number g_are_all) (g_is_note g_are_all)
theorem Vl.sh0 {p r w W h : Nat} {S : Sto} {d : D} (v : Vl p r w W h S d) (hW : W < sizeLine) : Sh0 d := by
  intro x e
  subst e
  obtain ⟨q, e, g⟩ := v
  have e : some (PyData.str x) = some q := e
  injection e with e
  subst e
  have := g.wt
  have hx : x.cps.size ≤ W := this
  show x.cps.size < sizeLine
  omega
theorem Vl.app {p r w W h : Nat} {S : Sto} {d : D} (v : Vl p r w W h S d) (l : List Ob) : Vl p r w W h (S ++ l) d := v.ext ((Ext.refl p S).app l)
theorem Vls.app {p r w W h : Nat} {S : Sto} {ds : List D} (v : Vls p r w W h S ds) (l : List Ob) : Vls p r w W h (S ++ l) ds := v.ext ((Ext.refl p S).app l)
/-- c looks at parts as partB n does, at values of that depth -/
def PartOk (n h p r w W : Nat) (c : F) : Prop := ∀ (kinds : List Str) (S : Sto) (d : D) (Q : D → Sto → Prop), (∀ k ∈ kinds, k ∈ allK) → Vl p r w W h S d → (∀ l, Q (.bl (partB n kinds d)) (S ++ l)) → (c [d, .tup (kinds.map .str)] S).wp Q
def LotOk (n h p r w W : Nat) (c : F) : Prop := ∀ (s : Str) (S : Sto) (d : D) (Q : D → Sto → Prop), s ∈ allS → Vl p r w W h S d → (∀ l, Q (.bl (lotB n s d)) (S ++ l)) → (c [d, .str s] S).wp Q
theorem fuel_part {n : Nat} {kinds : List Str} {d : D} (h : partB n kinds d = true) : ∃ k r l, d = .tup [.tup (.str k :: r), l] := by
  unfold partB at h
  split at h
  · exact ⟨_, _, _, rfl⟩
  · cases h
theorem lot_of {n h p r w W : Nat} {c : F} (hw : w < sizeLine) (hW : W < sizeLine) (P : PartOk n h p r w W c) : LotOk n (h + 1) p r w W (g_is_lot c) := by
  intro s S d Q hs v q
  have q0 := q []
  rw [List.append_nil] at q0
  have sv := v.sv
  unfold g_is_lot
  refine w_def rfl ?_
  have lb : ∀ items, lotB n s (.tup items) = (decide ((formOf s).least ≤ items.length) && (mostOk (formOf s).most items.length && (items.all (partB n (formOf s).kinds) && (!(decide (s = "terms with signs")) || plus1 items)))) := fun _ => rfl
  have ln : (∀ items, d ≠ .tup items) → lotB n s d = false := fun hn => by
    cases d with
    | tup items => exact absurd rfl (hn items)
    | _ => rfl
  have tf := tab_forms s hs
  have ka := kinds_all s hs
  have la : s = "terms with signs" → 2 ≤ (formOf s).least := fun e => by rw [e]; exact least_added
  generalize formOf s = fm at lb tf ka la
  obtain ⟨kinds, least, most⟩ := fm
  have lb : ∀ items, lotB n s (.tup items) = (decide (least ≤ items.length) && (mostOk most items.length && (items.all (partB n kinds) && (!(decide (s = "terms with signs")) || plus1 items)))) := lb
  have ka : ∀ k ∈ kinds, k ∈ allK := ka
  have la : s = "terms with signs" → 2 ≤ least := la
  rw [s_seq, s_asg, w_tab]
  refine ⟨s, _, rfl, tf, _, rfl, ?_⟩
  -- what is left behind the first tests
  have rest : ∀ (items : List D) (mo : D), d = .tup items → (∀ l, Q (.bl (items.all (partB n kinds) && (!(decide (s = "terms with signs")) || plus1 items))) (S ++ l)) → least ≤ items.length →
      (mComp (iVal (mVar 0)) (.nm 5) tYesM (mCB c (aCons (mVar 5) (aCons (mVar 2) aNil))) [5] [some (.tup items), some (.str s), some (.tup (kinds.map .str)), some (.int (least : Nat)), some mo, none] S).wp fun x S => (cAll [x] S).wp fun d S => ∃ x, d = .bl x ∧ if (!x) = true then Q (.bl false) S else (fNe (.str s) (.str "terms with signs") S).wp fun d S => ∃ x, d = .bl x ∧ if x = true then Q (.bl true) S else (fIx (.tup items) (.int 0) S).wp fun x S => (fIx x (.int 0) S).wp fun x S => 1 ≤ sizeLine ∧ (fEq x (.tup [.str "plus"]) S).wp Q := by
    intro items mo ed ql hle
    subst ed
    obtain ⟨li, h1, vs⟩ := v.untup
    rw [Nat.add_sub_cancel] at vs
    refine all_wp2 (ds := items) (chk := always) (b := partB n kinds) rfl rfl (fun _ => rfl) (by omega) (fun d hd l Q' q' => ?_) (fun l => ⟨_, rfl, ?_⟩)
    · refine ⟨_, rfl, ?_⟩
      simp only [s_nil, s_seq, s_drop, s_ret, s_set, s_if, s_par, s_put, s_for, w_var, w_c, w_bin, w_un, w_nil, w_cons, w_cb, w_tup, w_lst, w_val, w_tnot, w_tand, w_tor, w_and, w_or, w_not, w_if, w_chain, w_isi, w_mt, w_tab, w_onone, w_osome, w_sl, List.map_cons, List.map_nil, List.length_cons, List.length_nil, List.cons_append, List.nil_append, List.getElem?_cons_zero, List.getElem?_cons_succ, List.set_cons_zero, List.set_cons_succ, List.reduceReplicate, Nat.reduceAdd, Nat.reduceSub, wipeE]
      exact P kinds (S ++ l) d Q' ka ((vs.app l).mem hd) fun l' => by rw [List.append_assoc]; exact q' l'
    · have ql := ql l
      cases ha : items.all (partB n kinds) with
      | false =>
        rw [ha] at ql
        exact ql
      | true =>
        rw [ha, Bool.true_and] at ql
        simp only [Bool.not_false, Bool.not_true, Bool.false_eq_true, if_true, if_false, Bool.and_true, Bool.true_and, Bool.false_and, Bool.and_false, Bool.or_true, Bool.true_or, Bool.or_false, Bool.false_or]
        rw [w_ne eqN_str, beq_dec]
        refine ⟨_, rfl, ?_⟩
        by_cases hz : s = "terms with signs"
        · rw [decide_eq_true hz] at ql ⊢
          simp only [Bool.not_false, Bool.not_true, Bool.false_eq_true, if_true, if_false, Bool.and_true, Bool.true_and, Bool.false_and, Bool.and_false, Bool.or_true, Bool.true_or, Bool.or_false, Bool.false_or] at ql ⊢
          have two : 2 ≤ items.length := Nat.le_trans (la hz) hle
          cases items with
          | nil => simp at two
          | cons i0 rest =>
            rw [w_ixT]
            refine ⟨i0, atI_zero _ _, ?_⟩
            have p0 : partB n kinds i0 = true := List.all_eq_true.mp ha i0 List.mem_cons_self
            obtain ⟨k, r', lo, e⟩ := fuel_part p0
            subst e
            rw [w_ixT]
            refine ⟨.tup (.str k :: r'), atI_zero _ _, by decide, ?_⟩
            have v0 : Vl p r w W h (S ++ l) (.tup [.tup (.str k :: r'), lo]) := (vs.app l).mem List.mem_cons_self
            have v1 := (v0.untup.2.2.mem (List.mem_cons_self)).untup.2.2
            rw [w_eq (eq_one (.str k :: r') "plus" fun d hd => (v1.mem hd).sv)]
            exact ql
        · rw [decide_eq_false hz] at ql ⊢
          simp only [Bool.not_false, Bool.not_true, Bool.false_eq_true, if_true, if_false, Bool.and_true, Bool.true_and, Bool.false_and, Bool.and_false, Bool.or_true, Bool.true_or, Bool.or_false, Bool.false_or] at ql ⊢
          exact ql
  cases most with
  | none =>
    show RS.wp (sSeq _ _ [some d, some (.str s), some (.tup (kinds.map .str)), some (.int (least : Nat)), some .non, none] S) _ _
    simp only [s_nil, s_seq, s_drop, s_ret, s_set, s_if, s_par, s_put, s_for, w_var, w_c, w_bin, w_un, w_nil, w_cons, w_cb, w_tup, w_lst, w_val, w_tnot, w_tand, w_tor, w_and, w_or, w_not, w_if, w_chain, w_isi, w_mt, w_tab, w_onone, w_osome, w_sl, List.map_cons, List.map_nil, List.length_cons, List.length_nil, List.cons_append, List.nil_append, List.getElem?_cons_zero, List.getElem?_cons_succ, List.set_cons_zero, List.set_cons_succ, List.reduceReplicate, Nat.reduceAdd, Nat.reduceSub]
    refine ⟨sv.k, _, rfl, ?_⟩
    rw [sv.isT]
    cases d with
    | tup items =>
      simp only [Bool.not_false, Bool.not_true, Bool.false_eq_true, if_true, if_false, Bool.and_true, Bool.true_and, Bool.false_and, Bool.and_false, Bool.or_true, Bool.true_or, Bool.or_false, Bool.false_or]
      rw [lb] at q q0
      rw [w_lenT, w_fI]
      refine ⟨rfl, _, rfl, ?_⟩
      by_cases c1 : least ≤ items.length
      · rw [decide_eq_true c1] at q q0
        rw [decide_eq_false (by omega : ¬ ((items.length : Nat) : Int) < ((least : Nat) : Int))]
        simp only [Bool.not_false, Bool.not_true, Bool.false_eq_true, if_true, if_false, Bool.and_true, Bool.true_and, Bool.false_and, Bool.and_false, Bool.or_true, Bool.true_or, Bool.or_false, Bool.false_or] at q ⊢
        have e : (fNotN .non .non S) = .ok (.bl false) S := rfl
        rw [e, wp_ok]
        refine ⟨_, rfl, ?_⟩
        simp only [Bool.not_false, Bool.not_true, Bool.false_eq_true, if_true, if_false, Bool.and_true, Bool.true_and, Bool.false_and, Bool.and_false, Bool.or_true, Bool.true_or, Bool.or_false, Bool.false_or]
        exact rest items .non rfl q c1
      · rw [decide_eq_false c1] at q0
        rw [decide_eq_true (by omega : ((items.length : Nat) : Int) < ((least : Nat) : Int))]
        simp only [Bool.not_false, Bool.not_true, Bool.false_eq_true, if_true, if_false, Bool.and_true, Bool.true_and, Bool.false_and, Bool.and_false, Bool.or_true, Bool.true_or, Bool.or_false, Bool.false_or] at q0 ⊢
        exact q0
    | _ =>
      simp only [Bool.not_false, Bool.not_true, Bool.false_eq_true, if_true, if_false, Bool.and_true, Bool.true_and, Bool.false_and, Bool.and_false, Bool.or_true, Bool.true_or, Bool.or_false, Bool.false_or]
      rw [ln (fun items e => by cases e)] at q0
      exact q0
  | some m =>
    show RS.wp (sSeq _ _ [some d, some (.str s), some (.tup (kinds.map .str)), some (.int (least : Nat)), some (.int (m : Nat)), none] S) _ _
    simp only [s_nil, s_seq, s_drop, s_ret, s_set, s_if, s_par, s_put, s_for, w_var, w_c, w_bin, w_un, w_nil, w_cons, w_cb, w_tup, w_lst, w_val, w_tnot, w_tand, w_tor, w_and, w_or, w_not, w_if, w_chain, w_isi, w_mt, w_tab, w_onone, w_osome, w_sl, List.map_cons, List.map_nil, List.length_cons, List.length_nil, List.cons_append, List.nil_append, List.getElem?_cons_zero, List.getElem?_cons_succ, List.set_cons_zero, List.set_cons_succ, List.reduceReplicate, Nat.reduceAdd, Nat.reduceSub]
    refine ⟨sv.k, _, rfl, ?_⟩
    rw [sv.isT]
    cases d with
    | tup items =>
      simp only [Bool.not_false, Bool.not_true, Bool.false_eq_true, if_true, if_false, Bool.and_true, Bool.true_and, Bool.false_and, Bool.and_false, Bool.or_true, Bool.true_or, Bool.or_false, Bool.false_or]
      rw [lb] at q q0
      rw [w_lenT, w_fI]
      refine ⟨rfl, _, rfl, ?_⟩
      by_cases c1 : least ≤ items.length
      · rw [decide_eq_true c1] at q q0
        rw [decide_eq_false (by omega : ¬ ((items.length : Nat) : Int) < ((least : Nat) : Int))]
        simp only [Bool.not_false, Bool.not_true, Bool.false_eq_true, if_true, if_false, Bool.and_true, Bool.true_and, Bool.false_and, Bool.and_false, Bool.or_true, Bool.true_or, Bool.or_false, Bool.false_or, mostOk] at q q0 ⊢
        have e : (fNotN (.int (m : Nat)) .non S) = .ok (.bl true) S := rfl
        rw [e, wp_ok]
        refine ⟨_, rfl, ?_⟩
        simp only [Bool.not_false, Bool.not_true, Bool.false_eq_true, if_true, if_false, Bool.and_true, Bool.true_and, Bool.false_and, Bool.and_false, Bool.or_true, Bool.true_or, Bool.or_false, Bool.false_or]
        rw [w_lenT, w_fI]
        refine ⟨rfl, _, rfl, ?_⟩
        by_cases c2 : items.length ≤ m
        · rw [decide_eq_true c2] at q
          rw [decide_eq_false (by omega : ¬ ((m : Nat) : Int) < ((items.length : Nat) : Int))]
          simp only [Bool.not_false, Bool.not_true, Bool.false_eq_true, if_true, if_false, Bool.and_true, Bool.true_and, Bool.false_and, Bool.and_false, Bool.or_true, Bool.true_or, Bool.or_false, Bool.false_or] at q ⊢
          exact rest items (.int (m : Nat)) rfl q c1
        · rw [decide_eq_false c2] at q0
          rw [decide_eq_true (by omega : ((m : Nat) : Int) < ((items.length : Nat) : Int))]
          simp only [Bool.not_false, Bool.not_true, Bool.false_eq_true, if_true, if_false, Bool.and_true, Bool.true_and, Bool.false_and, Bool.and_false, Bool.or_true, Bool.true_or, Bool.or_false, Bool.false_or] at q0 ⊢
          exact q0
      · rw [decide_eq_false c1] at q0
        rw [decide_eq_true (by omega : ((items.length : Nat) : Int) < ((least : Nat) : Int))]
        simp only [Bool.not_false, Bool.not_true, Bool.false_eq_true, if_true, if_false, Bool.and_true, Bool.true_and, Bool.false_and, Bool.and_false, Bool.or_true, Bool.true_or, Bool.or_false, Bool.false_or] at q0 ⊢
        exact q0
    | _ =>
      simp only [Bool.not_false, Bool.not_true, Bool.false_eq_true, if_true, if_false, Bool.and_true, Bool.true_and, Bool.false_and, Bool.and_false, Bool.or_true, Bool.true_or, Bool.or_false, Bool.false_or]
      rw [ln (fun items e => by cases e)] at q0
      exact q0
theorem isIn_str {d : D} {ys : List Str} (h : isIn d ys = true) : ∃ k, k ∈ ys ∧ d = .str k := by
  obtain ⟨k, hk, e⟩ := List.any_eq_true.mp h
  exact ⟨k, hk, of_decide_eq_true e⟩
theorem fuel_part2 {n : Nat} {kinds : List Str} {d : D} (h : partB n kinds d = true) : ∃ k r l, d = .tup [.tup (.str k :: r), .tup l] ∧ isIn (.str k) kinds = true ∧ labB k r = true := by
  unfold partB at h
  split at h
  · rename_i n kinds k r lots
    rw [Bool.and_eq_true, Bool.and_eq_true] at h
    exact ⟨_, _, _, rfl, h.1, h.2.1⟩
  · cases h
theorem isIn_num {x : D} {kinds : List Str} (h : ∀ k, x ≠ .str k) : isIn x kinds = false := eq_false_of_ne_true fun z => by
  obtain ⟨k, _, e⟩ := isIn_str z
  exact h k e
theorem zip_all (n : Nat) : ∀ (lots : List D) (ss : List Str), (List.zipWith (fun u v => D.tup [u, v]) lots (ss.map D.str)).all (fun d => match d with | .tup [x, .str s] => lotB n s x | _ => false) = (List.zip lots ss).all fun q => lotS (partB n) q.2 q.1
  | [], _ => rfl
  | _ :: _, [] => rfl
  | x :: lots, s :: ss => by
    rw [List.map_cons, List.zipWith_cons_cons, List.zip_cons_cons, List.all_cons, List.all_cons, zip_all n lots ss]
    rfl
theorem part_of {n h p r w W : Nat} {c : F} (hw : w < sizeLine) (hW : W < sizeLine) (L : LotOk n h p r w W c) : PartOk (n + 1) (h + 2) p r w W (g_is_part fLab c) := by
  intro kinds S d Q hk v q
  have q0 := q []
  rw [List.append_nil] at q0
  have no : (∀ k r l, d = .tup [.tup (.str k :: r), .tup l] → isIn (.str k) kinds = true → labB k r = true → False) → Q (.bl false) S := fun hn => by
    have : partB (n + 1) kinds d = false := eq_false_of_ne_true fun z => by
      obtain ⟨k, r', l, e, a, b⟩ := fuel_part2 z
      exact hn k r' l e a b
    rw [this] at q0
    exact q0
  have sv := v.sv
  unfold g_is_part
  refine w_def rfl ?_
  rw [s_seq, s_if]
  simp only [w_tor, w_tnot, w_val, w_isi, w_bin, w_cb, w_cons, w_nil, w_var, w_c, s_ret, s_nil, List.map_cons, List.map_nil, List.length_cons, List.length_nil, List.cons_append, List.nil_append, List.getElem?_cons_zero, List.getElem?_cons_succ, List.reduceReplicate, Nat.reduceAdd, Nat.reduceSub]
  refine ⟨sv.k, _, rfl, ?_⟩
  rw [sv.isT]
  cases d with
  | tup items =>
    simp only [Bool.not_false, Bool.not_true, Bool.false_eq_true, if_true, if_false, Bool.and_true, Bool.true_and, Bool.false_and, Bool.and_false, Bool.or_true, Bool.true_or, Bool.or_false, Bool.false_or]
    rw [w_lenT, w_ne eqN_int]
    refine ⟨_, rfl, ?_⟩
    by_cases h2 : items.length = 2
    · rw [show (!((((items.length : Nat) : Int)) == 2)) = false by rw [h2]; rfl]
      simp only [Bool.not_false, Bool.not_true, Bool.false_eq_true, if_true, if_false, Bool.and_true, Bool.true_and, Bool.false_and, Bool.and_false, Bool.or_true, Bool.true_or, Bool.or_false, Bool.false_or]
      obtain ⟨a, b, e⟩ : ∃ a b, items = [a, b] := by
        cases items with
        | nil => simp at h2
        | cons a t =>
          cases t with
          | nil => simp at h2
          | cons b u =>
            cases u with
            | nil => exact ⟨a, b, rfl⟩
            | cons _ _ => simp at h2
      subst e
      obtain ⟨_, h1, vs⟩ := v.untup
      have va : Vl p r w W (h + 1) S a := vs.mem List.mem_cons_self
      have vb : Vl p r w W (h + 1) S b := vs.mem (List.mem_cons_of_mem _ List.mem_cons_self)
      rw [s_seq, s_asg, w_var]
      refine ⟨_, rfl, ?_⟩
      show RS.wp (sSeq _ _ [some (.tup [a, b]), some (.tup (kinds.map .str)), none, some a, some b, none, none] S) _ _
      rw [s_seq, s_if]
      simp only [w_tor, w_tnot, w_val, w_isi, w_bin, w_tup, w_cb, w_cons, w_nil, w_var, w_c, s_ret, s_nil, List.length_nil, List.getElem?_cons_zero, List.getElem?_cons_succ]
      refine ⟨va.sv.k, _, rfl, ?_⟩
      rw [va.sv.isT]
      cases a with
      | tup lab =>
        simp only [Bool.not_false, Bool.not_true, Bool.false_eq_true, if_true, if_false, Bool.and_true, Bool.true_and, Bool.false_and, Bool.and_false, Bool.or_true, Bool.true_or, Bool.or_false, Bool.false_or]
        refine ⟨Nat.zero_le _, ?_⟩
        rw [w_eq (eq_unit lab)]
        refine ⟨_, rfl, ?_⟩
        cases lab with
        | nil =>
          show Q (.bl false) S
          exact no fun k r' l e _ _ => by cases e
        | cons x xs =>
          rw [show (x :: xs).isEmpty = false from rfl]
          simp only [Bool.not_false, Bool.not_true, Bool.false_eq_true, if_true, if_false, Bool.and_true, Bool.true_and, Bool.false_and, Bool.and_false, Bool.or_true, Bool.true_or, Bool.or_false, Bool.false_or]
          rw [w_ixT]
          refine ⟨x, atI_zero _ _, ?_⟩
          obtain ⟨_, _, vl⟩ := va.untup
          have vx : Vl p r w W h S x := vl.mem List.mem_cons_self
          rw [w_notIn (inW_tup vx.sv kinds)]
          refine ⟨_, rfl, ?_⟩
          cases hi : isIn x kinds with
          | false =>
            show Q (.bl false) S
            exact no fun k r' l e hk' _ => by
              injection e with e
              injection e with e
              injection e with e
              injection e with e e'
              rw [e, hk'] at hi
              cases hi
          | true =>
            simp only [Bool.not_false, Bool.not_true, Bool.false_eq_true, if_true, if_false, Bool.and_true, Bool.true_and, Bool.false_and, Bool.and_false, Bool.or_true, Bool.true_or, Bool.or_false, Bool.false_or]
            obtain ⟨k, hkk, e⟩ := isIn_str hi
            subst e
            refine label_wp (fun d hd => ?_) fun l => ⟨_, rfl, ?_⟩
            · have vd : Vl p r w W h S d := vl.mem (List.mem_cons_of_mem _ hd)
              exact ⟨vd.sv, vd.sh0 hW⟩
            · have ql := q l
              have nol : (labB k xs = true → ∀ lo, b = .tup lo → False) → Q (.bl false) (S ++ l) := fun hn => by
                have : partB (n + 1) kinds (.tup [.tup (.str k :: xs), b]) = false := eq_false_of_ne_true fun z => by
                  obtain ⟨k', r', l', e, _, hb⟩ := fuel_part2 z
                  injection e with e
                  injection e with e1 e2
                  injection e1 with e1
                  injection e1 with e1 e3
                  injection e1 with e1
                  injection e2 with e2
                  subst e1 e3
                  exact hn hb l' e2
                rw [this] at ql
                exact ql
              cases hl : labB k xs with
              | false =>
                show Q (.bl false) (S ++ l)
                exact nol fun z => by rw [hl] at z; cases z
              | true =>
                simp only [Bool.not_false, Bool.not_true, Bool.false_eq_true, if_true, if_false, Bool.and_true, Bool.true_and, Bool.false_and, Bool.and_false, Bool.or_true, Bool.true_or, Bool.or_false, Bool.false_or]
                rw [s_seq, s_set]
                simp only [w_tab, w_bin, w_var, w_c, List.getElem?_cons_zero, List.getElem?_cons_succ]
                rw [w_ixT]
                refine ⟨.str k, atI_zero _ _, k, _, rfl, tab_lots k (hk k hkk), ?_⟩
                rw [s_seq, s_if]
                simp only [w_tor, w_tnot, w_val, w_isi, w_bin, w_tup, w_cb, w_cons, w_nil, w_var, w_c, s_ret, s_nil, List.length_nil, List.getElem?_cons_zero, List.getElem?_cons_succ, List.set_cons_succ, List.set_cons_zero]
                have vb' := vb.app l
                refine ⟨vb'.sv.k, _, rfl, ?_⟩
                rw [vb'.sv.isT]
                cases b with
                | tup lots =>
                  simp only [Bool.not_false, Bool.not_true, Bool.false_eq_true, if_true, if_false, Bool.and_true, Bool.true_and, Bool.false_and, Bool.and_false, Bool.or_true, Bool.true_or, Bool.or_false, Bool.false_or]
                  rw [w_lenT, w_lenT, w_ne eqN_int, List.length_map]
                  refine ⟨_, rfl, ?_⟩
                  have pe : partB (n + 1) kinds (.tup [.tup (.str k :: xs), .tup lots]) = (isIn (.str k) kinds && (labB k xs && (decide (lots.length = (sortsOf k).length) && (List.zip lots (sortsOf k)).all fun q => lotS (partB n) q.2 q.1))) := rfl
                  rw [pe, hi, hl] at q
                  simp only [Bool.not_false, Bool.not_true, Bool.false_eq_true, if_true, if_false, Bool.and_true, Bool.true_and, Bool.false_and, Bool.and_false, Bool.or_true, Bool.true_or, Bool.or_false, Bool.false_or] at q
                  by_cases hz : lots.length = (sortsOf k).length
                  · rw [decide_eq_true hz] at q
                    rw [show (!((((lots.length : Nat) : Int)) == (((sortsOf k).length : Nat) : Int))) = false by rw [hz]; simp]
                    simp only [Bool.not_false, Bool.not_true, Bool.false_eq_true, if_true, if_false, Bool.and_true, Bool.true_and, Bool.false_and, Bool.and_false, Bool.or_true, Bool.true_or, Bool.or_false, Bool.false_or] at q ⊢
                    obtain ⟨hll, _, vlots⟩ := vb.untup
                    refine all_wp2 (ds := List.zipWith (fun u v => D.tup [u, v]) lots ((sortsOf k).map D.str)) (chk := fun S => always S && always S) (b := fun d => match d with | .tup [x, .str s] => lotB n s x | _ => false) rfl rfl (fun _ => rfl) (by rw [List.length_zipWith]; omega) (fun d hd l1 Q' q' => ?_) (fun l1 => ?_)
                    · obtain ⟨j, hj, e⟩ := List.mem_iff_getElem.mp hd
                      rw [List.length_zipWith, List.length_map] at hj
                      rw [List.getElem_zipWith, List.getElem_map] at e
                      subst e
                      refine ⟨_, rfl, ?_⟩
                      simp only [s_nil, s_seq, s_drop, s_ret, s_set, s_if, s_par, s_put, s_for, w_var, w_c, w_bin, w_un, w_nil, w_cons, w_cb, w_tup, w_lst, w_val, w_tnot, w_tand, w_tor, w_and, w_or, w_not, w_if, w_chain, w_isi, w_mt, w_tab, w_onone, w_osome, w_sl, List.map_cons, List.map_nil, List.length_cons, List.length_nil, List.cons_append, List.nil_append, List.getElem?_cons_zero, List.getElem?_cons_succ, List.set_cons_zero, List.set_cons_succ, List.reduceReplicate, Nat.reduceAdd, Nat.reduceSub, wipeE]
                      have hs : (sortsOf k)[j]'(by omega) ∈ allS := sorts_all k (hk k hkk) _ (List.getElem_mem _)
                      have vi : Vl p r w W h (S ++ l ++ l1) (lots[j]'(by omega)) := ((vlots.app l).app l1).mem (List.getElem_mem _)
                      exact L _ _ _ Q' hs vi fun l2 => by
                        have := q' l2
                        rw [← List.append_assoc] at this
                        exact this
                    · rw [zip_all]
                      have := q (l ++ l1)
                      rw [← List.append_assoc] at this
                      exact this
                  · rw [decide_eq_false hz] at q
                    rw [show (!((((lots.length : Nat) : Int)) == (((sortsOf k).length : Nat) : Int))) = true by
                      rw [Bool.not_eq_true', beq_eq_false_iff_ne]
                      omega]
                    simp only [Bool.not_false, Bool.not_true, Bool.false_eq_true, if_true, if_false, Bool.and_true, Bool.true_and, Bool.false_and, Bool.and_false, Bool.or_true, Bool.true_or, Bool.or_false, Bool.false_or] at q ⊢
                    exact q l
                | _ =>
                  simp only [Bool.not_false, Bool.not_true, Bool.false_eq_true, if_true, if_false, Bool.and_true, Bool.true_and, Bool.false_and, Bool.and_false, Bool.or_true, Bool.true_or, Bool.or_false, Bool.false_or]
                  exact nol fun _ lo e => by cases e
      | _ =>
        simp only [Bool.not_false, Bool.not_true, Bool.false_eq_true, if_true, if_false, Bool.and_true, Bool.true_and, Bool.false_and, Bool.and_false, Bool.or_true, Bool.true_or, Bool.or_false, Bool.false_or]
        exact no fun k r' l e _ _ => by cases e
    · rw [show (!((((items.length : Nat) : Int)) == 2)) = true by
        rw [Bool.not_eq_true', beq_eq_false_iff_ne]
        omega]
      simp only [Bool.not_false, Bool.not_true, Bool.false_eq_true, if_true, if_false, Bool.and_true, Bool.true_and, Bool.false_and, Bool.and_false, Bool.or_true, Bool.true_or, Bool.or_false, Bool.false_or]
      exact no fun k r' l e _ _ => by
        injection e with e
        rw [e] at h2
        exact h2 rfl
  | _ =>
    simp only [Bool.not_false, Bool.not_true, Bool.false_eq_true, if_true, if_false, Bool.and_true, Bool.true_and, Bool.false_and, Bool.and_false, Bool.or_true, Bool.true_or, Bool.or_false, Bool.false_or]
    exact no fun k r' l e _ _ => by cases e
end Mn

set_option Elab.async false
set_option linter.all false
set_option maxRecDepth 100000
set_option maxHeartbeats 4000000
/-! Mn: the trees that 46 laws draw. -/
namespace Mn
open PySem PySem.Spec PyProof.Rows L2
/-- _law_leaf -/
def g_w_leaf (c_w_of : F) : F := mDef 2 3 (sSeq (sSet 2 (mCB c_w_of (aCons (mVar 0) (aCons (mBin fAdd (mVar 1) (mLst (aCons (mC (.str "0")) (aCons (mC (.str "7")) (aCons (mC (.str "41")) aNil))))) aNil))))
  (sRet (mIf (tVal (mBin fIn (mBin fIx (mVar 2) (mC (.int 0))) (mC (.str "0123456789")))) (mTup (aCons (mTup (aCons (mC (.str "number")) (aCons (mVar 2) aNil))) (aCons (mTup aNil) aNil))) (mTup (aCons (mTup (aCons (mC (.str "name")) (aCons (mVar 2) aNil))) (aCons (mTup aNil) aNil))))))
/-- _law_term -/
def g_w_term (c_w_take : F) (c_w_leaf : F) (c_w_of : F) (c_w_row_of : F) (c_w_e : F) : F := mDef 3 4 (sSeq (sSet 3 (mIf (tVal (mBin fGt (mVar 1) (mC (.int 0)))) (mCB c_w_take (aCons (mVar 0) (aCons (mC (.int 8)) aNil))) (mC (.int 0))))
  (sSeq (sIf (tVal (mBin fLt (mVar 3) (mC (.int 3)))) (sRet (mCB c_w_leaf (aCons (mVar 0) (aCons (mVar 2) aNil)))) sNil)
  (sSeq (sIf (tVal (mBin fLt (mVar 3) (mC (.int 6)))) (sRet (mTup (aCons (mTup (aCons (mC (.str "call")) (aCons (mCB c_w_of (aCons (mVar 0) (aCons (mVar 2) aNil))) aNil))) (aCons (mTup (aCons (mCB c_w_row_of (aCons (mVar 0) (aCons (mBin fSub (mVar 1) (mC (.int 1))) (aCons (mVar 2) aNil)))) aNil)) aNil)))) sNil)
  (sSeq (sIf (tVal (mBin fEq (mVar 3) (mC (.int 6)))) (sRet (mTup (aCons (mTup (aCons (mC (.str "list")) aNil)) (aCons (mTup (aCons (mCB c_w_row_of (aCons (mVar 0) (aCons (mBin fSub (mVar 1) (mC (.int 1))) (aCons (mVar 2) aNil)))) aNil)) aNil)))) sNil)
  (sRet (mTup (aCons (mTup (aCons (mC (.str "in")) aNil)) (aCons (mTup (aCons (mTup (aCons (mCB c_w_e (aCons (mVar 0) (aCons (mBin fSub (mVar 1) (mC (.int 1))) (aCons (mVar 2) aNil)))) aNil)) aNil)) aNil))))))))
/-- _law_e -/
def g_w_e (c_w_take : F) (c_w_term : F) (c_w_of : F) : F := mDef 3 5 (sSeq (sIf (tOr (tVal (mBin fLt (mVar 1) (mC (.int 1)))) (tVal (mBin fGt (mCB c_w_take (aCons (mVar 0) (aCons (mC (.int 3)) aNil))) (mC (.int 0))))) (sRet (mCB c_w_term (aCons (mVar 0) (aCons (mVar 1) (aCons (mVar 2) aNil))))) sNil)
  (sSeq (sSet 3 (mLst (aCons (mTup (aCons (mTup (aCons (mC (.str "plus")) aNil)) (aCons (mTup (aCons (mTup (aCons (mCB c_w_term (aCons (mVar 0) (aCons (mBin fSub (mVar 1) (mC (.int 1))) (aCons (mVar 2) aNil)))) aNil)) aNil)) aNil))) aNil)))
  (sSeq (sFor (iRange1 (aCons (mBin fAdd (mC (.int 1)) (mCB c_w_take (aCons (mVar 0) (aCons (mC (.int 3)) aNil)))) aNil)) (.nm 4) (sDrop (mMt "list" fAppend (mVar 3) (aCons (mTup (aCons (mTup (aCons (mCB c_w_of (aCons (mVar 0) (aCons (mLst (aCons (mC (.str "plus")) (aCons (mC (.str "minus")) aNil))) aNil))) aNil)) (aCons (mTup (aCons (mTup (aCons (mCB c_w_term (aCons (mVar 0) (aCons (mBin fSub (mVar 1) (mC (.int 1))) (aCons (mVar 2) aNil)))) aNil)) aNil)) aNil))) aNil))))
  (sRet (mTup (aCons (mTup (aCons (mC (.str "sum")) aNil)) (aCons (mTup (aCons (mCB cTuple (aCons (mVar 3) aNil)) aNil)) aNil)))))))
/-- _law_row_of -/
def g_w_row_of (c_w_take : F) (c_w_e : F) : F := mDef 3 4 (sRet (mCB cTuple (aCons (mComp (iRange1 (aCons (mCB c_w_take (aCons (mVar 0) (aCons (mC (.int 4)) aNil))) aNil)) (.nm 3) tYesM (mCB c_w_e (aCons (mVar 0) (aCons (mVar 1) (aCons (mVar 2) aNil)))) [3]) aNil)))
/-- _law_statement -/
def g_w_statement (c_w_take : F) (c_w_of : F) (c_w_e : F) (c_w_row_of : F) (c_w_block : F) : F := mDef 3 7 (sSeq (sSet 3 (mIf (tVal (mBin fGt (mVar 1) (mC (.int 1)))) (mCB c_w_take (aCons (mVar 0) (aCons (mC (.int 12)) aNil))) (mCB c_w_take (aCons (mVar 0) (aCons (mC (.int 8)) aNil)))))
  (sSeq (sIf (tVal (mBin fLt (mVar 3) (mC (.int 3)))) (sRet (mTup (aCons (mTup (aCons (mC (.str "set")) (aCons (mCB c_w_of (aCons (mVar 0) (aCons (mVar 2) aNil))) aNil))) (aCons (mTup (aCons (mTup (aCons (mCB c_w_e (aCons (mVar 0) (aCons (mCB cMin (aCons (mVar 1) (aCons (mC (.int 3)) aNil))) (aCons (mVar 2) aNil)))) aNil)) aNil)) aNil)))) sNil)
  (sSeq (sIf (tVal (mBin fLt (mVar 3) (mC (.int 6)))) (sRet (mTup (aCons (mTup (aCons (mC (.str "run")) (aCons (mCB c_w_of (aCons (mVar 0) (aCons (mVar 2) aNil))) aNil))) (aCons (mTup (aCons (mCB c_w_row_of (aCons (mVar 0) (aCons (mCB cMin (aCons (mVar 1) (aCons (mC (.int 2)) aNil))) (aCons (mVar 2) aNil)))) aNil)) aNil)))) sNil)
  (sSeq (sIf (tVal (mBin fEq (mVar 3) (mC (.int 6)))) (sRet (mTup (aCons (mTup (aCons (mC (.str "give")) aNil)) (aCons (mTup (aCons (mTup (aCons (mCB c_w_e (aCons (mVar 0) (aCons (mCB cMin (aCons (mVar 1) (aCons (mC (.int 2)) aNil))) (aCons (mVar 2) aNil)))) aNil)) aNil)) aNil)))) sNil)
  (sSeq (sIf (tVal (mBin fEq (mVar 3) (mC (.int 7)))) (sRet (mTup (aCons (mTup (aCons (mC (.str "note")) (aCons (mCB c_w_of (aCons (mVar 0) (aCons (mLst (aCons (mC (.str "")) (aCons (mC (.str "a")) (aCons (mC (.str "see 7")) (aCons (mC (.str "old rows")) aNil))))) aNil))) aNil))) (aCons (mTup aNil) aNil)))) sNil)
  (sSeq (sPar 5 6 (aCons (mTup (aCons (mCB c_w_e (aCons (mVar 0) (aCons (mCB cMin (aCons (mBin fSub (mVar 1) (mC (.int 1))) (aCons (mC (.int 2)) aNil))) (aCons (mVar 2) aNil)))) aNil)) (aCons (mCB c_w_block (aCons (mVar 0) (aCons (mC (.int 3)) (aCons (mBin fSub (mVar 1) (mC (.int 2))) (aCons (mVar 2) aNil))))) aNil)))
  (sSeq (sIf (tVal (mBin fLt (mVar 3) (mC (.int 10)))) (sRet (mTup (aCons (mTup (aCons (mC (.str "loop")) aNil)) (aCons (mTup (aCons (mVar 5) (aCons (mVar 6) aNil))) aNil)))) sNil)
  (sSeq (sSet 4 (mIf (tVal (mBin fEq (mVar 3) (mC (.int 11)))) (mTup (aCons (mTup (aCons (mTup (aCons (mC (.str "else")) aNil)) (aCons (mTup (aCons (mCB c_w_block (aCons (mVar 0) (aCons (mC (.int 2)) (aCons (mBin fSub (mVar 1) (mC (.int 2))) (aCons (mVar 2) aNil))))) aNil)) aNil))) aNil)) (mTup aNil)))
  (sRet (mTup (aCons (mTup (aCons (mC (.str "if")) aNil)) (aCons (mTup (aCons (mVar 5) (aCons (mVar 6) (aCons (mVar 4) aNil)))) aNil))))))))))))
/-- _law_block -/
def g_w_block (c_w_take : F) (c_w_statement : F) : F := mDef 4 5 (sRet (mCB cTuple (aCons (mComp (iRange1 (aCons (mCB c_w_take (aCons (mVar 0) (aCons (mBin fAdd (mVar 1) (mC (.int 1))) aNil))) aNil)) (.nm 4) tYesM (mCB c_w_statement (aCons (mVar 0) (aCons (mVar 2) (aCons (mVar 3) aNil)))) [4]) aNil)))
/-- _law_vocab -/
def g_w_vocab (c_w_of : F) : F := mDef 1 1 (sRet (mCB c_w_of (aCons (mVar 0) (aCons (mLst (aCons (mLst (aCons (mC (.str "a")) (aCons (mC (.str "b")) (aCons (mC (.str "go")) aNil)))) (aCons (mLst (aCons (mC (.str "total")) (aCons (mC (.str "x")) (aCons (mC (.str "max")) (aCons (mC (.str "sumof")) aNil))))) (aCons (mLst (aCons (mC (.str "f")) (aCons (mC (.str "count")) (aCons (mC (.str "elsewher")) (aCons (mC (.str "iff")) aNil))))) aNil)))) aNil))))
/-- _law_most -/
def g_w_most (c_w_most : F) : F := mDef 1 4 (sSeq (sSet 1 (mC (.int 0)))
  (sSeq (sFor (iVal (mVar 0)) (.nm 2) (sSeq (sSet 1 (mBin fAdd (mVar 1) (mIf (tVal (mBin fIn (mBin fIx (mBin fIx (mVar 2) (mC (.int 0))) (mC (.int 0))) (mTup (aCons (mC (.str "if")) (aCons (mC (.str "loop")) (aCons (mC (.str "else")) aNil)))))) (mC (.int 3)) (mC (.int 2)))))
  (sFor (iVal (mBin fIx (mVar 2) (mC (.int 1)))) (.nm 3) (sSet 1 (mBin fAdd (mVar 1) (mCB c_w_most (aCons (mVar 3) aNil)))))))
  (sRet (mVar 1))))
/-- _law_grove -/
def g_w_grove (c_w_take : F) (c_w_statement : F) (c_w_most : F) : F := mDef 4 7 (sSeq (sSet 4 (mTup aNil))
  (sSeq (sFor (iRange1 (aCons (mCB c_w_take (aCons (mVar 0) (aCons (mBin fAdd (mVar 1) (mC (.int 1))) aNil))) aNil)) (.nm 5) (sSeq (sSet 6 (mBin fAdd (mVar 4) (mTup (aCons (mCB c_w_statement (aCons (mVar 0) (aCons (mVar 2) (aCons (mVar 3) aNil)))) aNil))))
  (sSet 4 (mIf (tVal (mBin fLt (mCB c_w_most (aCons (mVar 6) aNil)) (mC (.int 58)))) (mVar 6) (mVar 4)))))
  (sRet (mVar 4))))

/-! ### parts by their lots -/
theorem part_mk {n : Nat} {kinds : List Str} {k : Str} {r lots : List D} (h1 : isIn (.str k) kinds = true) (h2 : labB k r = true) (h3 : lots.length = (sortsOf k).length) (h4 : ∀ q ∈ List.zip lots (sortsOf k), lotS (partB n) q.2 q.1 = true) : partB (n + 1) kinds (.tup [.tup (.str k :: r), .tup lots]) = true := by
  show (isIn (.str k) kinds && (labB k r && (decide (lots.length = (sortsOf k).length) && (List.zip lots (sortsOf k)).all fun q => lotS (partB n) q.2 q.1))) = true
  rw [h1, h2, decide_eq_true h3, List.all_eq_true.mpr h4]
  rfl
theorem lot_mk {n : Nat} {s : Str} {items : List D} (h1 : (formOf s).least ≤ items.length) (h2 : mostOk (formOf s).most items.length = true) (h3 : ∀ d ∈ items, partB n (formOf s).kinds d = true) (h4 : s = "terms with signs" → plus1 items = true) : lotS (partB n) s (.tup items) = true := by
  show (decide ((formOf s).least ≤ items.length) && (mostOk (formOf s).most items.length && (items.all (partB n (formOf s).kinds) && (!(decide (s = "terms with signs")) || plus1 items)))) = true
  rw [decide_eq_true h1, h2, List.all_eq_true.mpr h3]
  by_cases z : s = "terms with signs"
  · rw [h4 z, Bool.or_true]; rfl
  · rw [decide_eq_false z]; rfl
theorem isIn_sub {d : D} {a b : List Str} (h : ∀ k ∈ a, k ∈ b) (hd : isIn d a = true) : isIn d b = true := by
  obtain ⟨k, hk, e⟩ := isIn_str hd
  exact List.any_eq_true.mpr ⟨k, h k hk, decide_eq_true e⟩
theorem part_sub {n : Nat} {a b : List Str} {d : D} (h : ∀ k ∈ a, k ∈ b) (hd : partB n a d = true) : partB n b d = true := by
  cases n with
  | zero => cases hd
  | succ n =>
    unfold partB at hd
    split at hd
    · rename_i n' kinds k r lots hn
      injection hn with hn
      subst hn
      rw [Bool.and_eq_true] at hd
      show (isIn (.str k) b && _) = true
      rw [isIn_sub h hd.1, hd.2]
      rfl
    · cases hd
/-- drawn: data without lists, of bounded size, a part of these kinds -/
structure Dr (kinds : List Str) (g W h : Nat) (d : D) : Prop where
  vl : ∀ p S, Vl p 0 8 W h S d
  ok : ∀ n, g ≤ n → partB n kinds d = true
theorem Dr.le {kinds kinds' : List Str} {g W h g' W' h' : Nat} {d : D} (x : Dr kinds g W h d) (hk : ∀ k ∈ kinds, k ∈ kinds') (a : g ≤ g') (b : W ≤ W') (c : h ≤ h') : Dr kinds' g' W' h' d :=
  ⟨fun p S => (x.vl p S).le (Nat.le_refl _) (Nat.le_refl _) b c, fun n hn => part_sub hk (x.ok n (Nat.le_trans a hn))⟩
/-- words of a vocabulary -/
def Wd (x : Str) : Prop := nameB x = true ∧ x.length ≤ 8 ∧ (x.cps.toList.all fun c => decide (c < 128)) = true
theorem vl_str {p S} {x : Str} (h : (x.cps.toList.all fun c => decide (c < 128)) = true) : Vl p 0 8 x.length 0 S (.str x) := ⟨.str x, rfl, h, Nat.le_refl _, Nat.le_refl _⟩
theorem vl_two {p S} {a b : D} {W1 W2 h1 h2 : Nat} (x : Vl p 0 8 W1 h1 S a) (y : Vl p 0 8 W2 h2 S b) : Vl p 0 8 (W1 + W2 + 2) (max h1 h2 + 1) S (.tup [a, b]) :=
  ((Vls.cons x (Vls.cons y Vls.nil)).le (Nat.le_refl _) (Nat.le_refl _) (by omega) (by omega)).tup (by show 2 ≤ 8; decide)
theorem vl_one {p S} {a : D} {W1 h1 : Nat} (x : Vl p 0 8 W1 h1 S a) : Vl p 0 8 (W1 + 1) (h1 + 1) S (.tup [a]) :=
  ((Vls.cons x Vls.nil).le (Nat.le_refl _) (Nat.le_refl _) (by omega) (by omega)).tup (by show 1 ≤ 8; decide)
theorem vl_nil {p S} : Vl p 0 8 0 1 S (.tup []) := Vls.nil.tup (by show 0 ≤ 8; decide)
theorem at_app {S : Sto} {q : Nat} {o : Ob} (h : S[q]? = some o) (l : List Ob) : (S ++ l)[q]? = some o := by
  rw [List.getElem?_append_left (List.getElem?_eq_some_iff.mp h).1]
  exact h
/-- a leaf -/
theorem leaf_dr {x : Str} (h : Wd x) : Dr kTerms 1 18 2 (.tup [.tup [.str "name", .str x], .tup []]) := by
  refine ⟨fun p S => ?_, fun n hn => ?_⟩
  · have a := vl_two (vl_two (p := p) (S := S) (vl_str (x := "name") (by decide +kernel)) (vl_str h.2.2)) vl_nil
    have := h.2.1
    exact a.le (Nat.le_refl _) (Nat.le_refl _) (by show 4 + x.length + 2 + 0 + 2 ≤ 18; omega) (by decide)
  · obtain ⟨m, rfl⟩ : ∃ m, n = m + 1 := ⟨n - 1, by omega⟩
    exact part_mk (by decide +kernel) (by show nameB x = true; exact h.1) rfl (fun q hq => by cases hq)
theorem leafN_dr {x : Str} (h : numB x = true) (hl : x.length ≤ 6) (ha : (x.cps.toList.all fun c => decide (c < 128)) = true) : Dr kTerms 1 18 2 (.tup [.tup [.str "number", .str x], .tup []]) := by
  refine ⟨fun p S => ?_, fun n hn => ?_⟩
  · have a := vl_two (vl_two (p := p) (S := S) (vl_str (x := "number") (by decide +kernel)) (vl_str ha)) vl_nil
    exact a.le (Nat.le_refl _) (Nat.le_refl _) (by show 6 + x.length + 2 + 0 + 2 ≤ 18; omega) (by decide)
  · obtain ⟨m, rfl⟩ : ∃ m, n = m + 1 := ⟨n - 1, by omega⟩
    exact part_mk (by decide +kernel) (by show numB x = true; exact h) rfl (fun q hq => by cases hq)
theorem name_first {x : Str} (h : nameB x = true) : ∃ c, atI x.cps.toList 0 = some c ∧ inS ⟨#[c]⟩ "0123456789" = false := by
  unfold nameB at h
  rw [Bool.and_eq_true, Bool.and_eq_true, Bool.and_eq_true] at h
  obtain ⟨c, e1, e2⟩ := head_at (of_decide_eq_true h.1)
  refine ⟨c, e1, ?_⟩
  have hc : c ∈ x.cps.toList := by
    cases hx : x.cps.toList with
    | nil => rw [hx] at e2; cases e2
    | cons a r =>
      rw [hx] at e2
      injection e2 with e2
      rw [e2]
      exact List.mem_cons_self
  have hl := of_decide_eq_true (List.all_eq_true.mp h.2.2.1 c hc)
  have all : (("abcdefghijklmnopqrstuvwxyz" : Str).cps.toList.all fun c => !(inS ⟨#[c]⟩ "0123456789")) = true := by decide +kernel
  have := List.all_eq_true.mp all c hl
  rw [Bool.not_eq_true'] at this
  exact this
/-- a vocabulary at n -/
def Voc (n : Nat) (ws : List Str) (p : Nat) (S : Sto) : Prop := S[n]? = some (.lst (ws.map .str)) ∧ n ≠ p ∧ (∀ x ∈ ws, Wd x) ∧ 0 < ws.length ∧ ws.length < 100
theorem Voc.ext {n p : Nat} {ws : List Str} {S S' : Sto} (v : Voc n ws p S) (x : Ext p S S') : Voc n ws p S' := ⟨x.at_ v.1 v.2.1, v.2⟩
theorem leaf_wp {p n : Nat} {c : Int} {ws : List Str} {S : Sto} {Q : D → Sto → Prop} (h : Pot p c S) (hc : c < 2 ^ 40) (v : Voc n ws p S) (q : ∀ d S', Ext p S S' → Pot p (c + 1) S' → Dr kTerms 1 18 2 d → Q d S') : (g_w_leaf (fOf fTake) [.ref p, .ref n] S).wp Q := by
  have sl : ∀ n : Nat, n ≤ 200 → n ≤ sizeLine := fun n h => by rw [sizeLine_eq]; omega
  obtain ⟨hv, np, hw, h0, h1⟩ := v
  unfold g_w_leaf
  refine w_def rfl ?_
  simp only [s_nil, s_seq, s_drop, s_ret, s_set, s_if, s_par, s_put, s_for, w_var, w_c, w_bin, w_un, w_nil, w_cons, w_cb, w_tup, w_lst, w_val, w_tnot, w_tand, w_tor, w_and, w_or, w_not, w_if, w_chain, w_isi, w_mt, w_tab, w_onone, w_osome, w_sl, List.map_cons, List.map_nil, List.length_cons, List.length_nil, List.cons_append, List.nil_append, List.getElem?_cons_zero, List.getElem?_cons_succ, List.set_cons_zero, List.set_cons_succ, List.reduceReplicate, Nat.reduceAdd, Nat.reduceSub]
  refine ⟨sl _ (by decide), ?_⟩
  have hl := h.lt
  have hnl := (List.getElem?_eq_some_iff.mp hv).1
  rw [w_addL (at_app hv _) List.getElem?_concat_length]
  refine ⟨sl _ (by rw [List.length_map]; simp only [List.length_cons, List.length_nil]; omega), ?_⟩
  refine of_wp (ds := ws.map .str ++ [.str "0", .str "7", .str "41"]) ((h.app _).app _) hc List.getElem?_concat_length (by rw [List.length_append]; omega) (by rw [List.length_append]; simp) (by rw [List.length_append, List.length_map]; simp only [List.length_cons, List.length_nil]; omega) fun d S' hd x hp => ?_
  have xx : Ext p S S' := (((Ext.refl p S).app _).app _).trans x
  have s3 : ∀ a b : D, ([a, b].length ≤ sizeLine) := fun _ _ => sl 2 (by decide)
  rcases List.mem_append.mp hd with hd | hd
  · obtain ⟨y, hy, rfl⟩ := List.mem_map.mp hd
    have wy := hw y hy
    obtain ⟨ch, e1, e2⟩ := name_first wy.1
    rw [w_ixS]
    refine ⟨sl _ (by have := wy.2.1; omega), ch, e1, ?_⟩
    rw [w_in (b := inS ⟨#[ch]⟩ "0123456789") rfl, e2]
    refine ⟨_, rfl, ?_⟩
    simp only [Bool.not_false, Bool.not_true, Bool.false_eq_true, if_true, if_false, Bool.and_true, Bool.true_and, Bool.false_and, Bool.and_false, Bool.or_true, Bool.true_or, Bool.or_false, Bool.false_or]
    exact ⟨sl _ (by decide), sl _ (by decide), sl _ (by decide), q _ _ xx hp (leaf_dr wy)⟩
  · have key : ∀ y : Str, numB y = true → y.length ≤ 6 → (y.cps.toList.all fun c => decide (c < 128)) = true → (∃ ch, atI y.cps.toList 0 = some ch ∧ inS ⟨#[ch]⟩ "0123456789" = true) → d = .str y → (match d with | .str _ => True | _ => True) → (fIx d (.int 0) S').wp fun x S_1 => (fIn x (.str "0123456789") S_1).wp fun d_1 S_2 => ∃ x, d_1 = .bl x ∧ if x = true then [D.str "number", d].length ≤ sizeLine ∧ ([] : List D).length ≤ sizeLine ∧ [D.tup [.str "number", d], .tup []].length ≤ sizeLine ∧ Q (.tup [.tup [.str "number", d], .tup []]) S_2 else [D.str "name", d].length ≤ sizeLine ∧ ([] : List D).length ≤ sizeLine ∧ [D.tup [.str "name", d], .tup []].length ≤ sizeLine ∧ Q (.tup [.tup [.str "name", d], .tup []]) S_2 := by
      intro y k1 k2 k3 ⟨ch, k4, k5⟩ e _
      subst e
      rw [w_ixS]
      refine ⟨sl _ (by omega), ch, k4, ?_⟩
      rw [w_in (b := inS ⟨#[ch]⟩ "0123456789") rfl, k5]
      refine ⟨_, rfl, ?_⟩
      simp only [if_true]
      exact ⟨sl 2 (by decide), sl 0 (by decide), sl 2 (by decide), q _ _ xx hp (leafN_dr k1 k2 k3)⟩
    have fin : (fIx d (.int 0) S').wp fun x S_1 => (fIn x (.str "0123456789") S_1).wp fun d_1 S_2 => ∃ x, d_1 = .bl x ∧ if x = true then [D.str "number", d].length ≤ sizeLine ∧ ([] : List D).length ≤ sizeLine ∧ [D.tup [.str "number", d], .tup []].length ≤ sizeLine ∧ Q (.tup [.tup [.str "number", d], .tup []]) S_2 else [D.str "name", d].length ≤ sizeLine ∧ ([] : List D).length ≤ sizeLine ∧ [D.tup [.str "name", d], .tup []].length ≤ sizeLine ∧ Q (.tup [.tup [.str "name", d], .tup []]) S_2 := by
      simp only [List.mem_cons, List.not_mem_nil, or_false] at hd
      rcases hd with e | e | e
      · exact key "0" (by decide +kernel) (by decide +kernel) (by decide +kernel) ⟨48, by decide +kernel, by decide +kernel⟩ e (by subst e; trivial)
      · exact key "7" (by decide +kernel) (by decide +kernel) (by decide +kernel) ⟨55, by decide +kernel, by decide +kernel⟩ e (by subst e; trivial)
      · exact key "41" (by decide +kernel) (by decide +kernel) (by decide +kernel) ⟨52, by decide +kernel, by decide +kernel⟩ e (by subst e; trivial)
    exact fin
/-- weights, takes -/
def Bw : Nat → Nat
  | 0 => 18
  | d + 1 => 4 * Bw d + 60
def Ct : Nat → Nat
  | 0 => 1
  | d + 1 => 12 * Ct d + 18
def Ce (d : Nat) : Nat := 4 * Ct d + 5
def GenOk (kinds : List Str) (d C : Nat) (f : F) : Prop := ∀ (p n : Nat) (c : Int) (ws : List Str) (S : Sto) (Q : D → Sto → Prop), Pot p c S → c + (C : Nat) < 2 ^ 40 → Voc n ws p S → (∀ r S', Ext p S S' → Pot p (c + (C : Nat)) S' → Dr kinds (2 * d + 1) (Bw d) (6 * d + 2) r → Q r S') → (f [.ref p, .int (d : Nat), .ref n] S).wp Q
/-- drawn lists -/
structure DrL (kinds : List Str) (g W h : Nat) (ds : List D) : Prop where
  vl : ∀ p S, Vls p 0 8 W h S ds
  ok : ∀ d ∈ ds, ∀ n, g ≤ n → partB n kinds d = true
theorem DrL.nil {kinds : List Str} {g h : Nat} : DrL kinds g 0 h [] := ⟨fun p S => Vls.nil.le (Nat.le_refl _) (Nat.le_refl _) (Nat.le_refl _) (Nat.zero_le _), fun d h => by cases h⟩
theorem DrL.snoc {kinds : List Str} {g W W' h : Nat} {ds : List D} {d : D} (a : DrL kinds g W h ds) (b : Dr kinds g W' h d) : DrL kinds g (W + (W' + 1)) h (ds ++ [d]) :=
  ⟨fun p S => (a.vl p S).append ((Vls.cons (b.vl p S) Vls.nil).le (Nat.le_refl _) (Nat.le_refl _) (by omega) (by omega)), fun x hx => by
    rcases List.mem_append.mp hx with h | h
    · exact a.ok x h
    · rw [List.mem_singleton.mp h]; exact b.ok⟩
def RowOk (d C : Nat) (f : F) : Prop := ∀ (p n : Nat) (c : Int) (ws : List Str) (S : Sto) (Q : D → Sto → Prop), Pot p c S → c + (C : Nat) < 2 ^ 40 → Voc n ws p S → (∀ (items : List D) S', Ext p S S' → Pot p (c + (C : Nat)) S' → DrL kExprs (2 * d + 1) (3 * (Bw d + 1)) (6 * d + 2) items → items.length ≤ 3 → Q (.tup items) S') → (f [.ref p, .int (d : Nat), .ref n] S).wp Q
/-- tuple([f(..) for lap in range(take(..))]) -/
theorem rowc_wp {p m : Nat} {c : Int} {C : Nat} {S0 S : Sto} {ρ : En} {i : Nat} {elt : M} {r : Int} {Q : D → Sto → Prop} (I : List D → Prop) (h0 : I []) (hr0 : 0 ≤ r) (hr : r ≤ (m : Nat)) (hm : m ≤ 100) (hi : Pot p c S) (x0 : Ext p S0 S)
    (he : ∀ (k : Nat) (d : D) (S' : Sto) (acc : List D) (Q' : D → Sto → Prop), k < m → Ext p S0 S' → Pot p (c + (k : Nat) * (C : Nat)) S' → I acc → acc.length = k → (∀ y S'', Ext p S' S'' → Pot p (c + ((k + 1 : Nat) : Int) * (C : Nat)) S'' → I (acc ++ [y]) → Q' y S'') → (elt ((wipeE ρ [i]).set i (some d)) S').wp Q')
    (q : ∀ items S', I items → items.length ≤ m → Ext p S0 S' → Pot p (c + (m : Nat) * (C : Nat)) S' → Q (.tup items) S') :
    (mCompL (.nm i) tYesM elt always S.length (wipeE ρ [i]) ((List.range r.toNat).map fun i => D.int (0 + (i : Nat))) (S ++ [.lst []])).wp fun x S => (cTuple [x] S).wp Q := by
  have hp0 := hi.lt
  have hlen : S0.length ≤ S.length := x0.1
  refine comp_wp (I := fun l acc S' => Ext p S0 S' ∧ S.length ≤ S'.length ∧ Pot p (c + (acc.length : Nat) * (C : Nat)) S' ∧ I acc ∧ acc.length + l.length = r.toNat) (fun _ _ _ _ => rfl) (fun d l acc S' => ?_) (fun acc S' => ?_) _ [] _ ⟨x0.app _, by rw [List.length_append]; omega, by
      have := hi.app [.lst []]
      simpa using this, h0, by simp⟩ List.getElem?_concat_length
  · rintro ⟨x, hl, hp, ha, hn⟩ hs
    refine ⟨_, rfl, ?_⟩
    rw [List.length_cons] at hn
    refine he acc.length d S' acc _ (by omega) x hp ha rfl fun y S'' x2 hp2 ha2 => ⟨x2.at_ hs (by omega), ?_, ?_, ?_, ?_, ha2, ?_⟩
    · have : acc.length < 100 := by omega
      rw [sizeLine_eq]
      omega
    · exact (x.trans x2).set (by omega) _
    · rw [List.length_set]
      exact Nat.le_trans hl x2.1
    · rw [List.length_append, List.length_singleton]
      exact hp2.set (by omega) _
    · rw [List.length_append, List.length_singleton]
      omega
  · rintro ⟨x, hl, hp, ha, hn⟩ hs
    rw [w_tupL hs]
    rw [List.length_nil] at hn
    have hle : acc.length ≤ m := by omega
    refine q acc S' ha hle x (hp.le ?_)
    have : ((acc.length : Nat) : Int) * (C : Nat) ≤ (m : Nat) * (C : Nat) := Int.mul_le_mul_of_nonneg_right (by omega) (by omega)
    omega
theorem row_of {d : Nat} {e : F} (E : GenOk kExprs d (Ce d) e) : RowOk d (1 + 3 * Ce d) (g_w_row_of fTake e) := by
  intro p n c ws S Q h hc v q
  unfold g_w_row_of
  refine w_def rfl ?_
  rw [s_ret, w_cb, w_cons]
  refine w_comp rfl ?_
  rw [i_range1]
  simp only [w_cb, w_cons, w_nil, w_var, w_c, List.map_cons, List.map_nil, List.length_cons, List.length_nil, List.cons_append, List.nil_append, List.getElem?_cons_zero, List.getElem?_cons_succ, List.reduceReplicate, Nat.reduceAdd, Nat.reduceSub]
  refine take_wp h (by omega) (by decide) (by decide) fun r S1 r0 r1 x1 h1 => ⟨r, rfl, by unfold smallI; rw [decide_eq_true (by omega), decide_eq_true (by omega)]; rfl, ?_⟩
  refine rowc_wp (m := 3) (C := Ce d) (c := c + 1) (fun acc => DrL kExprs (2 * d + 1) (acc.length * (Bw d + 1)) (6 * d + 2) acc) (by rw [List.length_nil, Nat.zero_mul]; exact DrL.nil) r0 (by omega) (by decide) h1 x1 (fun k d' S' acc Q' hk x hp ha hl q' => ?_) (fun items S' hi hl x hp => ?_)
  · simp only [w_cb, w_cons, w_nil, w_var, w_c, wipeE, List.map_cons, List.map_nil, List.length_cons, List.length_nil, List.cons_append, List.nil_append, List.getElem?_cons_zero, List.getElem?_cons_succ, List.set_cons_zero, List.set_cons_succ]
    have hk3 : k ≤ 2 := by omega
    have hb : ((k : Nat) : Int) * (Ce d : Nat) ≤ 2 * (Ce d : Nat) := Int.mul_le_mul_of_nonneg_right (by omega) (by omega)
    refine E p n _ ws S' Q' hp (by push_cast at hc ⊢; omega) (v.ext x) fun y S'' x2 hp2 dr => q' y S'' x2 (hp2.le ?_) ?_
    · push_cast
      rw [Int.add_mul, Int.one_mul]
      omega
    · have := ha.snoc dr
      refine ⟨fun p S => (this.vl p S).le (Nat.le_refl _) (Nat.le_refl _) ?_ (Nat.le_refl _), this.ok⟩
      rw [List.length_append, List.length_singleton, Nat.add_mul, Nat.one_mul]
      omega
  · refine q items S' x (hp.le (by push_cast; omega)) ⟨fun p S => (hi.vl p S).le (Nat.le_refl _) (Nat.le_refl _) (Nat.mul_le_mul_right _ hl) (Nat.le_refl _), hi.ok⟩ hl
theorem sub_nat (d : Nat) : (((d + 1 : Nat) : Int) - 1) = (d : Nat) := by omega
theorem term_zero {of row e : F} : GenOk kTerms 0 (Ct 0) (g_w_term fTake (g_w_leaf (fOf fTake)) of row e) := by
  intro p n c ws S Q h hc v q
  unfold g_w_term
  refine w_def rfl ?_
  rw [s_seq, s_set]
  simp only [w_if, w_val, w_bin, w_cb, w_cons, w_nil, w_var, w_c, List.map_cons, List.map_nil, List.length_cons, List.length_nil, List.cons_append, List.nil_append, List.getElem?_cons_zero, List.getElem?_cons_succ, List.set_cons_zero, List.set_cons_succ, List.reduceReplicate, Nat.reduceAdd, Nat.reduceSub]
  rw [w_fI]
  refine ⟨rfl, _, rfl, ?_⟩
  rw [if_neg (by decide), s_seq, s_if]
  simp only [w_if, w_val, w_bin, w_cb, w_cons, w_nil, w_var, w_c, s_ret, List.getElem?_cons_zero, List.getElem?_cons_succ]
  rw [w_fI]
  refine ⟨rfl, _, rfl, ?_⟩
  rw [if_pos (by decide)]
  exact leaf_wp h (by unfold Ct at hc; omega) v fun r S' x hp dr => q r S' x hp dr
/-- what a lot's items are for -/
theorem call_dr {d : Nat} {x : Str} {items : List D} (hx : Wd x) (a : DrL kExprs (2 * d + 1) (3 * (Bw d + 1)) (6 * d + 2) items) (hl : items.length ≤ 3) : Dr kTerms (2 * (d + 1) + 1) (Bw (d + 1)) (6 * (d + 1) + 2) (.tup [.tup [.str "call", .str x], .tup [.tup items]]) := by
  refine ⟨fun p S => ?_, fun n hn => ?_⟩
  · have b := vl_two (vl_two (p := p) (S := S) (vl_str (x := "call") (by decide +kernel)) (vl_str hx.2.2)) (vl_one ((a.vl p S).tup (by omega)))
    have := hx.2.1
    refine b.le (Nat.le_refl _) (Nat.le_refl _) ?_ (by omega)
    show 4 + x.length + 2 + (3 * (Bw d + 1) + 1) + 2 ≤ 4 * Bw d + 60
    omega
  · obtain ⟨m, rfl⟩ : ∃ m, n = m + 1 := ⟨n - 1, by omega⟩
    refine part_mk (by decide +kernel) (by show nameB x = true; exact hx.1) rfl fun q hq => ?_
    have hq : q ∈ [(D.tup items, ("E's" : Str))] := hq
    rw [List.mem_singleton.mp hq]
    exact lot_mk (Nat.zero_le _) rfl (fun d' hd => a.ok d' hd m (by omega)) (fun z => by cases z)
theorem list_dr {d : Nat} {items : List D} (a : DrL kExprs (2 * d + 1) (3 * (Bw d + 1)) (6 * d + 2) items) (hl : items.length ≤ 3) : Dr kTerms (2 * (d + 1) + 1) (Bw (d + 1)) (6 * (d + 1) + 2) (.tup [.tup [.str "list"], .tup [.tup items]]) := by
  refine ⟨fun p S => ?_, fun n hn => ?_⟩
  · have b := vl_two (vl_one (p := p) (S := S) (vl_str (x := "list") (by decide +kernel))) (vl_one ((a.vl p S).tup (by omega)))
    refine b.le (Nat.le_refl _) (Nat.le_refl _) ?_ (by omega)
    show 4 + 1 + (3 * (Bw d + 1) + 1) + 2 ≤ 4 * Bw d + 60
    omega
  · obtain ⟨m, rfl⟩ : ∃ m, n = m + 1 := ⟨n - 1, by omega⟩
    refine part_mk (by decide +kernel) rfl rfl fun q hq => ?_
    have hq : q ∈ [(D.tup items, ("E's" : Str))] := hq
    rw [List.mem_singleton.mp hq]
    exact lot_mk (Nat.zero_le _) rfl (fun d' hd => a.ok d' hd m (by omega)) (fun z => by cases z)
theorem in_dr {d : Nat} {y : D} (a : Dr kExprs (2 * d + 1) (Bw d) (6 * d + 2) y) : Dr kTerms (2 * (d + 1) + 1) (Bw (d + 1)) (6 * (d + 1) + 2) (.tup [.tup [.str "in"], .tup [.tup [y]]]) := by
  refine ⟨fun p S => ?_, fun n hn => ?_⟩
  · have b := vl_two (vl_one (p := p) (S := S) (vl_str (x := "in") (by decide +kernel))) (vl_one (vl_one (a.vl p S)))
    refine b.le (Nat.le_refl _) (Nat.le_refl _) ?_ (by omega)
    show 2 + 1 + (Bw d + 1 + 1) + 2 ≤ 4 * Bw d + 60
    omega
  · obtain ⟨m, rfl⟩ : ∃ m, n = m + 1 := ⟨n - 1, by omega⟩
    refine part_mk (by decide +kernel) rfl rfl fun q hq => ?_
    have hq : q ∈ [(D.tup [y], ("one E" : Str))] := hq
    rw [List.mem_singleton.mp hq]
    exact lot_mk (Nat.le_refl 1) rfl (fun d' hd => by rw [List.mem_singleton.mp hd]; exact a.ok m (by omega)) (fun z => by cases z)
theorem term_succ {d : Nat} {row e : F} (R : RowOk d (1 + 3 * Ce d) row) (E : GenOk kExprs d (Ce d) e) : GenOk kTerms (d + 1) (Ct (d + 1)) (g_w_term fTake (g_w_leaf (fOf fTake)) (fOf fTake) row e) := by
  intro p n c ws S Q h hc v q
  have sl : ∀ n : Nat, n ≤ 200 → n ≤ sizeLine := fun n h => by rw [sizeLine_eq]; omega
  have ct : Ct (d + 1) = 12 * Ct d + 18 := rfl
  have ce : Ce d = 4 * Ct d + 5 := rfl
  unfold g_w_term
  refine w_def rfl ?_
  rw [s_seq, s_set]
  simp only [w_if, w_val, w_bin, w_cb, w_cons, w_nil, w_var, w_c, List.map_cons, List.map_nil, List.length_cons, List.length_nil, List.cons_append, List.nil_append, List.getElem?_cons_zero, List.getElem?_cons_succ, List.set_cons_zero, List.set_cons_succ, List.reduceReplicate, Nat.reduceAdd, Nat.reduceSub]
  rw [w_fI]
  refine ⟨rfl, _, rfl, ?_⟩
  rw [if_pos (decide_eq_true (by omega))]
  refine take_wp h (by omega) (by decide) (by decide) fun r S1 r0 r1 x1 h1 => ?_
  have v1 := v.ext x1
  rw [s_seq, s_if]
  simp only [w_val, w_bin, w_cb, w_cons, w_nil, w_var, w_c, s_ret, List.getElem?_cons_zero, List.getElem?_cons_succ]
  rw [w_fI]
  refine ⟨rfl, _, rfl, ?_⟩
  by_cases c3 : r < 3
  · rw [if_pos (decide_eq_true c3)]
    exact leaf_wp h1 (by omega) v1 fun y S' x hp dr => q y S' (x1.trans x) (hp.le (by rw [ct]; push_cast; omega)) (dr.le (fun _ h => h) (by omega) (by show 18 ≤ 4 * Bw d + 60; omega) (by omega))
  · rw [if_neg (by rw [decide_eq_false c3]; exact Bool.false_ne_true), s_nil, s_seq, s_if]
    simp only [w_val, w_bin, w_cb, w_cons, w_nil, w_var, w_c, w_tup, s_ret, List.getElem?_cons_zero, List.getElem?_cons_succ]
    rw [w_fI]
    refine ⟨rfl, _, rfl, ?_⟩
    by_cases c6 : r < 6
    · rw [if_pos (decide_eq_true c6)]
      obtain ⟨hv, np, hw, w0, w1⟩ := v1
      refine of_wp h1 (by omega) hv np (by rw [List.length_map]; exact w0) (by rw [List.length_map]; omega) fun y S2 hy x2 h2 => ⟨sl _ (by simp), ?_⟩
      obtain ⟨x, hx, rfl⟩ := List.mem_map.mp hy
      rw [w_fI]
      refine ⟨rfl, ?_⟩
      rw [sub_nat]
      refine R p n _ ws S2 _ h2 (by rw [ct] at hc; push_cast at hc ⊢; omega) ((v.ext x1).ext x2) fun items S3 x3 h3 dl hl => ⟨sl _ (by simp), sl _ (by simp), ?_⟩
      exact q _ S3 ((x1.trans x2).trans x3) (h3.le (by rw [ct]; push_cast; omega)) (call_dr (hw x hx) dl hl)
    · rw [if_neg (by rw [decide_eq_false c6]; exact Bool.false_ne_true), s_nil, s_seq, s_if]
      simp only [w_val, w_bin, w_cb, w_cons, w_nil, w_var, w_c, w_tup, s_ret, List.getElem?_cons_zero, List.getElem?_cons_succ]
      rw [w_eq eqN_int]
      refine ⟨_, rfl, ?_⟩
      by_cases e6 : r = 6
      · rw [if_pos (by rw [beq_iff_eq]; exact e6)]
        refine ⟨sl _ (by simp), ?_⟩
        rw [w_fI]
        refine ⟨rfl, ?_⟩
        rw [sub_nat]
        refine R p n _ ws S1 _ h1 (by rw [ct] at hc; push_cast at hc ⊢; omega) v1 fun items S3 x3 h3 dl hl => ⟨sl _ (by simp), sl _ (by simp), ?_⟩
        exact q _ S3 (x1.trans x3) (h3.le (by rw [ct]; push_cast; omega)) (list_dr dl hl)
      · rw [if_neg (by rw [beq_iff_eq]; exact e6), s_nil]
        simp only [w_val, w_bin, w_cb, w_cons, w_nil, w_var, w_c, w_tup, s_ret, List.getElem?_cons_zero, List.getElem?_cons_succ]
        refine ⟨sl _ (by simp), ?_⟩
        rw [w_fI]
        refine ⟨rfl, ?_⟩
        rw [sub_nat]
        refine E p n _ ws S1 _ h1 (by rw [ct] at hc; push_cast at hc ⊢; omega) v1 fun y S3 x3 h3 dr => ⟨sl _ (by simp), sl _ (by simp), sl _ (by simp), ?_⟩
        exact q _ S3 (x1.trans x3) (h3.le (by rw [ct]; push_cast; omega)) (in_dr dr)
end Mn

set_option Elab.async false
set_option linter.all false
set_option maxRecDepth 100000
set_option maxHeartbeats 4000000
/-! Mn: drawn sums; the depth of drawn expressions. No program here. -/
namespace Mn
open PySem PySem.Spec PyProof.Rows L2
def kLimbs : List Str := ["plus", "minus"]
theorem limb_dr {d : Nat} {x : Str} {y : D} (hx : x = "plus" ∨ x = "minus") (a : Dr kTerms (2 * d + 1) (Bw d) (6 * d + 2) y) : Dr kLimbs (2 * d + 2) (Bw d + 10) (6 * d + 5) (.tup [.tup [.str x], .tup [.tup [y]]]) := by
  have as : (x.cps.toList.all fun c => decide (c < 128)) = true ∧ x.length ≤ 5 ∧ isIn (.str x) kLimbs = true ∧ labB x [] = true ∧ sortsOf x = [("one term" : Str)] := by
    rcases hx with rfl | rfl <;> decide +kernel
  obtain ⟨a1, a2, a3, a4, a5⟩ := as
  refine ⟨fun p S => ?_, fun n hn => ?_⟩
  · have b := vl_two (vl_one (p := p) (S := S) (vl_str a1)) (vl_one (vl_one (a.vl p S)))
    refine b.le (Nat.le_refl _) (Nat.le_refl _) ?_ (by omega)
    omega
  · obtain ⟨m, rfl⟩ : ∃ m, n = m + 1 := ⟨n - 1, by omega⟩
    refine part_mk a3 a4 (by rw [a5]; rfl) fun q hq => ?_
    rw [a5] at hq
    have hq : q ∈ [(D.tup [y], ("one term" : Str))] := hq
    rw [List.mem_singleton.mp hq]
    exact lot_mk (Nat.le_refl 1) rfl (fun d' hd => by rw [List.mem_singleton.mp hd]; exact a.ok m (by omega)) (fun z => by cases z)
theorem plus1_app {ds es : List D} (h : plus1 ds = true) : plus1 (ds ++ es) = true := by
  unfold plus1 at h
  split at h
  · exact h
  · cases h
theorem sum_dr {d : Nat} {items : List D} (a : DrL kLimbs (2 * d + 2) (4 * (Bw d + 11)) (6 * d + 5) items) (h2 : 2 ≤ items.length) (h4 : items.length ≤ 4) (hp : plus1 items = true) : Dr kExprs (2 * (d + 1) + 1) (Bw (d + 1)) (6 * (d + 1) + 2) (.tup [.tup [.str "sum"], .tup [.tup items]]) := by
  refine ⟨fun p S => ?_, fun n hn => ?_⟩
  · have b := vl_two (vl_one (p := p) (S := S) (vl_str (x := "sum") (by decide +kernel))) (vl_one ((a.vl p S).tup (by omega)))
    refine b.le (Nat.le_refl _) (Nat.le_refl _) ?_ (by omega)
    show 3 + 1 + (4 * (Bw d + 11) + 1) + 2 ≤ 4 * Bw d + 60
    omega
  · obtain ⟨m, rfl⟩ : ∃ m, n = m + 1 := ⟨n - 1, by omega⟩
    refine part_mk (by decide +kernel) rfl rfl fun q hq => ?_
    have hq : q ∈ [(D.tup items, ("terms with signs" : Str))] := hq
    rw [List.mem_singleton.mp hq]
    exact lot_mk h2 rfl (fun d' hd => a.ok d' hd m (by omega)) (fun _ => hp)
theorem e_zero {T of : F} (t : GenOk kTerms 0 (Ct 0) T) : GenOk kExprs 0 (Ce 0) (g_w_e fTake T of) := by
  intro p n c ws S Q h hc v q
  unfold g_w_e
  refine w_def rfl ?_
  rw [s_seq, s_if]
  simp only [w_tor, w_val, w_bin, w_cb, w_cons, w_nil, w_var, w_c, s_ret, List.map_cons, List.map_nil, List.length_cons, List.length_nil, List.cons_append, List.nil_append, List.getElem?_cons_zero, List.getElem?_cons_succ, List.reduceReplicate, Nat.reduceAdd, Nat.reduceSub]
  rw [w_fI]
  refine ⟨rfl, _, rfl, ?_⟩
  rw [if_pos (by decide)]
  simp only [if_true]
  have hc' : c + (Ct 0 : Nat) < 2 ^ 40 := by unfold Ce Ct at hc; unfold Ct; omega
  exact t p n c ws S Q h hc' v fun r S' x hp dr => q r S' x (hp.le (by unfold Ce Ct; omega)) (dr.le (by decide +kernel) (Nat.le_refl _) (Nat.le_refl _) (Nat.le_refl _))
theorem e_succ {d : Nat} {T : F} (t1 : GenOk kTerms (d + 1) (Ct (d + 1)) T) (t0 : GenOk kTerms d (Ct d) T) : GenOk kExprs (d + 1) (Ce (d + 1)) (g_w_e fTake T (fOf fTake)) := by
  intro p n c ws S Q h hc v q
  have sl : ∀ n : Nat, n ≤ 200 → n ≤ sizeLine := fun n h => by rw [sizeLine_eq]; omega
  have ct : Ct (d + 1) = 12 * Ct d + 18 := rfl
  have ce : Ce (d + 1) = 4 * Ct (d + 1) + 5 := rfl
  unfold g_w_e
  refine w_def rfl ?_
  rw [s_seq, s_if]
  simp only [w_tor, w_val, w_bin, w_cb, w_cons, w_nil, w_var, w_c, s_ret, List.map_cons, List.map_nil, List.length_cons, List.length_nil, List.cons_append, List.nil_append, List.getElem?_cons_zero, List.getElem?_cons_succ, List.reduceReplicate, Nat.reduceAdd, Nat.reduceSub]
  rw [w_fI]
  refine ⟨rfl, _, rfl, ?_⟩
  rw [if_neg (by simp; omega)]
  refine take_wp h (by omega) (by decide) (by decide) fun r S1 r0 r1 x1 h1 => ?_
  rw [w_fI]
  refine ⟨rfl, _, rfl, ?_⟩
  have v1 := v.ext x1
  by_cases c0 : 0 < r
  · rw [if_pos (decide_eq_true c0)]
    exact t1 p n _ ws S1 Q h1 (by rw [ce] at hc; push_cast at hc ⊢; omega) v1 fun y S' x hp dr => q y S' (x1.trans x) (hp.le (by rw [ce]; push_cast; omega)) (dr.le (by decide +kernel) (Nat.le_refl _) (Nat.le_refl _) (Nat.le_refl _))
  · rw [if_neg (by rw [decide_eq_false c0]; exact Bool.false_ne_true), s_nil, s_seq, s_set]
    simp only [w_lst, w_tup, w_bin, w_cb, w_cons, w_nil, w_var, w_c, List.getElem?_cons_zero, List.getElem?_cons_succ]
    refine ⟨sl _ (by simp), ?_⟩
    rw [w_fI]
    refine ⟨rfl, ?_⟩
    rw [sub_nat]
    refine t0 p n _ ws S1 _ h1 (by rw [ce, ct] at hc; push_cast at hc ⊢; omega) v1 fun y S2 x2 h2 dr => ⟨sl _ (by simp), sl _ (by simp), sl _ (by simp), sl _ (by simp), ?_⟩
    have v2 := v1.ext x2
    have l1 := limb_dr (Or.inl rfl) dr
    have hp2 := h2.lt
    have x12 := x1.trans x2
    rw [s_seq, s_for, i_range1]
    simp only [w_bin, w_cb, w_cons, w_nil, w_var, w_c, List.getElem?_cons_zero, List.getElem?_cons_succ, List.set_cons_zero, List.set_cons_succ]
    refine take_wp (h2.app _) (by rw [ce, ct] at hc; push_cast at hc ⊢; omega) (by decide) (by decide) fun r2 S3 r20 r21 x3 h3 => ?_
    rw [w_addI]
    refine ⟨1 + r2, rfl, by unfold smallI; rw [decide_eq_true (by omega), decide_eq_true (by omega)]; rfl, ?_⟩
    have l2 : S3[S2.length]? = some (.lst [.tup [.tup [.str "plus"], .tup [.tup [y]]]]) := x3.at_ List.getElem?_concat_length (by omega)
    refine loop_wp (fun l ρ S' => ∃ acc w, ρ = [some (.ref p), some (.int ((d + 1 : Nat) : Int)), some (.ref n), some (.ref S2.length), w] ∧ S'[S2.length]? = some (.lst acc) ∧ S2.length ≤ S'.length ∧ Ext p S S' ∧ acc.length + l.length = (1 + r2).toNat + 1 ∧ 1 ≤ acc.length ∧ Pot p (c + 1 + (Ct d : Nat) + 1 + ((acc.length - 1 : Nat) : Int) * ((Ct d + 1 : Nat) : Int)) S' ∧ DrL kLimbs (2 * d + 2) (acc.length * (Bw d + 11)) (6 * d + 5) acc ∧ plus1 acc = true)
      (fun _ _ _ _ => rfl) (fun z l ρ S' => ?_) (fun ρ S' => ?_) _ _ S3 ⟨_, _, rfl, l2, ?_, (x12.app _).trans x3, ?_, Nat.le_refl 1, h3.le (by simp), ?_, rfl⟩
    · rintro ⟨acc, w, rfl, hl, hle, x, hn, h1', hp, ha, hpl⟩
      refine ⟨_, rfl, ?_⟩
      simp only [s_drop, w_mt, w_lst, w_tup, w_bin, w_cb, w_cons, w_nil, w_var, w_c, List.getElem?_cons_zero, List.getElem?_cons_succ, List.set_cons_zero, List.set_cons_succ]
      rw [List.length_cons] at hn
      have hk : acc.length - 1 ≤ 2 := by omega
      have hb : ((acc.length - 1 : Nat) : Int) * ((Ct d + 1 : Nat) : Int) ≤ 2 * ((Ct d + 1 : Nat) : Int) := Int.mul_le_mul_of_nonneg_right (by omega) (by omega)
      have hpl' := hp.lt
      have hps : S2.length ≠ p := by omega
      refine ⟨by show kOb S'[S2.length]? = "list"; rw [hl]; rfl, sl _ (by simp), ?_⟩
      refine of_wp (ds := [.str "plus", .str "minus"]) (hp.app _) (by rw [ce, ct] at hc; push_cast at hc hb ⊢; omega) List.getElem?_concat_length (by omega) (by simp) (by simp) fun s S4 hs x4 h4 => ⟨sl _ (by simp), ?_⟩
      rw [w_fI]
      refine ⟨rfl, ?_⟩
      rw [sub_nat]
      have xx := (x.app _).trans x4
      refine t0 p n _ ws S4 _ h4 (by rw [ce, ct] at hc; push_cast at hc hb ⊢; omega) (v.ext xx) fun y2 S5 x5 h5 dr2 => ⟨sl _ (by simp), sl _ (by simp), sl _ (by simp), ?_⟩
      have l5 : S5[S2.length]? = some (.lst acc) := x5.at_ (x4.at_ (at_app hl _) hps) hps
      rw [w_app l5]
      refine ⟨by rw [sizeLine_eq]; omega, ?_⟩
      have hlen : S2.length ≤ S5.length := Nat.le_trans hle (Nat.le_trans (Nat.le_trans (by rw [List.length_append]; omega) x4.1) x5.1)
      have hlt : S2.length < S5.length := (List.getElem?_eq_some_iff.mp l5).1
      obtain ⟨s', hs', rfl⟩ : ∃ s' : Str, (s' = "plus" ∨ s' = "minus") ∧ s = .str s' := by
        simp only [List.mem_cons, List.not_mem_nil, or_false] at hs
        rcases hs with rfl | rfl
        · exact ⟨_, Or.inl rfl, rfl⟩
        · exact ⟨_, Or.inr rfl, rfl⟩
      have hS : S.length ≤ S2.length := x12.1
      refine ⟨acc ++ [_], _, rfl, List.getElem?_set_self hlt, by rw [List.length_set]; exact hlen, (xx.trans x5).set hS _, ?_, ?_, ?_, ?_, plus1_app hpl⟩
      · rw [List.length_append, List.length_singleton]; omega
      · rw [List.length_append, List.length_singleton]; omega
      · refine (h5.set hps _).le ?_
        rw [List.length_append, List.length_singleton]
        have e1 : acc.length + 1 - 1 = (acc.length - 1) + 1 := by omega
        rw [e1]
        push_cast
        rw [Int.add_mul ((acc.length - 1 : Nat) : Int) 1, Int.one_mul]
        omega
      · have := ha.snoc (limb_dr hs' dr2)
        refine ⟨fun p S => (this.vl p S).le (Nat.le_refl _) (Nat.le_refl _) ?_ (Nat.le_refl _), this.ok⟩
        rw [List.length_append, List.length_singleton, Nat.add_mul, Nat.one_mul]
        omega
    · rintro ⟨acc, w, rfl, hl, hle, x, hn, h1', hp, ha, hpl⟩
      simp only [s_ret, w_tup, w_cb, w_cons, w_nil, w_var, w_c, List.getElem?_cons_zero, List.getElem?_cons_succ]
      rw [w_tupL hl]
      rw [List.length_nil] at hn
      refine ⟨sl _ (by simp), sl _ (by simp), sl _ (by simp), q _ S' x (hp.le ?_) (sum_dr ⟨fun p S => (ha.vl p S).le (Nat.le_refl _) (Nat.le_refl _) (Nat.mul_le_mul_right _ (by omega)) (Nat.le_refl _), ha.ok⟩ (by omega) (by omega) hpl)⟩
      have hb : ((acc.length - 1 : Nat) : Int) * ((Ct d + 1 : Nat) : Int) ≤ 3 * ((Ct d + 1 : Nat) : Int) := Int.mul_le_mul_of_nonneg_right (by omega) (by omega)
      rw [ce, ct]
      push_cast at hb ⊢
      omega
    · exact Nat.le_trans (by rw [List.length_append]; omega) x3.1
    · simp
      omega
    · have := DrL.nil.snoc (kinds := kLimbs) (h := 6 * d + 5) l1
      exact ⟨fun p S => (this.vl p S).le (Nat.le_refl _) (Nat.le_refl _) (by show 0 + _ ≤ 1 * _; omega) (Nat.le_refl _), this.ok⟩
end Mn

set_option Elab.async false
set_option linter.all false
set_option maxRecDepth 100000
set_option maxHeartbeats 4000000
/-! Mn: drawn statements, blocks, groves. No program here. -/
namespace Mn
open PySem PySem.Spec PyProof.Rows L2
theorem w_min {S : Sto} {Q : D → Sto → Prop} {i j : Int} : (cMin [.int i, .int j] S).wp Q ↔ Q (.int (if j < i then j else i)) S := Iff.rfl
theorem w_max {S : Sto} {Q : D → Sto → Prop} {i j : Int} : (cMax [.int i, .int j] S).wp Q ↔ Q (.int (if j > i then j else i)) S := Iff.rfl
/-- the defs of drawn expressions, by how deep they may call -/
structure Fam (T E R : Nat → F) : Prop where
  t : ∀ k, 3 ≤ k → T (k + 1) = g_w_term fTake (g_w_leaf (fOf fTake)) (fOf fTake) (R k) (E k)
  e : ∀ k, 3 ≤ k → E (k + 1) = g_w_e fTake (T k) (fOf fTake)
  r : ∀ k, 3 ≤ k → R (k + 1) = g_w_row_of fTake (E k)
theorem Fam.gen {T E R : Nat → F} (f : Fam T E R) : ∀ d, (∀ k, 4 + 3 * d ≤ k → GenOk kTerms d (Ct d) (T k)) ∧ (∀ k, 5 + 3 * d ≤ k → GenOk kExprs d (Ce d) (E k)) ∧ (∀ k, 6 + 3 * d ≤ k → RowOk d (1 + 3 * Ce d) (R k)) := by
  have row : ∀ d, (∀ k, 5 + 3 * d ≤ k → GenOk kExprs d (Ce d) (E k)) → (∀ k, 6 + 3 * d ≤ k → RowOk d (1 + 3 * Ce d) (R k)) := fun d h k hk => by
    obtain ⟨m, rfl⟩ : ∃ m, k = m + 1 := ⟨k - 1, by omega⟩
    rw [f.r m (by omega)]
    exact row_of (h m (by omega))
  intro d
  induction d with
  | zero =>
    have t : ∀ k, 4 + 3 * 0 ≤ k → GenOk kTerms 0 (Ct 0) (T k) := fun k hk => by
      obtain ⟨m, rfl⟩ : ∃ m, k = m + 1 := ⟨k - 1, by omega⟩
      rw [f.t m (by omega)]
      exact term_zero
    have e : ∀ k, 5 + 3 * 0 ≤ k → GenOk kExprs 0 (Ce 0) (E k) := fun k hk => by
      obtain ⟨m, rfl⟩ : ∃ m, k = m + 1 := ⟨k - 1, by omega⟩
      rw [f.e m (by omega)]
      exact e_zero (t m (by omega))
    exact ⟨t, e, row 0 e⟩
  | succ d ih =>
    obtain ⟨t0, e0, r0⟩ := ih
    have t : ∀ k, 4 + 3 * (d + 1) ≤ k → GenOk kTerms (d + 1) (Ct (d + 1)) (T k) := fun k hk => by
      obtain ⟨m, rfl⟩ : ∃ m, k = m + 1 := ⟨k - 1, by omega⟩
      rw [f.t m (by omega)]
      exact term_succ (r0 m (by omega)) (e0 m (by omega))
    have e : ∀ k, 5 + 3 * (d + 1) ≤ k → GenOk kExprs (d + 1) (Ce (d + 1)) (E k) := fun k hk => by
      obtain ⟨m, rfl⟩ : ∃ m, k = m + 1 := ⟨k - 1, by omega⟩
      rw [f.e m (by omega)]
      exact e_succ (t m (by omega)) (t0 m (by omega))
    exact ⟨t, e, row (d + 1) e⟩
theorem Bw_3 {d : Nat} (h : d ≤ 3) : Bw d ≤ 2412 ∧ Ce d ≤ 18221 ∧ 2 * d + 1 ≤ 7 ∧ 6 * d + 2 ≤ 20 := by
  have : d = 0 ∨ d = 1 ∨ d = 2 ∨ d = 3 := by omega
  rcases this with rfl | rfl | rfl | rfl <;> decide
/-- e up to 3 deep, row up to 2 deep -/
def E3 (e : F) : Prop := ∀ d, d ≤ 3 → GenOk kExprs d (Ce d) e
def R2 (r : F) : Prop := ∀ d, d ≤ 2 → RowOk d (1 + 3 * Ce d) r
theorem E3.use {e : F} (E : E3 e) {p n : Nat} {c : Int} {ws : List Str} {S : Sto} {Q : D → Sto → Prop} {i : Int} {d : Nat} (hi : i = (d : Nat)) (hd : d ≤ 3) (h : Pot p c S) (hc : c + 18221 < 2 ^ 40) (v : Voc n ws p S) (q : ∀ r S', Ext p S S' → Pot p (c + 18221) S' → Dr kExprs 7 2412 20 r → Q r S') : (e [.ref p, .int i, .ref n] S).wp Q := by
  subst hi
  obtain ⟨b1, b2, b3, b4⟩ := Bw_3 hd
  exact E d hd p n c ws S Q h (by omega) v fun r S' x hp dr => q r S' x (hp.le (by omega)) (dr.le (fun _ h => h) b3 b1 b4)
theorem R2.use {e : F} (E : R2 e) {p n : Nat} {c : Int} {ws : List Str} {S : Sto} {Q : D → Sto → Prop} {i : Int} {d : Nat} (hi : i = (d : Nat)) (hd : d ≤ 2) (h : Pot p c S) (hc : c + 4552 < 2 ^ 40) (v : Voc n ws p S) (q : ∀ items S', Ext p S S' → Pot p (c + 4552) S' → DrL kExprs 5 1767 14 items → items.length ≤ 3 → Q (.tup items) S') : (e [.ref p, .int i, .ref n] S).wp Q := by
  subst hi
  have b : 3 * (Bw d + 1) ≤ 1767 ∧ 1 + 3 * Ce d ≤ 4552 ∧ 2 * d + 1 ≤ 5 ∧ 6 * d + 2 ≤ 14 := by
    have : d = 0 ∨ d = 1 ∨ d = 2 := by omega
    rcases this with rfl | rfl | rfl <;> decide
  obtain ⟨b1, b2, b3, b4⟩ := b
  exact E d hd p n c ws S Q h (by omega) v fun r S' x hp dr hl => q r S' x (hp.le (by omega)) ⟨fun p S => (dr.vl p S).le (Nat.le_refl _) (Nat.le_refl _) b1 b4, fun d hd n hn => dr.ok d hd n (by omega)⟩ hl
/-! ### statements -/
theorem lot1 {n : Nat} {y : D} {g : Nat} {W h : Nat} (a : Dr kExprs g W h y) (hn : g ≤ n) : lotS (partB n) "one E" (.tup [y]) = true :=
  lot_mk (Nat.le_refl 1) rfl (fun d' hd => by rw [List.mem_singleton.mp hd]; exact a.ok n hn) (fun z => by cases z)
theorem lotE {n : Nat} {ys : List D} {g : Nat} {W h : Nat} (a : DrL kExprs g W h ys) (hn : g ≤ n) : lotS (partB n) "E's" (.tup ys) = true :=
  lot_mk (Nat.zero_le _) rfl (fun d' hd => a.ok d' hd n hn) (fun z => by cases z)
theorem lotB_dr {n : Nat} {ys : List D} {g : Nat} {W h : Nat} (a : DrL kStmts g W h ys) (hn : g ≤ n) : lotS (partB n) "a block" (.tup ys) = true :=
  lot_mk (Nat.zero_le _) rfl (fun d' hd => a.ok d' hd n hn) (fun z => by cases z)
theorem lotI {n : Nat} {ys : List D} {g : Nat} {W h : Nat} (a : DrL ["else"] g W h ys) (hn : g ≤ n) (hl : ys.length ≤ 1) : lotS (partB n) "perhaps an else" (.tup ys) = true :=
  lot_mk (Nat.zero_le _) (decide_eq_true hl) (fun d' hd => a.ok d' hd n hn) (fun z => by cases z)
theorem set_dr {g W h : Nat} {x : Str} {y : D} (hx : Wd x) (a : Dr kExprs g W h y) : Dr kStmts (g + 1) (W + 17) (h + 3) (.tup [.tup [.str "set", .str x], .tup [.tup [y]]]) := by
  refine ⟨fun p S => ?_, fun n hn => ?_⟩
  · have b := vl_two (vl_two (p := p) (S := S) (vl_str (x := "set") (by decide +kernel)) (vl_str hx.2.2)) (vl_one (vl_one (a.vl p S)))
    have := hx.2.1
    refine b.le (Nat.le_refl _) (Nat.le_refl _) ?_ (by omega)
    show 3 + x.length + 2 + (W + 1 + 1) + 2 ≤ W + 17
    omega
  · obtain ⟨m, rfl⟩ : ∃ m, n = m + 1 := ⟨n - 1, by omega⟩
    refine part_mk (by decide +kernel) (by show nameB x = true; exact hx.1) rfl fun q hq => ?_
    have hq : q ∈ [(D.tup [y], ("one E" : Str))] := hq
    rw [List.mem_singleton.mp hq]
    exact lot1 a (by omega)
theorem run_dr {g W h : Nat} {x : Str} {ys : List D} (hx : Wd x) (a : DrL kExprs g W h ys) (hl : ys.length ≤ 3) : Dr kStmts (g + 1) (W + 16) (h + 3) (.tup [.tup [.str "run", .str x], .tup [.tup ys]]) := by
  refine ⟨fun p S => ?_, fun n hn => ?_⟩
  · have b := vl_two (vl_two (p := p) (S := S) (vl_str (x := "run") (by decide +kernel)) (vl_str hx.2.2)) (vl_one ((a.vl p S).tup (by omega)))
    have := hx.2.1
    refine b.le (Nat.le_refl _) (Nat.le_refl _) ?_ (by omega)
    show 3 + x.length + 2 + (W + 1) + 2 ≤ W + 16
    omega
  · obtain ⟨m, rfl⟩ : ∃ m, n = m + 1 := ⟨n - 1, by omega⟩
    refine part_mk (by decide +kernel) (by show nameB x = true; exact hx.1) rfl fun q hq => ?_
    have hq : q ∈ [(D.tup ys, ("E's" : Str))] := hq
    rw [List.mem_singleton.mp hq]
    exact lotE a (by omega)
theorem give_dr {g W h : Nat} {y : D} (a : Dr kExprs g W h y) : Dr kStmts (g + 1) (W + 17) (h + 3) (.tup [.tup [.str "give"], .tup [.tup [y]]]) := by
  refine ⟨fun p S => ?_, fun n hn => ?_⟩
  · have b := vl_two (vl_one (p := p) (S := S) (vl_str (x := "give") (by decide +kernel))) (vl_one (vl_one (a.vl p S)))
    refine b.le (Nat.le_refl _) (Nat.le_refl _) ?_ (by omega)
    show 4 + 1 + (W + 1 + 1) + 2 ≤ W + 17
    omega
  · obtain ⟨m, rfl⟩ : ∃ m, n = m + 1 := ⟨n - 1, by omega⟩
    refine part_mk (by decide +kernel) rfl rfl fun q hq => ?_
    have hq : q ∈ [(D.tup [y], ("one E" : Str))] := hq
    rw [List.mem_singleton.mp hq]
    exact lot1 a (by omega)
theorem note_dr {x : Str} (hx : noteB x = true) (hl : x.length ≤ 8) (ha : (x.cps.toList.all fun c => decide (c < 128)) = true) : Dr kStmts 1 18 2 (.tup [.tup [.str "note", .str x], .tup []]) := by
  refine ⟨fun p S => ?_, fun n hn => ?_⟩
  · have a := vl_two (vl_two (p := p) (S := S) (vl_str (x := "note") (by decide +kernel)) (vl_str ha)) vl_nil
    exact a.le (Nat.le_refl _) (Nat.le_refl _) (by show 4 + x.length + 2 + 0 + 2 ≤ 18; omega) (by decide)
  · obtain ⟨m, rfl⟩ : ∃ m, n = m + 1 := ⟨n - 1, by omega⟩
    exact part_mk (by decide +kernel) (by show noteB x = true; exact hx) rfl (fun q hq => by cases hq)
theorem else_dr {g W h : Nat} {ys : List D} (a : DrL kStmts g W h ys) (hl : ys.length ≤ 8) : Dr ["else"] (g + 1) (W + 8) (h + 3) (.tup [.tup [.str "else"], .tup [.tup ys]]) := by
  refine ⟨fun p S => ?_, fun n hn => ?_⟩
  · have b := vl_two (vl_one (p := p) (S := S) (vl_str (x := "else") (by decide +kernel))) (vl_one ((a.vl p S).tup hl))
    refine b.le (Nat.le_refl _) (Nat.le_refl _) ?_ (by omega)
    show 4 + 1 + (W + 1) + 2 ≤ W + 8
    omega
  · obtain ⟨m, rfl⟩ : ∃ m, n = m + 1 := ⟨n - 1, by omega⟩
    refine part_mk (by decide +kernel) rfl rfl fun q hq => ?_
    have hq : q ∈ [(D.tup ys, ("a block" : Str))] := hq
    rw [List.mem_singleton.mp hq]
    exact lotB_dr a (by omega)
theorem loop_dr {g W h g2 W2 h2 g' : Nat} {y : D} {ys : List D} (b : Dr kExprs g W h y) (a : DrL kStmts g2 W2 h2 ys) (hl : ys.length ≤ 8) (g1 : g < g') (g3 : g2 < g') : Dr kStmts g' (W + W2 + 12) (max h h2 + 3) (.tup [.tup [.str "loop"], .tup [.tup [y], .tup ys]]) := by
  refine ⟨fun p S => ?_, fun n hn => ?_⟩
  · have b := vl_two (vl_one (p := p) (S := S) (vl_str (x := "loop") (by decide +kernel))) (vl_two (vl_one (b.vl p S)) ((a.vl p S).tup hl))
    refine b.le (Nat.le_refl _) (Nat.le_refl _) ?_ (by omega)
    show 4 + 1 + (W + 1 + W2 + 2) + 2 ≤ W + W2 + 12
    omega
  · obtain ⟨m, rfl⟩ : ∃ m, n = m + 1 := ⟨n - 1, by omega⟩
    refine part_mk (by decide +kernel) rfl rfl fun q hq => ?_
    have hq : q ∈ [(D.tup [y], ("one E" : Str)), (D.tup ys, ("a block" : Str))] := hq
    simp only [List.mem_cons, List.not_mem_nil, or_false] at hq
    rcases hq with rfl | rfl
    · exact lot1 b (by omega)
    · exact lotB_dr a (by omega)
theorem if_dr {g W h g2 W2 h2 g3 W3 h3 g' : Nat} {y : D} {ys zs : List D} (b : Dr kExprs g W h y) (a : DrL kStmts g2 W2 h2 ys) (z : DrL ["else"] g3 W3 h3 zs) (hl : ys.length ≤ 8) (hz : zs.length ≤ 1) (q1 : g < g') (q2 : g2 < g') (q3 : g3 < g') : Dr kStmts g' (W + W2 + W3 + 12) (max (max h h2) h3 + 3) (.tup [.tup [.str "if"], .tup [.tup [y], .tup ys, .tup zs]]) := by
  refine ⟨fun p S => ?_, fun n hn => ?_⟩
  · have three := ((Vls.cons (vl_one (b.vl p S)) (Vls.cons ((a.vl p S).tup hl) (Vls.cons ((z.vl p S).tup (by omega)) Vls.nil))).tup (by show 3 ≤ 8; decide))
    have b := vl_two (vl_one (p := p) (S := S) (vl_str (x := "if") (by decide +kernel))) three
    refine b.le (Nat.le_refl _) (Nat.le_refl _) ?_ (by omega)
    show 2 + 1 + (W + 1 + 1 + (W2 + 1 + (W3 + 1 + 0))) + 2 ≤ W + W2 + W3 + 12
    omega
  · obtain ⟨m, rfl⟩ : ∃ m, n = m + 1 := ⟨n - 1, by omega⟩
    refine part_mk (by decide +kernel) rfl rfl fun q hq => ?_
    have hq : q ∈ [(D.tup [y], ("one E" : Str)), (D.tup ys, ("a block" : Str)), (D.tup zs, ("perhaps an else" : Str))] := hq
    simp only [List.mem_cons, List.not_mem_nil, or_false] at hq
    rcases hq with rfl | rfl | rfl
    · exact lot1 b (by omega)
    · exact lotB_dr a (by omega)
    · exact lotI z (by omega) hz
def Sb : Nat → Nat
  | 0 => 100
  | j + 1 => 5 * Sb j + 2480
def Cst : Nat → Nat
  | 0 => 30
  | j + 1 => 5 * Cst j + 18300
/-- statements that are drawn 2j deep -/
def StOk (j : Nat) (f : F) : Prop := ∀ (p n : Nat) (c : Int) (ws : List Str) (S : Sto) (Q : D → Sto → Prop) (i : Int), i = 2 * (j : Nat) → Pot p c S → c + (Cst j : Nat) < 2 ^ 40 → Voc n ws p S → (∀ r S', Ext p S S' → Pot p (c + (Cst j : Nat)) S' → Dr kStmts (8 + 2 * j) (Sb j) (23 + 6 * j) r → Q r S') → (f [.ref p, .int i, .ref n] S).wp Q
def BlOk (j : Nat) (f : F) : Prop := ∀ (p n u : Nat) (c : Int) (ws : List Str) (S : Sto) (Q : D → Sto → Prop) (i : Int), i = 2 * (j : Nat) → u ≤ 8 → Pot p c S → c + (1 + u * Cst j : Nat) < 2 ^ 40 → Voc n ws p S → (∀ items S', Ext p S S' → Pot p (c + (1 + u * Cst j : Nat)) S' → DrL kStmts (8 + 2 * j) (u * (Sb j + 1)) (23 + 6 * j) items → items.length ≤ u → Q (.tup items) S') → (f [.ref p, .int (u : Nat), .int i, .ref n] S).wp Q
theorem block_of {j : Nat} {s : F} (s_ok : StOk j s) : BlOk j (g_w_block fTake s) := by
  intro p n u c ws S Q i hi hu h hc v q
  unfold g_w_block
  refine w_def rfl ?_
  rw [s_ret, w_cb, w_cons]
  refine w_comp rfl ?_
  rw [i_range1]
  simp only [w_cb, w_cons, w_nil, w_var, w_c, w_bin, List.map_cons, List.map_nil, List.length_cons, List.length_nil, List.cons_append, List.nil_append, List.getElem?_cons_zero, List.getElem?_cons_succ, List.reduceReplicate, Nat.reduceAdd, Nat.reduceSub]
  rw [w_addI]
  refine take_wp h (by omega) (by omega) (by omega) fun r S1 r0 r1 x1 h1 => ⟨r, rfl, by unfold smallI; rw [decide_eq_true (by omega), decide_eq_true (by omega)]; rfl, ?_⟩
  refine rowc_wp (m := u) (C := Cst j) (c := c + 1) (fun acc => DrL kStmts (8 + 2 * j) (acc.length * (Sb j + 1)) (23 + 6 * j) acc) (by rw [List.length_nil, Nat.zero_mul]; exact DrL.nil) r0 (by omega) (by omega) h1 x1 (fun k d' S' acc Q' hk x hp ha hl q' => ?_) (fun items S' hi hl x hp => ?_)
  · simp only [w_cb, w_cons, w_nil, w_var, w_c, wipeE, List.map_cons, List.map_nil, List.length_cons, List.length_nil, List.cons_append, List.nil_append, List.getElem?_cons_zero, List.getElem?_cons_succ, List.set_cons_zero, List.set_cons_succ]
    have hb : (((k + 1 : Nat) : Int)) * (Cst j : Nat) ≤ (u : Nat) * (Cst j : Nat) := Int.mul_le_mul_of_nonneg_right (by omega) (by omega)
    have hb2 : (((k + 1 : Nat) : Int)) * (Cst j : Nat) = ((k : Nat) : Int) * (Cst j : Nat) + (Cst j : Nat) := by push_cast; rw [Int.add_mul, Int.one_mul]
    refine s_ok p n _ ws S' Q' i hi hp (by push_cast at hc hb hb2 ⊢; omega) (v.ext x) fun y S'' x2 hp2 dr => q' y S'' x2 (hp2.le ?_) ?_
    · rw [hb2]; omega
    · have := ha.snoc dr
      refine ⟨fun p S => (this.vl p S).le (Nat.le_refl _) (Nat.le_refl _) ?_ (Nat.le_refl _), this.ok⟩
      rw [List.length_append, List.length_singleton, Nat.add_mul, Nat.one_mul]
      omega
  · refine q items S' x (hp.le (by push_cast; omega)) ⟨fun p S => (hi.vl p S).le (Nat.le_refl _) (Nat.le_refl _) (Nat.mul_le_mul_right _ hl) (Nat.le_refl _), hi.ok⟩ hl
end Mn

set_option Elab.async false
set_option linter.all false
set_option maxRecDepth 100000
set_option maxHeartbeats 4000000
/-! Mn: drawn statements. No program here. -/
namespace Mn
open PySem PySem.Spec PyProof.Rows L2
def notesD : List D := [.str "", .str "a", .str "see 7", .str "old rows"]
theorem note_of {d : D} (h : d ∈ notesD) : ∃ x : Str, d = .str x ∧ noteB x = true ∧ x.length ≤ 8 ∧ (x.cps.toList.all fun c => decide (c < 128)) = true := by
  have all : ([("" : Str), "a", "see 7", "old rows"].all fun x => noteB x && decide (x.length ≤ 8) && (x.cps.toList.all fun c => decide (c < 128))) = true := by decide +kernel
  have h : d ∈ [("" : Str), "a", "see 7", "old rows"].map D.str := h
  obtain ⟨x, hx, rfl⟩ := List.mem_map.mp h
  have := List.all_eq_true.mp all x hx
  rw [Bool.and_eq_true, Bool.and_eq_true] at this
  exact ⟨x, rfl, this.1.1, of_decide_eq_true this.1.2, this.2⟩
theorem st_zero {e row block : F} (E : E3 e) (R : R2 row) : StOk 0 (g_w_statement fTake (fOf fTake) e row block) := by
  intro p n c ws S Q i hi h hc v q
  have sl : ∀ n : Nat, n ≤ 200 → n ≤ sizeLine := fun n h => by rw [sizeLine_eq]; omega
  have hi : i = 0 := hi
  subst hi
  have hc : c + 30 < 2 ^ 40 := hc
  have q : ∀ r S', Ext p S S' → Pot p (c + 30) S' → Dr kStmts 8 100 23 r → Q r S' := q
  unfold g_w_statement
  refine w_def rfl ?_
  rw [s_seq, s_set]
  simp only [w_if, w_val, w_bin, w_cb, w_cons, w_nil, w_var, w_c, List.map_cons, List.map_nil, List.length_cons, List.length_nil, List.cons_append, List.nil_append, List.getElem?_cons_zero, List.getElem?_cons_succ, List.set_cons_zero, List.set_cons_succ, List.reduceReplicate, Nat.reduceAdd, Nat.reduceSub]
  rw [w_fI]
  refine ⟨rfl, _, rfl, ?_⟩
  rw [if_neg (by decide)]
  refine take_wp h (by omega) (by decide) (by decide) fun r S1 r0 r1 x1 h1 => ?_
  have v1 := v.ext x1
  rw [s_seq, s_if]
  simp only [w_val, w_bin, w_cb, w_cons, w_nil, w_var, w_c, w_tup, s_ret, List.getElem?_cons_zero, List.getElem?_cons_succ]
  rw [w_fI]
  refine ⟨rfl, _, rfl, ?_⟩
  by_cases c3 : r < 3
  · rw [if_pos (decide_eq_true c3)]
    obtain ⟨hv, np, hw, w0, w1⟩ := v1
    refine of_wp h1 (by omega) hv np (by rw [List.length_map]; exact w0) (by rw [List.length_map]; omega) fun y S2 hy x2 h2 => ⟨sl _ (by simp), ?_⟩
    obtain ⟨x, hx, rfl⟩ := List.mem_map.mp hy
    rw [w_min]
    refine E 0 (by decide) p n _ ws S2 _ h2 (by show _ + (9 : Int) < _; omega) ((v.ext x1).ext x2) fun t S3 x3 h3 dr => ⟨sl _ (by simp), sl _ (by simp), sl _ (by simp), ?_⟩
    exact q _ S3 ((x1.trans x2).trans x3) (h3.le (by show _ + (9 : Int) ≤ _; omega)) ((set_dr (hw x hx) dr).le (fun _ h => h) (by decide) (by decide) (by decide))
  · rw [if_neg (by rw [decide_eq_false c3]; exact Bool.false_ne_true), s_nil, s_seq, s_if]
    simp only [w_val, w_bin, w_cb, w_cons, w_nil, w_var, w_c, w_tup, s_ret, List.getElem?_cons_zero, List.getElem?_cons_succ]
    rw [w_fI]
    refine ⟨rfl, _, rfl, ?_⟩
    by_cases c6 : r < 6
    · rw [if_pos (decide_eq_true c6)]
      obtain ⟨hv, np, hw, w0, w1⟩ := v1
      refine of_wp h1 (by omega) hv np (by rw [List.length_map]; exact w0) (by rw [List.length_map]; omega) fun y S2 hy x2 h2 => ⟨sl _ (by simp), ?_⟩
      obtain ⟨x, hx, rfl⟩ := List.mem_map.mp hy
      rw [w_min]
      refine R 0 (by decide) p n _ ws S2 _ h2 (by show _ + (28 : Int) < _; omega) ((v.ext x1).ext x2) fun items S3 x3 h3 dl hl => ⟨sl _ (by simp), sl _ (by simp), ?_⟩
      exact q _ S3 ((x1.trans x2).trans x3) (h3.le (by show _ + (28 : Int) ≤ _; omega)) ((run_dr (hw x hx) dl hl).le (fun _ h => h) (by decide) (by decide) (by decide))
    · rw [if_neg (by rw [decide_eq_false c6]; exact Bool.false_ne_true), s_nil, s_seq, s_if]
      simp only [w_val, w_bin, w_cb, w_cons, w_nil, w_var, w_c, w_tup, s_ret, List.getElem?_cons_zero, List.getElem?_cons_succ]
      rw [w_eq eqN_int]
      refine ⟨_, rfl, ?_⟩
      by_cases e6 : r = 6
      · rw [if_pos (by rw [beq_iff_eq]; exact e6)]
        refine ⟨sl _ (by simp), ?_⟩
        rw [w_min]
        refine E 0 (by decide) p n _ ws S1 _ h1 (by show _ + (9 : Int) < _; omega) v1 fun t S3 x3 h3 dr => ⟨sl _ (by simp), sl _ (by simp), sl _ (by simp), ?_⟩
        exact q _ S3 (x1.trans x3) (h3.le (by show _ + (9 : Int) ≤ _; omega)) ((give_dr dr).le (fun _ h => h) (by decide) (by decide) (by decide))
      · rw [if_neg (by rw [beq_iff_eq]; exact e6), s_nil, s_seq, s_if]
        simp only [w_val, w_bin, w_cb, w_cons, w_nil, w_var, w_c, w_tup, w_lst, s_ret, List.getElem?_cons_zero, List.getElem?_cons_succ]
        rw [w_eq eqN_int]
        refine ⟨_, rfl, ?_⟩
        rw [if_pos (by rw [beq_iff_eq]; omega)]
        have hl1 := h1.lt
        refine ⟨sl _ (by simp), ?_⟩
        refine of_wp (ds := notesD) (h1.app _) (by omega) List.getElem?_concat_length (by omega) (by decide) (by decide) fun y S2 hy x2 h2 => ⟨sl _ (by simp), sl _ (by simp), sl _ (by simp), ?_⟩
        obtain ⟨x, rfl, n1, n2, n3⟩ := note_of hy
        exact q _ S2 ((x1.app _).trans x2) (h2.le (by omega)) ((note_dr n1 n2 n3).le (fun _ h => h) (by decide) (by decide) (by decide))
theorem st_succ {j : Nat} {e row block : F} (hj : j ≤ 2) (E : E3 e) (R : R2 row) (B : BlOk j block) : StOk (j + 1) (g_w_statement fTake (fOf fTake) e row block) := by
  intro p n c ws S Q i hi h hc v q
  have sl : ∀ n : Nat, n ≤ 200 → n ≤ sizeLine := fun n h => by rw [sizeLine_eq]; omega
  have hs : Sb (j + 1) = 5 * Sb j + 2480 := rfl
  have hcs : Cst (j + 1) = 5 * Cst j + 18300 := rfl
  rw [hcs] at hc
  unfold g_w_statement
  refine w_def rfl ?_
  rw [s_seq, s_set]
  simp only [w_if, w_val, w_bin, w_cb, w_cons, w_nil, w_var, w_c, List.map_cons, List.map_nil, List.length_cons, List.length_nil, List.cons_append, List.nil_append, List.getElem?_cons_zero, List.getElem?_cons_succ, List.set_cons_zero, List.set_cons_succ, List.reduceReplicate, Nat.reduceAdd, Nat.reduceSub]
  rw [w_fI]
  refine ⟨rfl, _, rfl, ?_⟩
  rw [if_pos (decide_eq_true (by omega))]
  refine take_wp h (by omega) (by decide) (by decide) fun r S1 r0 r1 x1 h1 => ?_
  have v1 := v.ext x1
  rw [s_seq, s_if]
  simp only [w_val, w_bin, w_cb, w_cons, w_nil, w_var, w_c, w_tup, s_ret, List.getElem?_cons_zero, List.getElem?_cons_succ]
  rw [w_fI]
  refine ⟨rfl, _, rfl, ?_⟩
  by_cases c3 : r < 3
  · rw [if_pos (decide_eq_true c3)]
    obtain ⟨hv, np, hw, w0, w1⟩ := v1
    refine of_wp h1 (by omega) hv np (by rw [List.length_map]; exact w0) (by rw [List.length_map]; omega) fun y S2 hy x2 h2 => ⟨sl _ (by simp), ?_⟩
    obtain ⟨x, hx, rfl⟩ := List.mem_map.mp hy
    rw [w_min]
    refine E.use (d := min (2 * j + 2) 3) (by split <;> omega) (by omega) h2 (by omega) ((v.ext x1).ext x2) fun t S3 x3 h3 dr => ⟨sl _ (by simp), sl _ (by simp), sl _ (by simp), ?_⟩
    exact q _ S3 ((x1.trans x2).trans x3) (h3.le (by rw [hcs]; omega)) ((set_dr (hw x hx) dr).le (fun _ h => h) (by omega) (by omega) (by omega))
  · rw [if_neg (by rw [decide_eq_false c3]; exact Bool.false_ne_true), s_nil, s_seq, s_if]
    simp only [w_val, w_bin, w_cb, w_cons, w_nil, w_var, w_c, w_tup, s_ret, List.getElem?_cons_zero, List.getElem?_cons_succ]
    rw [w_fI]
    refine ⟨rfl, _, rfl, ?_⟩
    by_cases c6 : r < 6
    · rw [if_pos (decide_eq_true c6)]
      obtain ⟨hv, np, hw, w0, w1⟩ := v1
      refine of_wp h1 (by omega) hv np (by rw [List.length_map]; exact w0) (by rw [List.length_map]; omega) fun y S2 hy x2 h2 => ⟨sl _ (by simp), ?_⟩
      obtain ⟨x, hx, rfl⟩ := List.mem_map.mp hy
      rw [w_min]
      refine R.use (d := 2) (by split <;> omega) (by omega) h2 (by omega) ((v.ext x1).ext x2) fun items S3 x3 h3 dl hl => ⟨sl _ (by simp), sl _ (by simp), ?_⟩
      exact q _ S3 ((x1.trans x2).trans x3) (h3.le (by rw [hcs]; omega)) ((run_dr (hw x hx) dl hl).le (fun _ h => h) (by omega) (by omega) (by omega))
    · rw [if_neg (by rw [decide_eq_false c6]; exact Bool.false_ne_true), s_nil, s_seq, s_if]
      simp only [w_val, w_bin, w_cb, w_cons, w_nil, w_var, w_c, w_tup, s_ret, List.getElem?_cons_zero, List.getElem?_cons_succ]
      rw [w_eq eqN_int]
      refine ⟨_, rfl, ?_⟩
      by_cases e6 : r = 6
      · rw [if_pos (by rw [beq_iff_eq]; exact e6)]
        refine ⟨sl _ (by simp), ?_⟩
        rw [w_min]
        refine E.use (d := 2) (by split <;> omega) (by omega) h1 (by omega) v1 fun t S3 x3 h3 dr => ⟨sl _ (by simp), sl _ (by simp), sl _ (by simp), ?_⟩
        exact q _ S3 (x1.trans x3) (h3.le (by rw [hcs]; omega)) ((give_dr dr).le (fun _ h => h) (by omega) (by omega) (by omega))
      · rw [if_neg (by rw [beq_iff_eq]; exact e6), s_nil, s_seq, s_if]
        simp only [w_val, w_bin, w_cb, w_cons, w_nil, w_var, w_c, w_tup, w_lst, s_ret, List.getElem?_cons_zero, List.getElem?_cons_succ]
        rw [w_eq eqN_int]
        refine ⟨_, rfl, ?_⟩
        by_cases e7 : r = 7
        · rw [if_pos (by rw [beq_iff_eq]; omega)]
          have hl1 := h1.lt
          refine ⟨sl _ (by simp), ?_⟩
          refine of_wp (ds := notesD) (h1.app _) (by omega) List.getElem?_concat_length (by omega) (by decide) (by decide) fun y S2 hy x2 h2 => ⟨sl _ (by simp), sl _ (by simp), sl _ (by simp), ?_⟩
          obtain ⟨x, rfl, n1, n2, n3⟩ := note_of hy
          exact q _ S2 ((x1.app _).trans x2) (h2.le (by rw [hcs]; omega)) ((note_dr n1 n2 n3).le (fun _ h => h) (by omega) (by omega) (by omega))
        · rw [if_neg (by rw [beq_iff_eq]; exact e7), s_nil, s_seq, s_par]
          simp only [w_val, w_bin, w_cb, w_cons, w_nil, w_var, w_c, w_tup, w_lst, s_ret, List.getElem?_cons_zero, List.getElem?_cons_succ]
          rw [w_fI]
          refine ⟨rfl, ?_⟩
          rw [w_min]
          refine E.use (d := min (2 * j + 1) 2) (by split <;> omega) (by omega) h1 (by omega) v1 fun t S3 x3 h3 dr => ⟨sl _ (by simp), ?_⟩
          rw [w_fI]
          refine ⟨rfl, ?_⟩
          refine B p n 3 _ ws S3 _ (i - 2) (by omega) (by decide) h3 (by omega) (v1.ext x3) fun ys S4 x4 h4 dl hl => ⟨_, _, rfl, ?_⟩
          simp only [List.set_cons_zero, List.set_cons_succ]
          have x14 := (x1.trans x3).trans x4
          rw [s_seq, s_if]
          simp only [w_val, w_bin, w_cb, w_cons, w_nil, w_var, w_c, w_tup, s_ret, List.getElem?_cons_zero, List.getElem?_cons_succ]
          rw [w_fI]
          refine ⟨rfl, _, rfl, ?_⟩
          by_cases c10 : r < 10
          · rw [if_pos (decide_eq_true c10)]
            refine ⟨sl _ (by simp), sl _ (by simp), sl _ (by simp), q _ S4 x14 (h4.le (by rw [hcs]; omega)) ((loop_dr (g' := 8 + 2 * (j + 1)) dr dl (by omega) (by omega) (by omega)).le (fun _ h => h) (Nat.le_refl _) (by omega) (by omega))⟩
          · rw [if_neg (by rw [decide_eq_false c10]; exact Bool.false_ne_true), s_nil, s_seq, s_set]
            simp only [w_if, w_val, w_bin, w_cb, w_cons, w_nil, w_var, w_c, w_tup, s_ret, List.getElem?_cons_zero, List.getElem?_cons_succ]
            rw [w_eq eqN_int]
            refine ⟨_, rfl, ?_⟩
            by_cases e11 : r = 11
            · rw [if_pos (by rw [beq_iff_eq]; omega)]
              refine ⟨sl _ (by simp), ?_⟩
              rw [w_fI]
              refine ⟨rfl, ?_⟩
              refine B p n 2 _ ws S4 _ (i - 2) (by omega) (by decide) h4 (by omega) ((v1.ext x3).ext x4) fun zs S5 x5 h5 dz hz => ⟨sl _ (by simp), sl _ (by simp), sl _ (by simp), ?_⟩
              simp only [List.getElem?_cons_zero, List.getElem?_cons_succ, List.set_cons_zero, List.set_cons_succ]
              have z := DrL.nil.snoc (kinds := ["else"]) (h := 23 + 6 * j + 3) (else_dr dz (by omega))
              exact ⟨sl _ (by simp), sl _ (by simp), sl _ (by simp), q _ S5 (x14.trans x5) (h5.le (by rw [hcs]; omega)) ((if_dr (g' := 8 + 2 * (j + 1)) dr dl z (by omega) (by simp) (by omega) (by omega) (by omega)).le (fun _ h => h) (Nat.le_refl _) (by omega) (by omega))⟩
            · rw [if_neg (by rw [beq_iff_eq]; omega)]
              simp only [List.getElem?_cons_zero, List.getElem?_cons_succ, List.set_cons_zero, List.set_cons_succ]
              have z : DrL ["else"] 0 0 0 [] := DrL.nil
              exact ⟨sl _ (by simp), sl _ (by simp), sl _ (by simp), sl _ (by simp), q _ S4 x14 (h4.le (by rw [hcs]; omega)) ((if_dr (g' := 8 + 2 * (j + 1)) dr dl z (by omega) (by simp) (by omega) (by omega) (by omega)).le (fun _ h => h) (Nat.le_refl _) (by omega) (by omega))⟩
end Mn

set_option Elab.async false
set_option linter.all false
set_option maxRecDepth 100000
set_option maxHeartbeats 4000000
/-! Mn: the vocabulary, rows at most, drawn trees. No program here. -/
namespace Mn
open PySem PySem.Spec PyProof.Rows L2
theorem wd_all : ∀ x ∈ [("a" : Str), "b", "go", "total", "x", "max", "sumof", "f", "count", "elsewher", "iff"], Wd x := by
  have h : ([("a" : Str), "b", "go", "total", "x", "max", "sumof", "f", "count", "elsewher", "iff"].all fun x => nameB x && decide (x.length ≤ 8) && (x.cps.toList.all fun c => decide (c < 128))) = true := by decide +kernel
  intro x hx
  have := List.all_eq_true.mp h x hx
  rw [Bool.and_eq_true, Bool.and_eq_true] at this
  exact ⟨this.1.1, of_decide_eq_true this.1.2, this.2⟩
theorem vocab_wp {p : Nat} {c : Int} {S : Sto} {Q : D → Sto → Prop} (h : Pot p c S) (hc : c < 2 ^ 40) (q : ∀ n ws S', Ext p S S' → Pot p (c + 1) S' → Voc n ws p S' → Q (.ref n) S') : (g_w_vocab (fOf fTake) [.ref p] S).wp Q := by
  have sl : ∀ n : Nat, n ≤ 200 → n ≤ sizeLine := fun n h => by rw [sizeLine_eq]; omega
  unfold g_w_vocab
  refine w_def rfl ?_
  simp only [s_nil, s_seq, s_drop, s_ret, s_set, s_if, s_par, s_put, s_for, w_var, w_c, w_bin, w_un, w_nil, w_cons, w_cb, w_tup, w_lst, w_val, w_tnot, w_tand, w_tor, w_and, w_or, w_not, w_if, w_chain, w_isi, w_mt, w_tab, w_onone, w_osome, w_sl, List.map_cons, List.map_nil, List.length_cons, List.length_nil, List.cons_append, List.nil_append, List.getElem?_cons_zero, List.getElem?_cons_succ, List.set_cons_zero, List.set_cons_succ, List.reduceReplicate, Nat.reduceAdd, Nat.reduceSub]
  have hl := h.lt
  refine ⟨sl _ (by decide), sl _ (by decide), sl _ (by decide), sl _ (by decide), ?_⟩
  generalize hS3 : ((S ++ [Ob.lst [D.str "a", .str "b", .str "go"]]) ++ [Ob.lst [D.str "total", .str "x", .str "max", .str "sumof"]]) ++ [Ob.lst [D.str "f", .str "count", .str "elsewher", .str "iff"]] = S3
  have x3 : Ext p S S3 := by rw [← hS3]; exact (((Ext.refl p S).app _).app _).app _
  have h3 : Pot p c S3 := by rw [← hS3]; exact ((h.app _).app _).app _
  have hl3 := h3.lt
  have g1 : S3[S.length]? = some (.lst ([("a" : Str), "b", "go"].map .str)) := by
    rw [← hS3]; exact at_app (at_app List.getElem?_concat_length _) _
  have g2 : S3[(S ++ [Ob.lst [D.str "a", .str "b", .str "go"]]).length]? = some (.lst ([("total" : Str), "x", "max", "sumof"].map .str)) := by
    rw [← hS3]; exact at_app List.getElem?_concat_length _
  have g3 : S3[((S ++ [Ob.lst [D.str "a", .str "b", .str "go"]]) ++ [Ob.lst [D.str "total", .str "x", .str "max", .str "sumof"]]).length]? = some (.lst ([("f" : Str), "count", "elsewher", "iff"].map .str)) := by
    rw [← hS3]; exact List.getElem?_concat_length
  refine of_wp (h3.app _) hc List.getElem?_concat_length (by omega) (by simp) (by simp) fun d S' hd x hp => ?_
  have fin : ∀ (n : Nat) (ws : List Str), S3[n]? = some (.lst (ws.map .str)) → S.length ≤ n → (∀ y ∈ ws, Wd y) → 0 < ws.length → ws.length < 100 → Q (.ref n) S' := fun n ws g hn hw w0 w1 =>
    q n ws S' ((x3.app _).trans x) hp ⟨x.at_ (at_app g _) (by omega), by omega, hw, w0, w1⟩
  have sub : ∀ ws : List Str, (∀ y ∈ ws, y ∈ [("a" : Str), "b", "go", "total", "x", "max", "sumof", "f", "count", "elsewher", "iff"]) → ∀ y ∈ ws, Wd y := fun ws h y hy => wd_all y (h y hy)
  simp only [List.mem_cons, List.not_mem_nil, or_false] at hd
  rcases hd with e | e | e
  · rw [e]
    exact fin _ _ g1 (Nat.le_refl _) (sub _ fun y hy => by
      simp only [List.mem_cons, List.not_mem_nil, or_false] at hy ⊢
      rcases hy with h | h | h <;> simp [h]) (by simp) (by simp)
  · rw [e]
    exact fin _ _ g2 (by rw [List.length_append]; omega) (sub _ fun y hy => by
      simp only [List.mem_cons, List.not_mem_nil, or_false] at hy ⊢
      rcases hy with h | h | h | h <;> simp [h]) (by simp) (by simp)
  · rw [e]
    exact fin _ _ g3 (by rw [List.length_append, List.length_append]; omega) (sub _ fun y hy => by
      simp only [List.mem_cons, List.not_mem_nil, or_false] at hy ⊢
      rcases hy with h | h | h | h <;> simp [h]) (by simp) (by simp)
/-! ### rows at most: any int, nothing changed -/
def Pt1 (n : Nat) (d : D) : Prop := ∃ kinds, partB n kinds d = true
def MostOk (n : Nat) (f : F) : Prop := ∀ (ds : List D) (S : Sto) (Q : D → Sto → Prop), (∀ d ∈ ds, Pt1 n d) → (∀ i : Int, Q (.int i) S) → (f [.tup ds] S).wp Q
theorem part_lots {n : Nat} {kinds : List Str} {d : D} (h : partB (n + 1) kinds d = true) : ∃ k r lots, d = .tup [.tup (.str k :: r), .tup lots] ∧ ∀ l ∈ lots, ∃ items, l = .tup items ∧ ∀ x ∈ items, Pt1 n x := by
  unfold partB at h
  split at h
  · rename_i n' kinds k r lots hn
    injection hn with hn
    subst hn
    rw [Bool.and_eq_true, Bool.and_eq_true, Bool.and_eq_true] at h
    obtain ⟨_, _, hl, ha⟩ := h
    refine ⟨k, r, lots, rfl, fun l hm => ?_⟩
    obtain ⟨i, hi⟩ := List.getElem?_of_mem hm
    have hi1 := (List.getElem?_eq_some_iff.mp hi).1
    have hlen := of_decide_eq_true hl
    have hz : (List.zip lots (sortsOf k))[i]? = some (l, (sortsOf k)[i]'(by omega)) := by
      rw [List.getElem?_zip_eq_some]
      exact ⟨hi, List.getElem?_eq_getElem _⟩
    have hb := List.all_eq_true.mp ha _ (List.mem_of_getElem? hz)
    have hb : lotW (partB n (formOf ((sortsOf k)[i]'(by omega))).kinds) (decide ((sortsOf k)[i]'(by omega) = "terms with signs")) (formOf ((sortsOf k)[i]'(by omega))) l = true := hb
    unfold lotW at hb
    split at hb
    · rename_i items _
      rw [Bool.and_eq_true, Bool.and_eq_true, Bool.and_eq_true] at hb
      exact ⟨items, rfl, fun x hx => ⟨_, List.all_eq_true.mp hb.2.2.1 x hx⟩⟩
    · cases hb
  · cases h
theorem most_of {n : Nat} {c : F} (M : MostOk n c) : MostOk (n + 1) (g_w_most c) := by
  intro ds S Q hp q
  have sl : ∀ n : Nat, n ≤ 200 → n ≤ sizeLine := fun n h => by rw [sizeLine_eq]; omega
  unfold g_w_most
  refine w_def rfl ?_
  rw [s_seq, s_set, w_c]
  rw [s_seq, s_for, i_val]
  simp only [w_var, List.map_cons, List.map_nil, List.length_cons, List.length_nil, List.cons_append, List.nil_append, List.getElem?_cons_zero, List.getElem?_cons_succ, List.set_cons_zero, List.set_cons_succ, List.reduceReplicate, Nat.reduceAdd, Nat.reduceSub]
  refine ⟨_, rfl, ?_⟩
  refine loop_wp (fun l ρ S' => ∃ a w2 w3, ρ = [some (.tup ds), some (.int a), w2, w3] ∧ S' = S ∧ ∀ d ∈ l, Pt1 (n + 1) d) (fun _ _ _ _ => rfl) (fun d l ρ S' => ?_) (fun ρ S' => ?_) _ _ S ⟨0, _, _, rfl, rfl, hp⟩
  · rintro ⟨a, w2, w3, rfl, rfl, hl⟩
    refine ⟨_, rfl, ?_⟩
    obtain ⟨kinds, hk⟩ := hl d List.mem_cons_self
    obtain ⟨k, r, lots, rfl, hlots⟩ := part_lots hk
    rw [s_seq, s_set]
    simp only [w_bin, w_if, w_val, w_tup, w_cons, w_nil, w_var, w_c, List.getElem?_cons_zero, List.getElem?_cons_succ, List.set_cons_zero, List.set_cons_succ]
    rw [w_ixT]
    refine ⟨.tup (.str k :: r), atI_zero _ _, ?_⟩
    rw [w_ixT]
    refine ⟨.str k, atI_zero _ _, sl _ (by simp), ?_⟩
    refine (w_in (inW_tup (d := .str k) trivial ["if", "loop", "else"])).mpr ⟨_, rfl, ?_⟩
    have go : ∀ m : Int, ((fAdd (.int a) (.int m) S').wp fun d S_1 => ((sFor (iVal (mBin fIx (mVar 2) (mC (.int 1)))) (.nm 3) (sSet 1 (mBin fAdd (mVar 1) (mCB c (aCons (mVar 3) aNil))))) [some (.tup ds), some d, some (.tup [.tup (.str k :: r), .tup lots]), w3] S_1).wp (fun ρ S_1 => ∃ a w2 w3, ρ = [some (.tup ds), some (.int a), w2, w3] ∧ S_1 = S' ∧ ∀ d ∈ l, Pt1 (n + 1) d) Q) := by
      intro m
      rw [w_addI, s_for, i_val]
      simp only [w_bin, w_var, w_c, List.getElem?_cons_zero, List.getElem?_cons_succ]
      rw [w_ixT]
      refine ⟨.tup lots, atI_one _ _ _, _, rfl, ?_⟩
      refine loop_wp (fun l2 ρ S2 => ∃ a w3, ρ = [some (.tup ds), some (.int a), some (.tup [.tup (.str k :: r), .tup lots]), w3] ∧ S2 = S' ∧ ∀ x ∈ l2, ∃ items, x = .tup items ∧ ∀ y ∈ items, Pt1 n y) (fun _ _ _ _ => rfl) (fun x l2 ρ S2 => ?_) (fun ρ S2 => ?_) _ _ S' ⟨_, _, rfl, rfl, hlots⟩
      · rintro ⟨a2, w3', rfl, rfl, hx⟩
        refine ⟨_, rfl, ?_⟩
        obtain ⟨items, rfl, hi⟩ := hx x List.mem_cons_self
        simp only [s_set, w_bin, w_cb, w_cons, w_nil, w_var, w_c, List.getElem?_cons_zero, List.getElem?_cons_succ, List.set_cons_zero, List.set_cons_succ]
        refine M items S2 _ hi fun i => ?_
        rw [w_addI]
        exact ⟨_, _, rfl, rfl, fun y hy => hx y (List.mem_cons_of_mem _ hy)⟩
      · rintro ⟨a2, w3', rfl, rfl, _⟩
        exact ⟨_, _, _, rfl, rfl, fun y hy => hl y (List.mem_cons_of_mem _ hy)⟩
    split
    · exact go 3
    · exact go 2
  · rintro ⟨a, w2, w3, rfl, rfl, _⟩
    simp only [s_ret, w_var, List.getElem?_cons_zero, List.getElem?_cons_succ]
    exact q a
theorem most_zero {c : F} : MostOk 0 (g_w_most c) := by
  intro ds S Q hp q
  have : ds = [] := by
    cases ds with
    | nil => rfl
    | cons d r =>
      obtain ⟨_, h⟩ := hp d List.mem_cons_self
      cases h
  subst this
  unfold g_w_most
  refine w_def rfl ?_
  rw [s_seq, s_set, w_c, s_seq, s_for, i_val]
  simp only [w_var, List.map_cons, List.map_nil, List.length_cons, List.length_nil, List.cons_append, List.nil_append, List.getElem?_cons_zero, List.getElem?_cons_succ, List.set_cons_zero, List.set_cons_succ, List.reduceReplicate, Nat.reduceAdd, Nat.reduceSub]
  exact ⟨_, rfl, q 0⟩
theorem most_all {M : Nat → F} (h : ∀ k, M (k + 1) = g_w_most (M k)) : ∀ n k, n + 1 ≤ k → MostOk n (M k)
  | 0, k, hk => by
    obtain ⟨m, rfl⟩ : ∃ m, k = m + 1 := ⟨k - 1, by omega⟩
    rw [h m]
    exact most_zero
  | n + 1, k, hk => by
    obtain ⟨m, rfl⟩ : ∃ m, k = m + 1 := ⟨k - 1, by omega⟩
    rw [h m]
    exact most_of (most_all h n m (by omega))
/-- a tree of up to u statements -/
def GrOk (j : Nat) (f : F) : Prop := ∀ (p n u : Nat) (c : Int) (ws : List Str) (S : Sto) (Q : D → Sto → Prop) (i : Int), i = 2 * (j : Nat) → u ≤ 8 → Pot p c S → c + (1 + u * Cst j : Nat) < 2 ^ 40 → Voc n ws p S → (∀ items S', Ext p S S' → Pot p (c + (1 + u * Cst j : Nat)) S' → DrL kStmts (8 + 2 * j) (u * (Sb j + 1)) (23 + 6 * j) items → items.length ≤ u → Q (.tup items) S') → (f [.ref p, .int (u : Nat), .int i, .ref n] S).wp Q
theorem grove_of {j : Nat} {s m : F} (s_ok : StOk j s) (m_ok : MostOk (8 + 2 * j) m) : GrOk j (g_w_grove fTake s m) := by
  intro p n u c ws S Q i hi hu h hc v q
  have sl : ∀ n : Nat, n ≤ 200 → n ≤ sizeLine := fun n h => by rw [sizeLine_eq]; omega
  unfold g_w_grove
  refine w_def rfl ?_
  rw [s_seq, s_set, w_tup, w_nil]
  refine ⟨sl _ (by decide), ?_⟩
  rw [s_seq, s_for, i_range1]
  simp only [w_cb, w_cons, w_nil, w_var, w_c, w_bin, List.map_cons, List.map_nil, List.length_cons, List.length_nil, List.cons_append, List.nil_append, List.getElem?_cons_zero, List.getElem?_cons_succ, List.set_cons_zero, List.set_cons_succ, List.reduceReplicate, Nat.reduceAdd, Nat.reduceSub]
  rw [w_addI]
  refine take_wp h (by omega) (by omega) (by omega) fun r S1 r0 r1 x1 h1 => ⟨r, rfl, by unfold smallI; rw [decide_eq_true (by omega), decide_eq_true (by omega)]; rfl, ?_⟩
  refine loop_wp (fun l ρ S' => ∃ (k : Nat) (acc : List D) (w5 w6 : Option D), ρ = [some (.ref p), some (.int (u : Nat)), some (.int i), some (.ref n), some (.tup acc), w5, w6] ∧ Ext p S S' ∧ k + l.length = r.toNat ∧ acc.length ≤ k ∧ Pot p (c + 1 + (k : Nat) * (Cst j : Nat)) S' ∧ DrL kStmts (8 + 2 * j) (acc.length * (Sb j + 1)) (23 + 6 * j) acc) (fun _ _ _ _ => rfl) (fun d l ρ S' => ?_) (fun ρ S' => ?_) _ _ S1 ⟨0, [], _, _, rfl, x1, by simp, Nat.le_refl _, by simpa using h1, by simpa using DrL.nil⟩
  · rintro ⟨k, acc, w5, w6, rfl, x, hn, hk, hp, ha⟩
    refine ⟨_, rfl, ?_⟩
    rw [List.length_cons] at hn
    rw [s_seq, s_set]
    simp only [w_cb, w_cons, w_nil, w_var, w_c, w_bin, w_tup, List.getElem?_cons_zero, List.getElem?_cons_succ, List.set_cons_zero, List.set_cons_succ]
    have hb : (((k + 1 : Nat) : Int)) * (Cst j : Nat) ≤ (u : Nat) * (Cst j : Nat) := Int.mul_le_mul_of_nonneg_right (by omega) (by omega)
    have hb2 : (((k + 1 : Nat) : Int)) * (Cst j : Nat) = ((k : Nat) : Int) * (Cst j : Nat) + (Cst j : Nat) := by push_cast; rw [Int.add_mul, Int.one_mul]
    refine s_ok p n _ ws S' _ i hi hp (by push_cast at hc hb hb2 ⊢; omega) (v.ext x) fun y S'' x2 hp2 dr => ⟨sl _ (by simp), ?_⟩
    rw [w_addT]
    have hsn := ha.snoc dr
    refine ⟨by simp only [List.length_cons, List.length_nil]; rw [sizeLine_eq]; omega, ?_⟩
    rw [s_set]
    simp only [w_if, w_val, w_cb, w_cons, w_nil, w_var, w_c, w_bin, w_tup, List.getElem?_cons_zero, List.getElem?_cons_succ, List.set_cons_zero, List.set_cons_succ]
    refine m_ok _ S'' _ (fun d hd => ⟨kStmts, hsn.ok d hd _ (Nat.le_refl _)⟩) fun z => ?_
    rw [w_fI]
    refine ⟨rfl, _, rfl, ?_⟩
    have hp3 : Pot p (c + 1 + ((k + 1 : Nat) : Int) * (Cst j : Nat)) S'' := hp2.le (by rw [hb2]; omega)
    split
    · refine ⟨k + 1, acc ++ [y], _, _, rfl, x.trans x2, by omega, by rw [List.length_append, List.length_singleton]; omega, hp3, ⟨fun p S => (hsn.vl p S).le (Nat.le_refl _) (Nat.le_refl _) ?_ (Nat.le_refl _), hsn.ok⟩⟩
      rw [List.length_append, List.length_singleton, Nat.add_mul, Nat.one_mul]
      omega
    · exact ⟨k + 1, acc, _, _, rfl, x.trans x2, by omega, by omega, hp3, ha⟩
  · rintro ⟨k, acc, w5, w6, rfl, x, hn, hk, hp, ha⟩
    rw [List.length_nil] at hn
    simp only [s_ret, w_var, List.getElem?_cons_zero, List.getElem?_cons_succ]
    have hb : ((k : Nat) : Int) * (Cst j : Nat) ≤ (u : Nat) * (Cst j : Nat) := Int.mul_le_mul_of_nonneg_right (by omega) (by omega)
    exact q acc S' x (hp.le (by push_cast at hb ⊢; omega)) ⟨fun p S => (ha.vl p S).le (Nat.le_refl _) (Nat.le_refl _) (Nat.mul_le_mul_right _ (by omega)) (Nat.le_refl _), ha.ok⟩ (by omega)
end Mn

set_option Elab.async false
set_option linter.all false
set_option maxRecDepth 100000
set_option maxHeartbeats 4000000
/-! Mn: the laws' own frame: cells, laps. No program here. -/
namespace Mn
open PySem PySem.Spec PyProof.Rows L2
theorem w_allL {S : Sto} {n : Nat} {ds : List D} {Q : D → Sto → Prop} (h : S[n]? = some (.lst ds)) (ht : ∀ d ∈ ds, d = .bl true) : (cAll [.ref n] S).wp Q ↔ Q (.bl true) S := by
  have bl : ∀ ds : List D, (∀ d ∈ ds, d = .bl true) → blsOf ds = some (ds.map fun _ => true) := by
    intro ds
    induction ds with
    | nil => intro _; rfl
    | cons d r ih =>
      intro ht
      rw [ht d List.mem_cons_self]
      show (blsOf r).map (true :: ·) = _
      rw [ih fun e he => ht e (List.mem_cons_of_mem _ he)]
      rfl
  have e : cAll [.ref n] S = .ok (.bl true) S := by
    show (match S[n]? with | some (.lst xs) => (match blsOf xs with | some bs => Res.ok (D.bl (bs.all id)) _ | none => .bad) | _ => .bad) = _
    rw [h]
    show (match blsOf ds with | some bs => Res.ok (D.bl (bs.all id)) _ | none => .bad) = _
    rw [bl ds ht]
    have : (ds.map fun _ => true).all id = true := by
      rw [List.all_map]
      exact List.all_eq_true.mpr fun _ _ => rfl
    show Res.ok (D.bl ((ds.map fun _ => true).all id)) S = _
    rw [this]
  rw [e]
  exact Iff.rfl
/-- all([f(..) for lap in range(n)]), each lap true -/
theorem alls_wp {p m : Nat} {c : Int} {C : Nat} {S0 S : Sto} {ρ : En} {i : Nat} {elt : M} {Q : D → Sto → Prop} (hm : m ≤ 100) (hi : Pot p c S) (x0 : Ext p S0 S)
    (he : ∀ (k : Nat) (d : D) (S' : Sto) (Q' : D → Sto → Prop), k < m → Ext p S0 S' → Pot p (c + (k : Nat) * (C : Nat)) S' → (∀ S'', Ext p S' S'' → Pot p (c + ((k + 1 : Nat) : Int) * (C : Nat)) S'' → Q' (.bl true) S'') → (elt ((wipeE ρ [i]).set i (some d)) S').wp Q')
    (q : ∀ S', Ext p S0 S' → Pot p (c + (m : Nat) * (C : Nat)) S' → Q (.bl true) S') :
    (mCompL (.nm i) tYesM elt always S.length (wipeE ρ [i]) ((List.range m).map fun i => D.int (0 + (i : Nat))) (S ++ [.lst []])).wp fun x S => (cAll [x] S).wp Q := by
  have hp0 := hi.lt
  have hlen : S0.length ≤ S.length := x0.1
  refine comp_wp (I := fun l acc S' => Ext p S0 S' ∧ S.length ≤ S'.length ∧ Pot p (c + (acc.length : Nat) * (C : Nat)) S' ∧ (∀ d ∈ acc, d = D.bl true) ∧ acc.length + l.length = m) (fun _ _ _ _ => rfl) (fun d l acc S' => ?_) (fun acc S' => ?_) _ [] _ ⟨x0.app _, by rw [List.length_append]; omega, by
      have := hi.app [.lst []]
      simpa using this, (fun d h => by cases h), by simp⟩ List.getElem?_concat_length
  · rintro ⟨x, hl, hp, ha, hn⟩ hs
    refine ⟨_, rfl, ?_⟩
    rw [List.length_cons] at hn
    refine he acc.length d S' _ (by omega) x hp fun S'' x2 hp2 => ⟨x2.at_ hs (by omega), ?_, ?_, ?_, ?_, ?_, ?_⟩
    · have : acc.length < 100 := by omega
      rw [sizeLine_eq]
      omega
    · exact (x.trans x2).set (by omega) _
    · rw [List.length_set]
      exact Nat.le_trans hl x2.1
    · rw [List.length_append, List.length_singleton]
      exact hp2.set (by omega) _
    · intro e he
      rcases List.mem_append.mp he with h | h
      · exact ha e h
      · exact List.mem_singleton.mp h
    · rw [List.length_append, List.length_singleton]
      omega
  · rintro ⟨x, hl, hp, ha, hn⟩ hs
    rw [w_allL hs ha]
    rw [List.length_nil] at hn
    have e : acc.length = m := by omega
    rw [e] at hp
    exact q S' x hp
/-- the frame: cells up to u, laps n -/
def fLaw (u n : Int) (pot right : F) : F := mDef 1 4 (sSeq (sFor (iRange1 (aCons (mCB cMax (aCons (mC (.int 1)) (aCons (mCB cMin (aCons (mC (.int u)) (aCons (mCB cLen (aCons (mVar 0) aNil)) aNil))) aNil))) aNil)) (.nm 1) (sSeq (sSet 2 (mCB pot (aCons (mVar 0) (aCons (mVar 1) aNil))))
  (sIf (tNot (tVal (mCB cAll (aCons (mComp (iRange1 (aCons (mC (.int n)) aNil)) (.nm 3) tYesM (mCB right (aCons (mVar 2) aNil)) [3]) aNil)))) (sRet (mC (.bl false))) sNil)))
  (sRet (mC (.bl true))))
/-- one lap, right -/
def RightOk (C : Nat) (right : F) : Prop := ∀ (p : Nat) (c : Int) (S : Sto) (Q : D → Sto → Prop), Pot p c S → c + (C : Nat) < 2 ^ 40 → (∀ S', Ext p S S' → Pot p (c + (C : Nat)) S' → Q (.bl true) S') → (right [.ref p] S).wp Q
theorem law_wp0 {u n : Int} {m : Nat} {C : Nat} {right : F} (hu : u ≤ 4) (hm : n = (m : Nat)) (hn : m ≤ 100) (hC : m * C < 2 ^ 40) (R : RightOk C right) (ns : List Int) (Q : D → Sto → Prop) (q : ∀ S, Q (.bl true) S) : (fLaw u n fPot right [.fls (ns.map D.int)] []).wp Q := by
  unfold fLaw
  refine w_def rfl ?_
  rw [s_seq, s_for, i_range1]
  simp only [w_cb, w_cons, w_nil, w_var, w_c, List.map_cons, List.map_nil, List.length_cons, List.length_nil, List.cons_append, List.nil_append, List.getElem?_cons_zero, List.getElem?_cons_succ, List.reduceReplicate, Nat.reduceAdd, Nat.reduceSub]
  rw [w_lenF, w_min, w_max]
  generalize hj : (if (if (((ns.map D.int).length : Nat) : Int) < u then (((ns.map D.int).length : Nat) : Int) else u) > 1 then (if (((ns.map D.int).length : Nat) : Int) < u then (((ns.map D.int).length : Nat) : Int) else u) else 1) = j
  have j0 : 0 ≤ j ∧ j ≤ 4 := by
    rw [← hj]
    split <;> (try split) <;> omega
  refine ⟨j, rfl, by unfold smallI; rw [decide_eq_true (by omega), decide_eq_true (by omega)]; rfl, ?_⟩
  refine loop_wp (fun l ρ S' => ∃ w1 w2 w3, ρ = [some (.fls (ns.map D.int)), w1, w2, w3] ∧ ∀ d ∈ l, ∃ k : Int, d = .int k ∧ 0 ≤ k ∧ k < 4) (fun _ _ _ _ => rfl) (fun d l ρ S' => ?_) (fun ρ S' => ?_) _ _ [] ⟨_, _, _, rfl, fun d hd => ?_⟩
  · rintro ⟨w1, w2, w3, rfl, hl⟩
    obtain ⟨k, rfl, k0, k1⟩ := hl d List.mem_cons_self
    refine ⟨_, rfl, ?_⟩
    rw [s_seq, s_set]
    simp only [w_cb, w_cons, w_nil, w_var, w_c, List.getElem?_cons_zero, List.getElem?_cons_succ, List.set_cons_zero, List.set_cons_succ]
    refine pot_wp k0 (by omega) fun a b ha hb => ?_
    have hp : Pot S'.length 0 (S' ++ [.lst [.int a, .int b, .int 0]]) := ⟨a, b, 0, List.getElem?_concat_length, ha, hb, Int.le_refl _, Int.le_refl _⟩
    rw [s_if]
    simp only [w_tnot, w_val, w_cb, w_cons, w_nil, s_ret, w_c]
    refine w_comp rfl ?_
    rw [i_range1]
    simp only [w_cons, w_nil, w_c]
    refine ⟨n, rfl, by unfold smallI; rw [decide_eq_true (by omega), decide_eq_true (by omega)]; rfl, ?_⟩
    rw [show n.toNat = m by omega]
    refine alls_wp (C := C) hn hp (Ext.refl _ _) (fun k' d' S2 Q' hk' x2 hp2 q' => ?_) (fun S2 x2 hp2 => ⟨_, rfl, ?_⟩)
    · simp only [w_cb, w_cons, w_nil, w_var, wipeE, List.getElem?_cons_zero, List.getElem?_cons_succ, List.set_cons_zero, List.set_cons_succ]
      have hb2 : (((k' + 1 : Nat) : Int)) * (C : Nat) = ((k' : Nat) : Int) * (C : Nat) + (C : Nat) := by push_cast; rw [Int.add_mul, Int.one_mul]
      have hb : (((k' + 1 : Nat) : Int)) * (C : Nat) ≤ (m : Nat) * (C : Nat) := Int.mul_le_mul_of_nonneg_right (by omega) (by omega)
      refine R _ _ S2 _ hp2 (by push_cast at hC hb hb2 ⊢; omega) fun S3 x3 hp3 => q' S3 x3 (by rw [hb2]; exact hp3.le (by omega))
    · rw [if_neg (by simp)]
      exact ⟨_, _, _, rfl, fun e he => hl e (List.mem_cons_of_mem _ he)⟩
  · rintro ⟨w1, w2, w3, rfl, _⟩
    rw [s_ret, w_c]
    exact q _
  · obtain ⟨i, hi, rfl⟩ := List.mem_map.mp hd
    have := List.mem_range.mp hi
    exact ⟨_, rfl, by omega, by omega⟩
theorem law_wp {u n : Int} {m : Nat} {C : Nat} {right : F} (hu : u ≤ 4) (hm : n = (m : Nat)) (hn : m ≤ 100) (hC : m * C < 2 ^ 40) (R : RightOk C right) (ns : List Int) : ∃ S', fLaw u n fPot right [.fls (ns.map D.int)] [] = .ok (.bl true) S' := by
  obtain ⟨d, S', e, h⟩ := wp_ex (law_wp0 hu hm hn hC R ns (fun d _ => d = .bl true) fun _ => rfl)
  rw [e, h]
  exact ⟨S', rfl⟩
end Mn

set_option Elab.async false
set_option linter.all false
set_option maxRecDepth 100000
set_option maxHeartbeats 4000000
/-! the reader: attributes, methods, loops; the next word. No program here. -/
namespace Mn
open PySem PySem.Spec PyProof.Rows L2
/-- note_of -/
def g_note_of  : F := mDef 1 1 (sRet (mMt "str" fStripC (mSl (mVar 0) (oSome (mC (.int 1))) oNone) (aCons (mC (.str " ")) aNil)))
/-- end_of -/
def g_end_of  : F := mDef 2 3 (sSeq (sIf (tVal (mBin fEq (mBin fIx (mVar 0) (mVar 1)) (mC (.str "#")))) (sRet (mCB cLen (aCons (mVar 0) aNil))) sNil)
  (sSeq (sSet 2 (mBin fAdd (mVar 1) (mC (.int 1))))
  (sSeq (sIf (tVal (mBin fIn (mBin fIx (mVar 0) (mVar 1)) (mBin fAdd (mC (.str "abcdefghijklmnopqrstuvwxyz")) (mC (.str "0123456789"))))) (sWhile wN (tAnd (tVal (mBin fLt (mVar 2) (mCB cLen (aCons (mVar 0) aNil)))) (tVal (mBin fIn (mBin fIx (mVar 0) (mVar 2)) (mBin fAdd (mC (.str "abcdefghijklmnopqrstuvwxyz")) (mC (.str "0123456789")))))) (sAugI 2 (mC (.int 1)))) sNil)
  (sRet (mVar 2)))))
/-- words_in -/
def g_words_in (c_end_of : F) : F := mDef 2 5 (sSeq (sPar 2 3 (aCons (mLst aNil) (aCons (mC (.int 0)) aNil)))
  (sSeq (sWhile wN (tVal (mBin fLt (mVar 3) (mCB cLen (aCons (mVar 0) aNil)))) (sSeq (sSet 4 (mCB c_end_of (aCons (mVar 0) (aCons (mVar 3) aNil))))
  (sSeq (sIf (tVal (mBin fNe (mBin fIx (mVar 0) (mVar 3)) (mC (.str " ")))) (sDrop (mMt "list" fAppend (mVar 2) (aCons (mTup (aCons (mMt "str" fRstripC (mSl (mVar 0) (oSome (mVar 3)) (oSome (mVar 4))) (aCons (mC (.str " ")) aNil)) (aCons (mVar 1) (aCons (mVar 3) aNil)))) aNil))) sNil)
  (sSet 3 (mVar 4)))))
  (sRet (mVar 2))))
/-- words_of -/
def g_words_of (c_words_in : F) : F := mDef 1 4 (sSeq (sSet 1 (mLst aNil))
  (sSeq (sFor (iEnum2 (aCons (mMt "str" fSplit (mVar 0) (aCons (mC (.str "\n")) aNil)) aNil)) (.tp [(.nm 2), (.nm 3)]) (sDrop (mMt "list" fExtend (mVar 1) (aCons (mCB c_words_in (aCons (mVar 3) (aCons (mBin fAdd (mVar 2) (mC (.int 1))) aNil))) aNil))))
  (sRet (mVar 1))))
/-- node_of -/
def g_node_of  : F := mDef 4 4 (sRet (mTup (aCons (mVar 0) (aCons (mVar 1) (aCons (mVar 2) (aCons (mVar 3) aNil))))))
/-- Reader.__init__ -/
def g_Reader___init__ (c_words_of : F) : F := mDef 2 2 (sSeq (sAtt "Reader" "own_words" (mVar 0) (mCB c_words_of (aCons (mVar 1) aNil)))
  (sSeq (sAtt "Reader" "own_rows" (mVar 0) (mBin fAdd (mMt "str" fCount (mVar 1) (aCons (mC (.str "\n")) aNil)) (mC (.int 1))))
  (sAtt "Reader" "own_at" (mVar 0) (mC (.int 0)))))
/-- Reader.next_word -/
def g_Reader_next_word  : F := mDef 1 1 (sRet (mIf (tVal (mBin fLt (mAtt "Reader" "own_at" (mVar 0)) (mCB cLen (aCons (mAtt "Reader" "own_words" (mVar 0)) aNil)))) (mBin fIx (mBin fIx (mAtt "Reader" "own_words" (mVar 0)) (mAtt "Reader" "own_at" (mVar 0))) (mC (.int 0))) (mC (.str ""))))
/-- Reader.take -/
def g_Reader_take (c_Reader_next_word : F) (c_Reader_refuse : F) : F := mDef 2 2 (sSeq (sIf (tVal (mBin fNe (mMeth "Reader" "next_word" c_Reader_next_word (mVar 0) aNil) (mVar 1))) (sDrop (mMeth "Reader" "refuse" c_Reader_refuse (mVar 0) aNil)) sNil)
  (sSeq (sAttAdd "Reader" "own_at" (mVar 0) (mC (.int 1)))
  (sRet (mBin fSub (mAtt "Reader" "own_at" (mVar 0)) (mC (.int 1))))))
/-- Reader.take_name -/
def g_Reader_take_name (c_Reader_next_word : F) (c_is_name : F) (c_Reader_refuse : F) : F := mDef 1 2 (sSeq (sSet 1 (mMeth "Reader" "next_word" c_Reader_next_word (mVar 0) aNil))
  (sSeq (sIf (tNot (tVal (mCB c_is_name (aCons (mVar 1) aNil)))) (sDrop (mMeth "Reader" "refuse" c_Reader_refuse (mVar 0) aNil)) sNil)
  (sSeq (sAttAdd "Reader" "own_at" (mVar 0) (mC (.int 1)))
  (sRet (mVar 1)))))
/-- Reader.statements -/
def g_Reader_statements (c_Reader_next_word : F) (c_Reader_statement : F) : F := mDef 1 2 (sSeq (sSet 1 (mLst aNil))
  (sSeq (sWhile wN (tVal (mBin fNotIn (mMeth "Reader" "next_word" c_Reader_next_word (mVar 0) aNil) (mTup (aCons (mC (.str "")) (aCons (mC (.str "}")) aNil))))) (sDrop (mMt "list" fAppend (mVar 1) (aCons (mMeth "Reader" "statement" c_Reader_statement (mVar 0) aNil) aNil))))
  (sRet (mCB cTuple (aCons (mVar 1) aNil)))))
/-- Reader.statement -/
def g_Reader_statement (c_Reader_next_word : F) (c_Reader_branching : F) (c_Reader_giving : F) (c_Reader_noting : F) (c_note_of : F) (c_Reader_setting : F) : F := mDef 1 2 (sSeq (sSet 1 (mMeth "Reader" "next_word" c_Reader_next_word (mVar 0) aNil))
  (sSeq (sIf (tVal (mBin fIn (mVar 1) (mTup (aCons (mC (.str "if")) (aCons (mC (.str "loop")) aNil))))) (sRet (mMeth "Reader" "branching" c_Reader_branching (mVar 0) (aCons (mVar 1) aNil))) sNil)
  (sSeq (sIf (tVal (mBin fEq (mVar 1) (mC (.str "give")))) (sRet (mMeth "Reader" "giving" c_Reader_giving (mVar 0) aNil)) sNil)
  (sSeq (sIf (tVal (mBin fEq (mBin fIx (mVar 1) (mC (.int 0))) (mC (.str "#")))) (sRet (mMeth "Reader" "noting" c_Reader_noting (mVar 0) (aCons (mCB c_note_of (aCons (mVar 1) aNil)) aNil))) sNil)
  (sRet (mMeth "Reader" "setting" c_Reader_setting (mVar 0) aNil))))))
/-- Reader.noting -/
def g_Reader_noting (c_is_note : F) (c_Reader_refuse : F) (c_node_of : F) : F := mDef 2 2 (sSeq (sIf (tNot (tVal (mCB c_is_note (aCons (mVar 1) aNil)))) (sDrop (mMeth "Reader" "refuse" c_Reader_refuse (mVar 0) aNil)) sNil)
  (sSeq (sAttAdd "Reader" "own_at" (mVar 0) (mC (.int 1)))
  (sRet (mCB c_node_of (aCons (mTup (aCons (mC (.str "note")) (aCons (mVar 1) aNil))) (aCons (mTup aNil) (aCons (mBin fSub (mAtt "Reader" "own_at" (mVar 0)) (mC (.int 1))) (aCons (mBin fSub (mAtt "Reader" "own_at" (mVar 0)) (mC (.int 1))) aNil))))))))
/-- Reader.giving -/
def g_Reader_giving (c_Reader_take : F) (c_Reader_expression : F) (c_node_of : F) : F := mDef 1 3 (sSeq (sPar 1 2 (aCons (mMeth "Reader" "take" c_Reader_take (mVar 0) (aCons (mC (.str "give")) aNil)) (aCons (mMeth "Reader" "expression" c_Reader_expression (mVar 0) aNil) aNil)))
  (sRet (mCB c_node_of (aCons (mTup (aCons (mC (.str "give")) aNil)) (aCons (mTup (aCons (mTup (aCons (mVar 2) aNil)) aNil)) (aCons (mVar 1) (aCons (mMeth "Reader" "take" c_Reader_take (mVar 0) (aCons (mC (.str ";")) aNil)) aNil)))))))
/-- Reader.setting -/
def g_Reader_setting (c_Reader_take_name : F) (c_Reader_next_word : F) (c_Reader_take : F) (c_Reader_expression : F) (c_node_of : F) (c_Reader_expressions : F) : F := mDef 1 5 (sSeq (sPar 2 3 (aCons (mAtt "Reader" "own_at" (mVar 0)) (aCons (mMeth "Reader" "take_name" c_Reader_take_name (mVar 0) aNil) aNil)))
  (sSeq (sIf (tVal (mBin fEq (mMeth "Reader" "next_word" c_Reader_next_word (mVar 0) aNil) (mC (.str "=")))) (sSeq (sDrop (mMeth "Reader" "take" c_Reader_take (mVar 0) (aCons (mC (.str "=")) aNil)))
  (sSeq (sSet 4 (mMeth "Reader" "expression" c_Reader_expression (mVar 0) aNil))
  (sRet (mCB c_node_of (aCons (mTup (aCons (mC (.str "set")) (aCons (mVar 3) aNil))) (aCons (mTup (aCons (mTup (aCons (mVar 4) aNil)) aNil)) (aCons (mVar 2) (aCons (mMeth "Reader" "take" c_Reader_take (mVar 0) (aCons (mC (.str ";")) aNil)) aNil)))))))) sNil)
  (sSeq (sDrop (mMeth "Reader" "take" c_Reader_take (mVar 0) (aCons (mC (.str "(")) aNil)))
  (sSeq (sSet 1 (mMeth "Reader" "expressions" c_Reader_expressions (mVar 0) (aCons (mC (.str ")")) aNil)))
  (sSeq (sDrop (mMeth "Reader" "take" c_Reader_take (mVar 0) (aCons (mC (.str ")")) aNil)))
  (sRet (mCB c_node_of (aCons (mTup (aCons (mC (.str "run")) (aCons (mVar 3) aNil))) (aCons (mTup (aCons (mVar 1) aNil)) (aCons (mVar 2) (aCons (mMeth "Reader" "take" c_Reader_take (mVar 0) (aCons (mC (.str ";")) aNil)) aNil)))))))))))
/-- Reader.block -/
def g_Reader_block (c_Reader_take : F) (c_Reader_statements : F) : F := mDef 1 1 (sSeq (sDrop (mMeth "Reader" "take" c_Reader_take (mVar 0) (aCons (mC (.str "{")) aNil)))
  (sRet (mTup (aCons (mMeth "Reader" "statements" c_Reader_statements (mVar 0) aNil) (aCons (mMeth "Reader" "take" c_Reader_take (mVar 0) (aCons (mC (.str "}")) aNil)) aNil)))))
/-- Reader.branching -/
def g_Reader_branching (c_Reader_take : F) (c_Reader_expression : F) (c_Reader_block : F) (c_node_of : F) (c_Reader_next_word : F) : F := mDef 2 9 (sSeq (sPar 3 4 (aCons (mMeth "Reader" "take" c_Reader_take (mVar 0) (aCons (mVar 1) aNil)) (aCons (mMeth "Reader" "expression" c_Reader_expression (mVar 0) aNil) aNil)))
  (sSeq (sAsg (.tp [(.nm 5), (.nm 6)]) (mMeth "Reader" "block" c_Reader_block (mVar 0) aNil))
  (sSeq (sIf (tVal (mBin fEq (mVar 1) (mC (.str "loop")))) (sRet (mCB c_node_of (aCons (mTup (aCons (mVar 1) aNil)) (aCons (mTup (aCons (mTup (aCons (mVar 4) aNil)) (aCons (mVar 5) aNil))) (aCons (mVar 3) (aCons (mVar 6) aNil)))))) sNil)
  (sSeq (sSet 2 (mTup aNil))
  (sSeq (sIf (tVal (mBin fEq (mMeth "Reader" "next_word" c_Reader_next_word (mVar 0) aNil) (mC (.str "else")))) (sSeq (sSet 7 (mMeth "Reader" "take" c_Reader_take (mVar 0) (aCons (mC (.str "else")) aNil)))
  (sSeq (sAsg (.tp [(.nm 8), (.nm 6)]) (mMeth "Reader" "block" c_Reader_block (mVar 0) aNil))
  (sSet 2 (mTup (aCons (mCB c_node_of (aCons (mTup (aCons (mC (.str "else")) aNil)) (aCons (mTup (aCons (mVar 8) aNil)) (aCons (mVar 7) (aCons (mVar 6) aNil))))) aNil))))) sNil)
  (sRet (mCB c_node_of (aCons (mTup (aCons (mVar 1) aNil)) (aCons (mTup (aCons (mTup (aCons (mVar 4) aNil)) (aCons (mVar 5) (aCons (mVar 2) aNil)))) (aCons (mVar 3) (aCons (mVar 6) aNil)))))))))))
/-- Reader.expressions -/
def g_Reader_expressions (c_Reader_next_word : F) (c_Reader_expression : F) (c_Reader_take : F) : F := mDef 2 3 (sSeq (sSet 2 (mLst aNil))
  (sSeq (sWhile wN (tVal (mBin fNe (mMeth "Reader" "next_word" c_Reader_next_word (mVar 0) aNil) (mVar 1))) (sSeq (sDrop (mMt "list" fAppend (mVar 2) (aCons (mMeth "Reader" "expression" c_Reader_expression (mVar 0) aNil) aNil)))
  (sIf (tVal (mBin fNe (mMeth "Reader" "next_word" c_Reader_next_word (mVar 0) aNil) (mVar 1))) (sDrop (mMeth "Reader" "take" c_Reader_take (mVar 0) (aCons (mC (.str ",")) aNil))) sNil)))
  (sRet (mCB cTuple (aCons (mVar 2) aNil)))))
/-- Reader.expression -/
def g_Reader_expression (c_Reader_term : F) (c_node_of : F) (c_Reader_next_word : F) (c_Reader_take : F) : F := mDef 1 6 (sSeq (sSet 1 (mMeth "Reader" "term" c_Reader_term (mVar 0) aNil))
  (sSeq (sSet 2 (mLst (aCons (mCB c_node_of (aCons (mTup (aCons (mC (.str "plus")) aNil)) (aCons (mTup (aCons (mTup (aCons (mVar 1) aNil)) aNil)) (aCons (mBin fIx (mVar 1) (mC (.int 2))) (aCons (mBin fIx (mVar 1) (mC (.int 3))) aNil))))) aNil)))
  (sSeq (sWhile wN (tVal (mBin fIn (mMeth "Reader" "next_word" c_Reader_next_word (mVar 0) aNil) (mTup (aCons (mC (.str "+")) (aCons (mC (.str "-")) aNil))))) (sSeq (sSet 3 (mIf (tVal (mBin fEq (mMeth "Reader" "next_word" c_Reader_next_word (mVar 0) aNil) (mC (.str "+")))) (mC (.str "plus")) (mC (.str "minus"))))
  (sSeq (sSet 4 (mMeth "Reader" "take" c_Reader_take (mVar 0) (aCons (mMeth "Reader" "next_word" c_Reader_next_word (mVar 0) aNil) aNil)))
  (sSeq (sSet 5 (mMeth "Reader" "term" c_Reader_term (mVar 0) aNil))
  (sDrop (mMt "list" fAppend (mVar 2) (aCons (mCB c_node_of (aCons (mTup (aCons (mVar 3) aNil)) (aCons (mTup (aCons (mTup (aCons (mVar 5) aNil)) aNil)) (aCons (mVar 4) (aCons (mBin fIx (mVar 5) (mC (.int 3))) aNil))))) aNil)))))))
  (sRet (mIf (tVal (mBin fEq (mCB cLen (aCons (mVar 2) aNil)) (mC (.int 1)))) (mVar 1) (mCB c_node_of (aCons (mTup (aCons (mC (.str "sum")) aNil)) (aCons (mTup (aCons (mCB cTuple (aCons (mVar 2) aNil)) aNil)) (aCons (mBin fIx (mVar 1) (mC (.int 2))) (aCons (mBin fIx (mBin fIx (mVar 2) (mUn fNeg (mC (.int 1)))) (mC (.int 3))) aNil))))))))))
/-- Reader.term -/
def g_Reader_term (c_Reader_next_word : F) (c_Reader_take : F) (c_Reader_expression : F) (c_node_of : F) (c_Reader_expressions : F) (c_is_number : F) (c_Reader_take_name : F) : F := mDef 1 6 (sSeq (sPar 3 4 (aCons (mMeth "Reader" "next_word" c_Reader_next_word (mVar 0) aNil) (aCons (mAtt "Reader" "own_at" (mVar 0)) aNil)))
  (sSeq (sIf (tVal (mBin fEq (mVar 3) (mC (.str "(")))) (sSeq (sDrop (mMeth "Reader" "take" c_Reader_take (mVar 0) (aCons (mVar 3) aNil)))
  (sSeq (sSet 5 (mMeth "Reader" "expression" c_Reader_expression (mVar 0) aNil))
  (sRet (mCB c_node_of (aCons (mTup (aCons (mC (.str "in")) aNil)) (aCons (mTup (aCons (mTup (aCons (mVar 5) aNil)) aNil)) (aCons (mVar 4) (aCons (mMeth "Reader" "take" c_Reader_take (mVar 0) (aCons (mC (.str ")")) aNil)) aNil)))))))) sNil)
  (sSeq (sIf (tVal (mBin fEq (mVar 3) (mC (.str "[")))) (sSeq (sDrop (mMeth "Reader" "take" c_Reader_take (mVar 0) (aCons (mVar 3) aNil)))
  (sSeq (sSet 2 (mMeth "Reader" "expressions" c_Reader_expressions (mVar 0) (aCons (mC (.str "]")) aNil)))
  (sRet (mCB c_node_of (aCons (mTup (aCons (mC (.str "list")) aNil)) (aCons (mTup (aCons (mVar 2) aNil)) (aCons (mVar 4) (aCons (mMeth "Reader" "take" c_Reader_take (mVar 0) (aCons (mC (.str "]")) aNil)) aNil)))))))) sNil)
  (sSeq (sIf (tVal (mCB c_is_number (aCons (mVar 3) aNil))) (sRet (mCB c_node_of (aCons (mTup (aCons (mC (.str "number")) (aCons (mVar 3) aNil))) (aCons (mTup aNil) (aCons (mVar 4) (aCons (mMeth "Reader" "take" c_Reader_take (mVar 0) (aCons (mVar 3) aNil)) aNil)))))) sNil)
  (sSeq (sSet 1 (mMeth "Reader" "take_name" c_Reader_take_name (mVar 0) aNil))
  (sSeq (sIf (tVal (mBin fNe (mMeth "Reader" "next_word" c_Reader_next_word (mVar 0) aNil) (mC (.str "(")))) (sRet (mCB c_node_of (aCons (mTup (aCons (mC (.str "name")) (aCons (mVar 1) aNil))) (aCons (mTup aNil) (aCons (mVar 4) (aCons (mVar 4) aNil)))))) sNil)
  (sSeq (sDrop (mMeth "Reader" "take" c_Reader_take (mVar 0) (aCons (mC (.str "(")) aNil)))
  (sSeq (sSet 2 (mMeth "Reader" "expressions" c_Reader_expressions (mVar 0) (aCons (mC (.str ")")) aNil)))
  (sRet (mCB c_node_of (aCons (mTup (aCons (mC (.str "call")) (aCons (mVar 1) aNil))) (aCons (mTup (aCons (mVar 2) aNil)) (aCons (mVar 4) (aCons (mMeth "Reader" "take" c_Reader_take (mVar 0) (aCons (mC (.str ")")) aNil)) aNil))))))))))))))
/-- nodes_of -/
def g_nodes_of (c_Reader___init__ : F) (c_Reader_statements : F) (c_Reader_next_word : F) (c_Reader_refuse : F) : F := mDef 1 3 (sSeq (sIf (tNot (tVal (mIsi "str" (mVar 0)))) sBad sNil)
  (sSeq (sSet 1 (mMake "Reader" c_Reader___init__ (aCons (mVar 0) aNil)))
  (sSeq (sSet 2 (mMeth "Reader" "statements" c_Reader_statements (mVar 1) aNil))
  (sSeq (sIf (tVal (mBin fNe (mMeth "Reader" "next_word" c_Reader_next_word (mVar 1) aNil) (mC (.str "")))) (sDrop (mMeth "Reader" "refuse" c_Reader_refuse (mVar 1) aNil)) sNil)
  (sRet (mTup (aCons (mVar 2) (aCons (mAtt "Reader" "own_words" (mVar 1)) aNil))))))))
/-- parts_of -/
def g_parts_of (c_parts_of : F) : F := mDef 1 6 (sRet (mCB cTuple (aCons (mComp (iVal (mVar 0)) (.tp [(.nm 1), (.nm 2), (.nm 3), (.nm 4)]) tYesM (mTup (aCons (mVar 1) (aCons (mCB cTuple (aCons (mComp (iVal (mVar 2)) (.nm 5) tYesM (mCB c_parts_of (aCons (mVar 5) aNil)) [5]) aNil)) aNil))) [1, 2, 3, 4]) aNil)))
/-- read -/
def g_read (c_nodes_of : F) (c_parts_of : F) : F := mDef 1 3 (sSeq (sAsg (.tp [(.nm 1), (.nm 2)]) (mCB c_nodes_of (aCons (mVar 0) aNil)))
  (sRet (mCB c_parts_of (aCons (mVar 1) aNil))))

section
variable {ρ : En} {S : Sto} {Q : D → Sto → Prop} {N : En → Sto → Prop} {R : D → Sto → Prop} {c f m : Str} {mo mv : M} {ma : MA} {fn : F}
theorem w_att : (mAtt c f mo ρ S).wp Q ↔ (mo ρ S).wp fun d S => ∃ n fs e, insD S c d = some (n, fs) ∧ fs.lookup f = some e ∧ Q e S := by
  unfold mAtt
  simp only [wp_bind]
  constructor <;> intro h <;> refine wp_mono h fun d S h => ?_
  · split at h
    · split at h
      · exact ⟨_, _, _, by assumption, by assumption, h⟩
      · exact h.elim
    · exact h.elim
  · obtain ⟨n, fs, e, h1, h2, h⟩ := h
    rw [h1]
    show Res.wp (match fs.lookup f with | some e => .ok e S | none => .bad) Q
    rw [h2]
    exact h
theorem w_meth : (mMeth c m fn mo ma ρ S).wp Q ↔ (mo ρ S).wp fun x S => ∃ n fs, insD S c x = some (n, fs) ∧ fs.lookup m = none ∧ (ma ρ S).wp fun ds S => (fn (x :: ds) S).wp Q := by
  unfold mMeth
  simp only [wp_bind]
  constructor <;> intro h <;> refine wp_mono h fun d S h => ?_
  · split at h
    · split at h
      · exact ⟨_, _, by assumption, by assumption, wp_bind.mp h⟩
      · exact h.elim
    · exact h.elim
  · obtain ⟨n, fs, h1, h2, h⟩ := h
    rw [h1]
    show Res.wp (if fs.lookup m = none then (ma ρ S).bind fun ds S2 => fn (d :: ds) S2 else .bad) Q
    rw [if_pos h2]
    exact wp_bind.mpr h
theorem w_make : (mMake c fn ma ρ S).wp Q ↔ (ma ρ S).wp fun ds S1 => (fn (.ref S1.length :: ds) (S1 ++ [.ins c []])).wp fun d S2 => d = .non ∧ Q (.ref S1.length) S2 := by
  unfold mMake
  simp only [wp_bind]
  constructor <;> intro h <;> refine wp_mono h fun ds S1 h => wp_mono h fun d S2 h => ?_
  · split at h
    · exact ⟨rfl, h⟩
    · exact h.elim
  · rw [h.1]; exact h.2
theorem s_att : (sAtt c f mo mv ρ S).wp N R ↔ (mv ρ S).wp fun y S => (mo ρ S).wp fun x S => ∃ n fs, insD S c x = some (n, fs) ∧ fs.length < 1000 ∧ N ρ (S.set n (.ins c (putFD f y fs))) := by
  unfold sAtt
  simp only [wp_st]
  constructor <;> intro h <;> refine wp_mono h fun d S h => wp_mono h fun x S h => ?_
  · split at h
    · split at h
      · exact ⟨_, _, by assumption, by assumption, h⟩
      · exact h.elim
    · exact h.elim
  · obtain ⟨n, fs, h1, h2, h⟩ := h
    rw [h1]
    show RS.wp (if fs.length < 1000 then .nx ρ (S.set n (.ins c (putFD f d fs))) else .bad) N R
    rw [if_pos h2]
    exact h
theorem insD_of {n : Nat} {fs : List (Str × D)} (h : S[n]? = some (.ins c fs)) : insD S c (.ref n) = some (n, fs) := by
  show (match S[n]? with | some (.ins c' fs) => if c' = c then some (n, fs) else none | _ => none) = _
  rw [h]
  exact if_pos rfl
/-- o.f += i -/
theorem s_attAdd {n : Nat} {fs : List (Str × D)} {i j : Int} {ρ : En} {mo mv : M} (h1 : ∀ Q, (mo ρ S).wp Q ↔ Q (.ref n) S) (h2 : ∀ Q, (mv ρ S).wp Q ↔ Q (.int j) S) (hs : S[n]? = some (.ins c fs)) (hl : fs.lookup f = some (.int i)) (hz : fs.length < 1000) :
    (sAttAdd c f mo mv ρ S).wp N R ↔ N ρ (S.set n (.ins c (putFD f (.int (i + j)) fs))) := by
  unfold sAttAdd
  rw [wp_st, h1]
  try dsimp only
  rw [insD_of hs]
  try dsimp only
  rw [hl]
  try dsimp only
  rw [wp_st, h2]
  try dsimp only
  rw [hs]
  try dsimp only
  rw [if_pos ⟨rfl, hz⟩]
  exact Iff.rfl
end
/-- a while loop: I of the turns that may be left -/
theorem while_wp {t : MT} {body : MS} {N : En → Sto → Prop} {R : D → Sto → Prop} (I : Nat → En → Sto → Prop)
    (h : ∀ k ρ S, I k ρ S → (t ρ S).wp fun x S1 => if x = true then (body ρ S1).wp (fun ρ2 S2 => ∃ j, j < k ∧ I j ρ2 S2) R else N ρ S1) : ∀ (n k : Nat) (ρ : En) (S : Sto), k < n → I k ρ S → (mWhile t body n ρ S).wp N R
  | 0, k, ρ, S, hk, _ => by omega
  | n + 1, k, ρ, S, hk, hi => by
    show RS.wp ((t ρ S).st ρ fun x S1 => if x = true then match body ρ S1 with
      | .nx ρ2 S2 => mWhile t body n ρ2 S2
      | .ct ρ2 S2 => mWhile t body n ρ2 S2
      | .bk ρ2 S2 => .nx ρ2 S2
      | .rt d S2 => .rt d S2
      | .ex c n ρ2 S2 => .ex c n ρ2 S2
      | .bad => .bad
    else .nx ρ S1) N R
    rw [wp_st]
    refine wp_mono (h k ρ S hi) fun x S1 hx => ?_
    cases x with
    | true =>
      rw [if_pos rfl] at hx ⊢
      generalize body ρ S1 = r at hx ⊢
      cases r with
      | nx ρ2 S2 =>
        obtain ⟨j, hj, hi2⟩ := hx
        exact while_wp I h n j ρ2 S2 (by omega) hi2
      | rt d S2 => exact hx
      | _ => exact hx.elim
    | false =>
      rw [if_neg Bool.false_ne_true] at hx ⊢
      exact hx
theorem s_while {t : MT} {body : MS} {N : En → Sto → Prop} {R : D → Sto → Prop} {n : Nat} {ρ : En} {S : Sto} : (sWhile n t body ρ S).wp N R ↔ (mWhile t body n ρ S).wp N R := Iff.rfl
/-! ### the reader as an object -/
def rdF (wl : Nat) (rows : Int) (i : Nat) : List (Str × D) := [("own_words", .ref wl), ("own_rows", .int rows), ("own_at", .int (i : Nat))]
/-- the words of a list of words with their places -/
structure Wds (W : List Str) (wds : List D) : Prop where
  len : wds.length = W.length
  at_ : ∀ (j : Nat) (w : Str), W[j]? = some w → ∃ r, wds[j]? = some (.tup (.str w :: r))
structure Rdr (a wl : Nat) (wds : List D) (rows : Int) (i : Nat) (S : Sto) : Prop where
  at_ : S[a]? = some (.ins "Reader" (rdF wl rows i))
  ws : S[wl]? = some (.lst wds)
  ne : wl ≠ a
section
variable {a wl : Nat} {wds : List D} {rows : Int} {i : Nat} {S S' : Sto} {W : List Str} {Q : D → Sto → Prop}
theorem Rdr.lt (h : Rdr a wl wds rows i S) : a < S.length := (List.getElem?_eq_some_iff.mp h.at_).1
theorem Rdr.app (h : Rdr a wl wds rows i S) (l : List Ob) : Rdr a wl wds rows i (S ++ l) := ⟨by rw [List.getElem?_append_left h.lt]; exact h.at_, by rw [List.getElem?_append_left (List.getElem?_eq_some_iff.mp h.ws).1]; exact h.ws, h.ne⟩
theorem Rdr.set (h : Rdr a wl wds rows i S) {m : Nat} (h1 : m ≠ a) (h2 : m ≠ wl) (o : Ob) : Rdr a wl wds rows i (S.set m o) := ⟨by rw [List.getElem?_set_ne h1]; exact h.at_, by rw [List.getElem?_set_ne h2]; exact h.ws, h.ne⟩
/-- one word on -/
abbrev stp (a wl : Nat) (rows : Int) (i : Nat) (S : Sto) : Sto := S.set a (.ins "Reader" (rdF wl rows (i + 1)))
theorem Rdr.step (h : Rdr a wl wds rows i S) : Rdr a wl wds rows (i + 1) (stp a wl rows i S) := ⟨List.getElem?_set_self h.lt, by rw [List.getElem?_set_ne (Ne.symm h.ne)]; exact h.ws, h.ne⟩
theorem Rdr.stepX (h : Rdr a wl wds rows i S) : Ext a S (stp a wl rows i S) := (Ext.refl a S).put _
def nxt (W : List Str) (i : Nat) : Str := (W[i]?).getD ""
theorem look_words : (rdF wl rows i).lookup ("own_words" : Str) = some (D.ref wl) := rfl
theorem look_at : (rdF wl rows i).lookup ("own_at" : Str) = some (D.int (i : Nat)) := by
  unfold rdF
  have h1 : (("own_at" : Str) == "own_words") = false := by decide +kernel
  have h2 : (("own_at" : Str) == "own_rows") = false := by decide +kernel
  simp only [List.lookup, h1, h2]
  rfl
theorem put_at : putFD "own_at" (.int ((i : Nat) + 1)) (rdF wl rows i) = rdF wl rows (i + 1) := by
  have h1 : ¬ (("own_words" : Str) = "own_at") := by decide +kernel
  have h2 : ¬ (("own_rows" : Str) = "own_at") := by decide +kernel
  unfold rdF
  simp only [putFD, if_neg h1, if_neg h2, if_true]
  rfl
theorem look_meth {m : Str} (h : m ≠ "own_words" ∧ m ≠ "own_rows" ∧ m ≠ "own_at") : (rdF wl rows i).lookup m = none := by
  unfold rdF
  have h1 : (m == "own_words") = false := beq_eq_false_iff_ne.mpr h.1
  have h2 : (m == "own_rows") = false := beq_eq_false_iff_ne.mpr h.2.1
  have h3 : (m == "own_at") = false := beq_eq_false_iff_ne.mpr h.2.2
  simp only [List.lookup, h1, h2, h3]
theorem next_wp (h : Rdr a wl wds rows i S) (hw : Wds W wds) (q : Q (.str (nxt W i)) S) : (g_Reader_next_word [.ref a] S).wp Q := by
  unfold g_Reader_next_word
  refine w_def rfl ?_
  rw [s_ret, w_if, w_val, w_bin, w_att]
  simp only [w_att, w_bin, w_cb, w_cons, w_nil, w_var, w_c, List.map_cons, List.map_nil, List.length_cons, List.length_nil, List.cons_append, List.nil_append, List.getElem?_cons_zero, List.getElem?_cons_succ, List.reduceReplicate, Nat.reduceAdd, Nat.reduceSub]
  refine ⟨a, _, _, insD_of h.at_, look_at, a, _, _, insD_of h.at_, look_words, ?_⟩
  rw [w_lenL h.ws, w_fI]
  refine ⟨rfl, _, rfl, ?_⟩
  by_cases hi : i < W.length
  · rw [if_pos (decide_eq_true (by rw [hw.len]; omega))]
    refine ⟨a, _, _, insD_of h.at_, look_words, a, _, _, insD_of h.at_, look_at, ?_⟩
    obtain ⟨w, hwi⟩ : ∃ w, W[i]? = some w := ⟨W[i], List.getElem?_eq_getElem hi⟩
    obtain ⟨r, hr⟩ := hw.at_ i w hwi
    rw [w_ixL h.ws]
    refine ⟨.tup (.str w :: r), ?_, ?_⟩
    · unfold atI
      rw [show ixN wds.length (i : Int) = some i by unfold ixN; rw [if_pos (by omega), if_pos (by rw [hw.len]; omega)]; simp]
      exact hr
    · rw [w_ixT]
      refine ⟨_, atI_zero _ _, ?_⟩
      have e : nxt W i = w := by unfold nxt; rw [hwi]; rfl
      rw [← e]
      exact q
  · rw [if_neg (by rw [hw.len]; simp; omega)]
    have e : nxt W i = "" := by unfold nxt; rw [List.getElem?_eq_none (by omega)]; rfl
    rw [← e]
    exact q
theorem take_wd {rf : F} {x : Str} (h : Rdr a wl wds rows i S) (hw : Wds W wds) (hx : nxt W i = x) (q : Q (.int (i : Nat)) (stp a wl rows i S)) : (g_Reader_take g_Reader_next_word rf [.ref a, .str x] S).wp Q := by
  unfold g_Reader_take
  refine w_def rfl ?_
  rw [s_seq, s_if, w_val, w_bin, w_meth]
  simp only [w_nil, w_var, w_c, List.map_cons, List.map_nil, List.length_cons, List.length_nil, List.cons_append, List.nil_append, List.getElem?_cons_zero, List.getElem?_cons_succ, List.reduceReplicate, Nat.reduceAdd, Nat.reduceSub]
  refine ⟨a, _, insD_of h.at_, look_meth (by decide +kernel), ?_⟩
  refine next_wp h hw ?_
  rw [hx, w_ne eqN_str]
  refine ⟨_, rfl, ?_⟩
  rw [if_neg (by simp), s_nil, s_seq]
  refine (s_attAdd (i := (i : Nat)) (j := 1) (n := a) (fs := rdF wl rows i) (fun Q => by rw [w_var]; exact Iff.rfl) (fun Q => Iff.rfl) h.at_ look_at (by show 3 < 1000; decide)).mpr ?_
  rw [put_at]
  rw [s_ret, w_bin, w_att]
  simp only [w_var, w_c, List.getElem?_cons_zero]
  refine ⟨a, _, _, insD_of h.step.at_, look_at, ?_⟩
  rw [w_fI]
  refine ⟨rfl, ?_⟩
  rw [show (((i + 1 : Nat) : Int) - 1) = (i : Nat) by omega]
  exact q
theorem takeName_wd {rf : F} (h : Rdr a wl wds rows i S) (hw : Wds W wds) (hx : nameB (nxt W i) = true) (q : ∀ l : List Ob, Q (.str (nxt W i)) (stp a wl rows i (S ++ l))) : (g_Reader_take_name g_Reader_next_word (g_is_name g_are_all) rf [.ref a] S).wp Q := by
  unfold g_Reader_take_name
  refine w_def rfl ?_
  rw [s_seq, s_set, w_meth]
  simp only [w_nil, w_var, w_c, List.map_cons, List.map_nil, List.length_cons, List.length_nil, List.cons_append, List.nil_append, List.getElem?_cons_zero, List.getElem?_cons_succ, List.set_cons_zero, List.set_cons_succ, List.reduceReplicate, Nat.reduceAdd, Nat.reduceSub]
  refine ⟨a, _, insD_of h.at_, look_meth (by decide +kernel), ?_⟩
  refine next_wp h hw ?_
  rw [s_seq, s_if, w_tnot, w_val, w_cb, w_cons]
  simp only [w_nil, w_var, List.getElem?_cons_zero, List.getElem?_cons_succ]
  have hb := hx
  unfold nameB at hb
  rw [Bool.and_eq_true, Bool.and_eq_true] at hb
  have h8 := of_decide_eq_true hb.2.1
  refine name_wp (d := .str (nxt W i)) trivial (fun x e => by
    injection e with e
    rw [← e, sizeLine_eq]
    omega) fun l => ⟨_, rfl, ?_⟩
  show if (!nameB (nxt W i)) = true then _ else _
  rw [hx, if_neg (by decide), s_nil, s_seq]
  refine (s_attAdd (i := (i : Nat)) (j := 1) (n := a) (fs := rdF wl rows i) (fun Q => by rw [w_var]; exact Iff.rfl) (fun Q => Iff.rfl) (h.app l).at_ look_at (by show 3 < 1000; decide)).mpr ?_
  rw [put_at]
  rw [s_ret, w_var]
  exact q l
end
end Mn

set_option Elab.async false
set_option linter.all false
set_option maxRecDepth 100000
set_option maxHeartbeats 4000000
/-! expressions: as trees, as words, as nodes; what is read of them. No program here. -/
namespace Mn
open PySem PySem.Spec PyProof.Rows L2
inductive Ex where
  | nam (x : Str)
  | num (x : Str)
  | call (x : Str) (es : List Ex)
  | lst (es : List Ex)
  | inn (e : Ex)
  | sum (e : Ex) (ss : List Bool) (es : List Ex)
def Ex.isTerm : Ex → Bool
  | .sum _ _ _ => false
  | _ => true
/-- plus, minus: the kind, the sign -/
def sgK : Bool → Str
  | true => "plus"
  | false => "minus"
def sgS : Bool → Str
  | true => "+"
  | false => "-"
def limbD (b : Bool) (d : D) : D := .tup [.tup [.str (sgK b)], .tup [.tup [d]]]
mutual
def Ex.d : Ex → D
  | .nam x => .tup [.tup [.str "name", .str x], .tup []]
  | .num x => .tup [.tup [.str "number", .str x], .tup []]
  | .call x es => .tup [.tup [.str "call", .str x], .tup [.tup (Ex.ds es)]]
  | .lst es => .tup [.tup [.str "list"], .tup [.tup (Ex.ds es)]]
  | .inn e => .tup [.tup [.str "in"], .tup [.tup [e.d]]]
  | .sum e ss es => .tup [.tup [.str "sum"], .tup [.tup (limbD true e.d :: Ex.ls ss es)]]
def Ex.ds : List Ex → List D
  | [] => []
  | e :: es => e.d :: Ex.ds es
def Ex.ls : List Bool → List Ex → List D
  | _, [] => []
  | [], _ :: _ => []
  | b :: ss, e :: es => limbD b e.d :: Ex.ls ss es
end
mutual
/-- these words are that expression -/
def Ex.tk : Ex → List Str → Prop
  | .nam x, ts => ts = [x] ∧ nameB x = true
  | .num x, ts => ts = [x] ∧ numB x = true
  | .call x es, ts => nameB x = true ∧ ∃ u : List Str, ts = x :: ("(" : Str) :: (u ++ [(")" : Str)]) ∧ Ex.tks es u
  | .lst es, ts => ∃ u : List Str, ts = ("[" : Str) :: (u ++ [("]" : Str)]) ∧ Ex.tks es u
  | .inn e, ts => ∃ u : List Str, ts = ("(" : Str) :: (u ++ [(")" : Str)]) ∧ Ex.tk e u
  | .sum e ss es, ts => e.isTerm = true ∧ ss ≠ [] ∧ ∃ u v, ts = u ++ v ∧ Ex.tk e u ∧ Ex.tss ss es v
def Ex.tks : List Ex → List Str → Prop
  | [], ts => ts = []
  | e :: es, ts => ∃ u v : List Str, ts = u ++ v ∧ Ex.tk e u ∧ ((es = [] ∧ (v = [] ∨ v = [("," : Str)])) ∨ (es ≠ [] ∧ ∃ r : List Str, v = ("," : Str) :: r ∧ Ex.tks es r))
def Ex.tss : List Bool → List Ex → List Str → Prop
  | ss, [], ts => ss = [] ∧ ts = []
  | [], _ :: _, _ => False
  | b :: ss, e :: es, ts => e.isTerm = true ∧ ∃ u v : List Str, ts = sgS b :: (u ++ v) ∧ Ex.tk e u ∧ Ex.tss ss es v
end
mutual
def Ex.ht : Ex → Nat
  | .nam _ => 1
  | .num _ => 1
  | .call _ es => Ex.hts es + 1
  | .lst es => Ex.hts es + 1
  | .inn e => e.ht + 1
  | .sum e _ es => max e.ht (Ex.hts es) + 2
def Ex.hts : List Ex → Nat
  | [] => 0
  | e :: es => max e.ht (Ex.hts es)
end
/-! ### nodes -/
def stripL (f : D → Option D) : List D → Option (List D)
  | [] => some []
  | d :: r => match f d, stripL f r with
    | some a, some b => some (a :: b)
    | _, _ => none
def stripLots (f : D → Option D) : List D → Option (List D)
  | [] => some []
  | d :: r => match d with
    | .tup ns => match stripL f ns, stripLots f r with
      | some a, some b => some (.tup a :: b)
      | _, _ => none
    | _ => none
/-- a node's part -/
def strip : Nat → D → Option D
  | n + 1, .tup [lab, .tup lots, .int _, .int _] => (stripLots (strip n) lots).map fun ls => .tup [lab, .tup ls]
  | _, _ => none
def Nd (h : Nat) (d e : D) : Prop := ∀ n, h ≤ n → strip n d = some e
def Nds (h : Nat) (ds es : List D) : Prop := ∀ n, h ≤ n → stripL (strip n) ds = some es
theorem Nd.le {h h' : Nat} {d e : D} (a : Nd h d e) (z : h ≤ h') : Nd h' d e := fun n hn => a n (Nat.le_trans z hn)
theorem Nds.le {h h' : Nat} {d e : List D} (a : Nds h d e) (z : h ≤ h') : Nds h' d e := fun n hn => a n (Nat.le_trans z hn)
theorem Nds.nil {h : Nat} : Nds h [] [] := fun _ _ => rfl
theorem stripL_app {f : D → Option D} : ∀ {a b c d : List D}, stripL f a = some c → stripL f b = some d → stripL f (a ++ b) = some (c ++ d)
  | [], b, c, d, h1, h2 => by
    have h1 : some [] = some c := h1
    injection h1 with h1
    subst h1
    exact h2
  | x :: a, b, c, d, h1, h2 => by
    unfold stripL at h1
    split at h1
    · rename_i y z e1 e2
      injection h1 with h1
      subst h1
      show (match f x, stripL f (a ++ b) with | some p, some q => some (p :: q) | _, _ => none) = _
      rw [e1, stripL_app e2 h2]
      rfl
    · cases h1
theorem Nds.snoc {h : Nat} {ds es : List D} {d e : D} (a : Nds h ds es) (b : Nd h d e) : Nds h (ds ++ [d]) (es ++ [e]) := fun n hn => stripL_app (a n hn) (by
  show (match strip n d, (some [] : Option (List D)) with | some p, some q => some (p :: q) | _, _ => none) = _
  rw [b n hn])
theorem Nds.one {h : Nat} {d e : D} (b : Nd h d e) : Nds h [d] [e] := Nds.nil.snoc b
def nodeD (lab : D) (lots : List D) (f l : Int) : D := .tup [lab, .tup lots, .int f, .int l]
theorem Nd.mk0 {lab : D} {f l : Int} : Nd 1 (nodeD lab [] f l) (.tup [lab, .tup []]) := fun n hn => by
  obtain ⟨m, rfl⟩ : ∃ m, n = m + 1 := ⟨n - 1, by omega⟩
  rfl
theorem Nd.mk1 {h : Nat} {lab : D} {f l : Int} {ns es : List D} (a : Nds h ns es) : Nd (h + 1) (nodeD lab [.tup ns] f l) (.tup [lab, .tup [.tup es]]) := fun n hn => by
  obtain ⟨m, rfl⟩ : ∃ m, n = m + 1 := ⟨n - 1, by omega⟩
  show (match stripL (strip m) ns, (some [] : Option (List D)) with | some a, some b => some (D.tup a :: b) | _, _ => none).map (fun ls => D.tup [lab, .tup ls]) = _
  rw [a m (by omega)]
  rfl
theorem Nd.mk2 {h : Nat} {lab : D} {f l : Int} {ns es ns2 es2 : List D} (a : Nds h ns es) (b : Nds h ns2 es2) : Nd (h + 1) (nodeD lab [.tup ns, .tup ns2] f l) (.tup [lab, .tup [.tup es, .tup es2]]) := fun n hn => by
  obtain ⟨m, rfl⟩ : ∃ m, n = m + 1 := ⟨n - 1, by omega⟩
  have e2 : stripLots (strip m) [.tup ns2] = some [.tup es2] := by
    show (match stripL (strip m) ns2, (some [] : Option (List D)) with | some a, some b => some (D.tup a :: b) | _, _ => none) = _
    rw [b m (by omega)]
  show (match stripL (strip m) ns, stripLots (strip m) [.tup ns2] with | some a, some b => some (D.tup a :: b) | _, _ => none).map (fun ls => D.tup [lab, .tup ls]) = _
  rw [a m (by omega), e2]
  rfl
theorem Nd.mk3 {h : Nat} {lab : D} {f l : Int} {ns es ns2 es2 ns3 es3 : List D} (a : Nds h ns es) (b : Nds h ns2 es2) (c : Nds h ns3 es3) : Nd (h + 1) (nodeD lab [.tup ns, .tup ns2, .tup ns3] f l) (.tup [lab, .tup [.tup es, .tup es2, .tup es3]]) := fun n hn => by
  obtain ⟨m, rfl⟩ : ∃ m, n = m + 1 := ⟨n - 1, by omega⟩
  have e3 : stripLots (strip m) [.tup ns3] = some [.tup es3] := by
    show (match stripL (strip m) ns3, (some [] : Option (List D)) with | some a, some b => some (D.tup a :: b) | _, _ => none) = _
    rw [c m (by omega)]
  have e2 : stripLots (strip m) [.tup ns2, .tup ns3] = some [.tup es2, .tup es3] := by
    show (match stripL (strip m) ns2, stripLots (strip m) [.tup ns3] with | some a, some b => some (D.tup a :: b) | _, _ => none) = _
    rw [b m (by omega), e3]
  show (match stripL (strip m) ns, stripLots (strip m) [.tup ns2, .tup ns3] with | some a, some b => some (D.tup a :: b) | _, _ => none).map (fun ls => D.tup [lab, .tup ls]) = _
  rw [a m (by omega), e2]
  rfl
theorem Nd.shape {h : Nat} {d e : D} (a : Nd h d e) : ∃ lab lots f l, d = .tup [lab, .tup lots, .int f, .int l] := by
  have := a (h + 1) (by omega)
  unfold strip at this
  split at this
  · exact ⟨_, _, _, _, rfl⟩
  · cases this
theorem node_w {S : Sto} {Q : D → Sto → Prop} {lab : D} {lots : List D} {f l : Int} (q : Q (nodeD lab lots f l) S) : (g_node_of [lab, .tup lots, .int f, .int l] S).wp Q := by
  unfold g_node_of
  refine w_def rfl ?_
  simp only [s_ret, w_tup, w_cons, w_nil, w_var, List.map_cons, List.map_nil, List.length_cons, List.length_nil, List.cons_append, List.nil_append, List.getElem?_cons_zero, List.getElem?_cons_succ, List.reduceReplicate, Nat.reduceAdd, Nat.reduceSub]
  exact ⟨by rw [sizeLine_eq]; decide, q⟩
/-! ### words ahead -/
theorem drop_hd {W : List Str} {i : Nat} {t : Str} {r : List Str} (h : W.drop i = t :: r) : nxt W i = t ∧ W.drop (i + 1) = r := by
  have e : W[i]? = some t := by
    have := List.getElem?_drop (xs := W) (i := i) (j := 0)
    rw [h] at this
    simpa using this.symm
  refine ⟨by unfold nxt; rw [e]; rfl, ?_⟩
  rw [← List.drop_drop, h]
  rfl
theorem drop_nil {W : List Str} {i : Nat} (h : W.drop i = []) : nxt W i = "" := by
  have : W.length ≤ i := List.drop_eq_nil_iff.mp h
  unfold nxt
  rw [List.getElem?_eq_none this]
  rfl
theorem drop_app {W : List Str} {i : Nat} {u v : List Str} (h : W.drop i = u ++ v) : W.drop (i + u.length) = v := by
  rw [← List.drop_drop, h, List.drop_left]
/-- a word with which an expression begins -/
def Fst (t : Str) : Prop := nameB t = true ∨ numB t = true ∨ t = "(" ∨ t = "["
theorem Fst.ne {t : Str} (h : Fst t) : t ∉ ([")", "]", ",", "", "+", "-", "=", ";", "{", "}"] : List Str) := by
  have key : ([")", "]", ",", "", "+", "-", "=", ";", "{", "}"] : List Str).all (fun t => !(nameB t) && (!(numB t) && (!(decide (t = "(")) && !(decide (t = "["))))) = true := by decide +kernel
  intro hm
  have := List.all_eq_true.mp key t hm
  rw [Bool.and_eq_true, Bool.and_eq_true, Bool.and_eq_true] at this
  obtain ⟨h1, h2, h3, h4⟩ := this
  rcases h with h | h | h | h
  · rw [h] at h1; cases h1
  · rw [h] at h2; cases h2
  · rw [decide_eq_true h] at h3; cases h3
  · rw [decide_eq_true h] at h4; cases h4
mutual
theorem tk_fst : ∀ {e : Ex} {ts : List Str}, e.tk ts → ∃ t r, ts = t :: r ∧ Fst t
  | .nam x, ts, h => ⟨x, [], h.1, .inl h.2⟩
  | .num x, ts, h => ⟨x, [], h.1, .inr (.inl h.2)⟩
  | .call x es, ts, h => by
    obtain ⟨h1, u, h2, _⟩ := h
    exact ⟨x, _, h2, .inl h1⟩
  | .lst es, ts, h => by
    obtain ⟨u, h2, _⟩ := h
    exact ⟨_, _, h2, .inr (.inr (.inr rfl))⟩
  | .inn e, ts, h => by
    obtain ⟨u, h2, _⟩ := h
    exact ⟨_, _, h2, .inr (.inr (.inl rfl))⟩
  | .sum e ss es, ts, h => by
    obtain ⟨_, _, u, v, h2, h3, _⟩ := h
    obtain ⟨t, r, h4, h5⟩ := tk_fst h3
    exact ⟨t, r ++ v, by rw [h2, h4]; rfl, h5⟩
end
theorem tks_len : ∀ {es : List Ex} {ts : List Str}, Ex.tks es ts → es.length ≤ ts.length
  | [], _, _ => Nat.zero_le _
  | e :: es, ts, h => by
    obtain ⟨u, v, h1, h2, h3⟩ := h
    obtain ⟨t, r, h4, _⟩ := tk_fst h2
    rw [h1, h4, List.length_append, List.length_cons, List.length_cons]
    rcases h3 with ⟨rfl, _⟩ | ⟨_, r', rfl, h5⟩
    · rw [List.length_nil]
      omega
    · have := tks_len h5
      rw [List.length_cons]
      omega
theorem tss_len : ∀ {ss : List Bool} {es : List Ex} {ts : List Str}, Ex.tss ss es ts → es.length ≤ ts.length ∧ ss.length = es.length
  | ss, [], ts, h => by
    have h : ss = [] ∧ ts = [] := by cases ss <;> exact h
    rw [h.1]
    exact ⟨Nat.zero_le _, rfl⟩
  | [], _ :: _, _, h => h.elim
  | b :: ss, e :: es, ts, h => by
    obtain ⟨_, u, v, h1, h2, h3⟩ := h
    have := tss_len h3
    rw [h1, List.length_cons, List.length_cons, List.length_append, List.length_cons]
    omega
theorem name_num {x : Str} (h : nameB x = true) : numB x = false := by
  refine eq_false_of_ne_true fun hn => ?_
  unfold nameB at h
  unfold numB at hn
  rw [Bool.and_eq_true, Bool.and_eq_true, Bool.and_eq_true] at h
  rw [Bool.and_eq_true, Bool.and_eq_true, Bool.and_eq_true] at hn
  have h1 := of_decide_eq_true h.1
  obtain ⟨c, e1, e2⟩ := head_at h1
  have hc : c ∈ x.cps.toList := by
    cases hx : x.cps.toList with
    | nil => rw [hx] at e2; cases e2
    | cons y r =>
      rw [hx] at e2
      injection e2 with e2
      rw [e2]
      exact List.mem_cons_self
  have l1 := of_decide_eq_true (List.all_eq_true.mp h.2.2.1 c hc)
  have l2 := of_decide_eq_true (List.all_eq_true.mp hn.2.2.1 c hc)
  have key : (("abcdefghijklmnopqrstuvwxyz" : Str).cps.toList.all fun c => !(decide (c ∈ ("0123456789" : Str).cps.toList))) = true := by decide +kernel
  have := List.all_eq_true.mp key c l1
  rw [decide_eq_true l2] at this
  cases this
end Mn

set_option Elab.async false
set_option linter.all false
set_option maxRecDepth 100000
set_option maxHeartbeats 4000000
/-! expressions are read. No program here. -/
namespace Mn
open PySem PySem.Spec PyProof.Rows L2
abbrev nW : F := g_Reader_next_word
def Stop (rest : List Str) : Prop := rest.head? ≠ some ("(" : Str) ∧ rest.head? ≠ some ("+" : Str) ∧ rest.head? ≠ some ("-" : Str)
theorem stop_cons {t : Str} {r : List Str} (h : t ≠ "(" ∧ t ≠ "+" ∧ t ≠ "-") : Stop (t :: r) := ⟨fun z => h.1 (by injection z), fun z => h.2.1 (by injection z), fun z => h.2.2 (by injection z)⟩
/-- f reads at the words ts that mean x: what is left behind it must not go on; the answer stands for d -/
def ReadOk (f : F) (args : List D) (stop : List Str → Prop) (tk : List Str → Prop) (P : D → Prop) : Prop := ∀ (a wl : Nat) (wds : List D) (W : List Str) (rows : Int) (i : Nat) (S : Sto) (ts rest : List Str) (Q : D → Sto → Prop),
  Rdr a wl wds rows i S → Wds W wds → W.length < 1000000 → W.drop i = ts ++ rest → tk ts → stop rest → (∀ d S', Ext a S S' → Rdr a wl wds rows (i + ts.length) S' → P d → Q d S') → (f (.ref a :: args) S).wp Q
abbrev TermOk (f : F) (e : Ex) : Prop := ReadOk f [] (fun r => r.head? ≠ some ("(" : Str)) e.tk (fun d => Nd e.ht d e.d)
abbrev ExprOk (f : F) (e : Ex) : Prop := ReadOk f [] Stop e.tk (fun d => Nd e.ht d e.d)
abbrev ExprsOk (f : F) (es : List Ex) (cl : Str) : Prop := ReadOk f [.str cl] (fun r => r.head? = some cl) (Ex.tks es) (fun d => ∃ ns, d = .tup ns ∧ Nds (Ex.hts es) ns (Ex.ds es))
abbrev gTerm (tk e es tn : F) : F := g_Reader_term nW tk e g_node_of es (g_is_number g_are_all) tn
abbrev gTake (rf : F) : F := g_Reader_take nW rf
abbrev gTakeN (rf : F) : F := g_Reader_take_name nW (g_is_name g_are_all) rf
theorem hd_nxt {W : List Str} {i : Nat} {r : List Str} {x : Str} (h : W.drop i = r) (hx : x ≠ "") : (r.head? = some x ↔ nxt W i = x) := by
  cases r with
  | nil =>
    rw [drop_nil h]
    constructor
    · intro z; cases z
    · intro z; exact absurd z.symm hx
  | cons t r =>
    rw [(drop_hd h).1]
    constructor
    · intro z; injection z
    · intro z; rw [z]; rfl
/-- the parts of a term: what calls need -/
theorem term_ok {rf e es : F} {x : Ex} (ht : x.isTerm = true)
    (he : ∀ y, x = .inn y → ExprOk e y) (hes : ∀ y ys, x = .call y ys → ExprsOk es ys ")") (hls : ∀ ys, x = .lst ys → ExprsOk es ys "]") : TermOk (gTerm (gTake rf) e es (gTakeN rf)) x := by
  intro a wl wds W rows i S ts rest Q h hw hW hd hk hst q
  have sl : ∀ n : Nat, n ≤ 200 → n ≤ sizeLine := fun n h => by rw [sizeLine_eq]; omega
  obtain ⟨t, r, ets, hf⟩ := tk_fst hk
  have hd0 : W.drop i = t :: (r ++ rest) := by rw [hd, ets]; rfl
  obtain ⟨ht0, hd1⟩ := drop_hd hd0
  unfold gTerm g_Reader_term
  refine w_def rfl ?_
  rw [s_seq, s_par]
  simp only [w_cons, w_nil, w_var, w_meth, w_att, List.map_cons, List.map_nil, List.length_cons, List.length_nil, List.cons_append, List.nil_append, List.getElem?_cons_zero, List.getElem?_cons_succ, List.set_cons_zero, List.set_cons_succ, List.reduceReplicate, Nat.reduceAdd, Nat.reduceSub]
  refine ⟨a, _, insD_of h.at_, look_meth (by decide +kernel), ?_⟩
  refine next_wp h hw ?_
  refine ⟨a, _, _, insD_of h.at_, look_at, _, _, rfl, ?_⟩
  rw [ht0]
  rw [s_seq, s_if]
  simp only [w_val, w_bin, w_var, w_c, List.getElem?_cons_zero, List.getElem?_cons_succ]
  rw [w_eq eqN_str]
  refine ⟨_, rfl, ?_⟩
  have no : ∀ z : Str, z ∈ ([("(" : Str), "["] : List Str) → nameB t = true ∨ numB t = true → t ≠ z := by
    intro z hz hn e
    have key : ([("(" : Str), "["] : List Str).all (fun t => !(nameB t) && !(numB t)) = true := by decide +kernel
    have := List.all_eq_true.mp key z hz
    rw [Bool.and_eq_true] at this
    rw [← e] at this
    rcases hn with hn | hn
    · rw [hn] at this; cases this.1
    · rw [hn] at this; cases this.2
  cases x with
  | sum _ _ _ => cases ht
  | inn y =>
    obtain ⟨u, hu, hku⟩ := hk
    rw [hu] at ets
    injection ets with e1 e2
    subst e1
    rw [if_pos (by rw [beq_iff_eq]), s_seq, s_drop]
    simp only [w_cons, w_nil, w_var, w_meth, List.getElem?_cons_zero, List.getElem?_cons_succ]
    refine ⟨a, _, insD_of h.at_, look_meth (by decide +kernel), ?_⟩
    refine take_wd h hw ht0 ?_
    rw [s_seq, s_set]
    simp only [w_cons, w_nil, w_var, w_meth, List.getElem?_cons_zero, List.getElem?_cons_succ]
    refine ⟨a, _, insD_of h.step.at_, look_meth (by decide +kernel), ?_⟩
    rw [← e2, List.append_assoc] at hd1
    refine he y rfl a wl wds W rows (i + 1) _ u ([(")" : Str)] ++ rest) _ h.step hw hW hd1 hku (stop_cons (by decide +kernel)) fun d S1 x1 h1 n1 => ?_
    simp only [List.set_cons_zero, List.set_cons_succ]
    rw [s_ret]
    simp only [w_cb, w_cons, w_nil, w_var, w_c, w_tup, w_meth, List.getElem?_cons_zero, List.getElem?_cons_succ]
    refine ⟨sl _ (by simp), sl _ (by simp), sl _ (by simp), a, _, insD_of h1.at_, look_meth (by decide +kernel), ?_⟩
    refine take_wd h1 hw (drop_hd (drop_app hd1)).1 (node_w ?_)
    refine q _ _ ((h.stepX.trans x1).trans h1.stepX) ?_ (Nd.mk1 (Nds.one n1))
    have := h1.step
    rw [hu, List.length_cons, List.length_append, List.length_singleton, show i + (u.length + 1 + 1) = i + 1 + u.length + 1 by omega]
    exact this
  | lst ys =>
    obtain ⟨u, hu, hku⟩ := hk
    rw [hu] at ets
    injection ets with e1 e2
    subst e1
    rw [if_neg (by decide +kernel), s_nil, s_seq, s_if]
    simp only [w_val, w_bin, w_var, w_c, List.getElem?_cons_zero, List.getElem?_cons_succ]
    rw [w_eq eqN_str]
    refine ⟨_, rfl, ?_⟩
    rw [if_pos (by rw [beq_iff_eq]), s_seq, s_drop]
    simp only [w_cons, w_nil, w_var, w_meth, List.getElem?_cons_zero, List.getElem?_cons_succ]
    refine ⟨a, _, insD_of h.at_, look_meth (by decide +kernel), ?_⟩
    refine take_wd h hw ht0 ?_
    rw [s_seq, s_set]
    simp only [w_cons, w_nil, w_var, w_c, w_meth, List.getElem?_cons_zero, List.getElem?_cons_succ]
    refine ⟨a, _, insD_of h.step.at_, look_meth (by decide +kernel), ?_⟩
    rw [← e2, List.append_assoc] at hd1
    refine hls ys rfl a wl wds W rows (i + 1) _ u ([("]" : Str)] ++ rest) _ h.step hw hW hd1 hku rfl fun d S1 x1 h1 n1 => ?_
    obtain ⟨ns, rfl, n1⟩ := n1
    simp only [List.set_cons_zero, List.set_cons_succ]
    rw [s_ret]
    simp only [w_cb, w_cons, w_nil, w_var, w_c, w_tup, w_meth, List.getElem?_cons_zero, List.getElem?_cons_succ]
    refine ⟨sl _ (by simp), sl _ (by simp), a, _, insD_of h1.at_, look_meth (by decide +kernel), ?_⟩
    refine take_wd h1 hw (drop_hd (drop_app hd1)).1 (node_w ?_)
    refine q _ _ ((h.stepX.trans x1).trans h1.stepX) ?_ (Nd.mk1 n1)
    have := h1.step
    rw [hu, List.length_cons, List.length_append, List.length_singleton, show i + (u.length + 1 + 1) = i + 1 + u.length + 1 by omega]
    exact this
  | num y =>
    obtain ⟨hu, hn⟩ := hk
    rw [hu] at ets
    injection ets with e1 e2
    subst e1 e2
    rw [if_neg (by rw [beq_iff_eq]; exact no _ (by simp) (.inr hn)), s_nil, s_seq, s_if]
    simp only [w_val, w_bin, w_var, w_c, List.getElem?_cons_zero, List.getElem?_cons_succ]
    rw [w_eq eqN_str]
    refine ⟨_, rfl, ?_⟩
    rw [if_neg (by rw [beq_iff_eq]; exact no _ (by simp) (.inr hn)), s_nil, s_seq, s_if]
    simp only [w_val, w_cb, w_cons, w_nil, w_var, List.getElem?_cons_zero, List.getElem?_cons_succ]
    have h6 := hn
    unfold numB at h6
    rw [Bool.and_eq_true, Bool.and_eq_true] at h6
    have h6 := of_decide_eq_true h6.2.1
    refine number_wp (d := .str y) trivial (fun x e => by injection e with e; rw [← e, sizeLine_eq]; omega) fun l => ⟨_, rfl, ?_⟩
    show if numB y = true then _ else _
    rw [if_pos hn, s_ret]
    simp only [w_cb, w_cons, w_nil, w_var, w_c, w_tup, w_meth, List.getElem?_cons_zero, List.getElem?_cons_succ]
    refine ⟨sl _ (by simp), sl _ (by simp), a, _, insD_of (h.app l).at_, look_meth (by decide +kernel), ?_⟩
    refine take_wd (h.app l) hw ht0 (node_w ?_)
    refine q _ _ (((Ext.refl a S).app l).trans (h.app l).stepX) ?_ Nd.mk0
    have := (h.app l).step
    rw [hu]
    exact this
  | nam y =>
    obtain ⟨hu, hn⟩ := hk
    rw [hu] at ets
    injection ets with e1 e2
    subst e1 e2
    rw [if_neg (by rw [beq_iff_eq]; exact no _ (by simp) (.inl hn)), s_nil, s_seq, s_if]
    simp only [w_val, w_bin, w_var, w_c, List.getElem?_cons_zero, List.getElem?_cons_succ]
    rw [w_eq eqN_str]
    refine ⟨_, rfl, ?_⟩
    rw [if_neg (by rw [beq_iff_eq]; exact no _ (by simp) (.inl hn)), s_nil, s_seq, s_if]
    simp only [w_val, w_cb, w_cons, w_nil, w_var, List.getElem?_cons_zero, List.getElem?_cons_succ]
    have h6 := hn
    unfold nameB at h6
    rw [Bool.and_eq_true, Bool.and_eq_true] at h6
    have h6 := of_decide_eq_true h6.2.1
    refine number_wp (d := .str y) trivial (fun x e => by injection e with e; rw [← e, sizeLine_eq]; omega) fun l => ⟨_, rfl, ?_⟩
    show if numB y = true then _ else _
    rw [if_neg (by rw [name_num hn]; exact Bool.false_ne_true), s_nil, s_seq, s_set]
    simp only [w_cons, w_nil, w_var, w_meth, List.getElem?_cons_zero, List.getElem?_cons_succ]
    have hl := h.app l
    refine ⟨a, _, insD_of hl.at_, look_meth (by decide +kernel), ?_⟩
    refine takeName_wd hl hw (by rw [ht0]; exact hn) fun l2 => ?_
    rw [ht0]
    have h2 := (hl.app l2).step
    simp only [List.set_cons_zero, List.set_cons_succ]
    rw [s_seq, s_if]
    simp only [w_val, w_bin, w_cons, w_nil, w_var, w_c, w_meth, List.getElem?_cons_zero, List.getElem?_cons_succ]
    refine ⟨a, _, insD_of h2.at_, look_meth (by decide +kernel), ?_⟩
    refine next_wp h2 hw ?_
    rw [w_ne eqN_str]
    refine ⟨_, rfl, ?_⟩
    have hx : ¬ nxt W (i + 1) = "(" := fun z => hst ((hd_nxt hd1 (by decide +kernel)).mpr z)
    rw [if_pos (by rw [Bool.not_eq_true', beq_eq_false_iff_ne]; exact hx), s_ret]
    simp only [w_cb, w_cons, w_nil, w_var, w_c, w_tup, List.getElem?_cons_zero, List.getElem?_cons_succ]
    refine ⟨sl _ (by simp), sl _ (by simp), node_w ?_⟩
    refine q _ _ ((((Ext.refl a S).app l).app l2).trans (hl.app l2).stepX) ?_ Nd.mk0
    rw [hu]
    exact h2
  | call y ys =>
    obtain ⟨hn, u, hu, hku⟩ := hk
    rw [hu] at ets
    injection ets with e1 e2
    subst e1
    rw [if_neg (by rw [beq_iff_eq]; exact no _ (by simp) (.inl hn)), s_nil, s_seq, s_if]
    simp only [w_val, w_bin, w_var, w_c, List.getElem?_cons_zero, List.getElem?_cons_succ]
    rw [w_eq eqN_str]
    refine ⟨_, rfl, ?_⟩
    rw [if_neg (by rw [beq_iff_eq]; exact no _ (by simp) (.inl hn)), s_nil, s_seq, s_if]
    simp only [w_val, w_cb, w_cons, w_nil, w_var, List.getElem?_cons_zero, List.getElem?_cons_succ]
    have h6 := hn
    unfold nameB at h6
    rw [Bool.and_eq_true, Bool.and_eq_true] at h6
    have h6 := of_decide_eq_true h6.2.1
    refine number_wp (d := .str y) trivial (fun x e => by injection e with e; rw [← e, sizeLine_eq]; omega) fun l => ⟨_, rfl, ?_⟩
    show if numB y = true then _ else _
    rw [if_neg (by rw [name_num hn]; exact Bool.false_ne_true), s_nil, s_seq, s_set]
    simp only [w_cons, w_nil, w_var, w_meth, List.getElem?_cons_zero, List.getElem?_cons_succ]
    have hl := h.app l
    refine ⟨a, _, insD_of hl.at_, look_meth (by decide +kernel), ?_⟩
    refine takeName_wd hl hw (by rw [ht0]; exact hn) fun l2 => ?_
    rw [ht0]
    have h2 := (hl.app l2).step
    rw [← e2] at hd1
    have hd1 : W.drop (i + 1) = ("(" : Str) :: (u ++ ([(")" : Str)] ++ rest)) := by rw [hd1, List.cons_append, List.append_assoc]
    obtain ⟨hx, hd2⟩ := drop_hd hd1
    simp only [List.set_cons_zero, List.set_cons_succ]
    rw [s_seq, s_if]
    simp only [w_val, w_bin, w_cons, w_nil, w_var, w_c, w_meth, List.getElem?_cons_zero, List.getElem?_cons_succ]
    refine ⟨a, _, insD_of h2.at_, look_meth (by decide +kernel), ?_⟩
    refine next_wp h2 hw ?_
    rw [w_ne eqN_str]
    refine ⟨_, rfl, ?_⟩
    rw [if_neg (by rw [hx]; decide +kernel), s_nil, s_seq, s_drop]
    simp only [w_cons, w_nil, w_var, w_c, w_meth, List.getElem?_cons_zero, List.getElem?_cons_succ]
    refine ⟨a, _, insD_of h2.at_, look_meth (by decide +kernel), ?_⟩
    refine take_wd h2 hw hx ?_
    rw [s_seq, s_set]
    simp only [w_cons, w_nil, w_var, w_c, w_meth, List.getElem?_cons_zero, List.getElem?_cons_succ]
    refine ⟨a, _, insD_of h2.step.at_, look_meth (by decide +kernel), ?_⟩
    refine hes y ys rfl a wl wds W rows (i + 1 + 1) _ u ([(")" : Str)] ++ rest) _ h2.step hw hW hd2 hku rfl fun d S1 x1 h1 n1 => ?_
    obtain ⟨ns, rfl, n1⟩ := n1
    simp only [List.set_cons_zero, List.set_cons_succ]
    rw [s_ret]
    simp only [w_cb, w_cons, w_nil, w_var, w_c, w_tup, w_meth, List.getElem?_cons_zero, List.getElem?_cons_succ]
    refine ⟨sl _ (by simp), sl _ (by simp), a, _, insD_of h1.at_, look_meth (by decide +kernel), ?_⟩
    refine take_wd h1 hw (drop_hd (drop_app hd2)).1 (node_w ?_)
    refine q _ _ ((((((Ext.refl a S).app l).app l2).trans (hl.app l2).stepX).trans h2.stepX).trans (x1.trans h1.stepX)) ?_ (Nd.mk1 n1)
    have := h1.step
    rw [hu, List.length_cons, List.length_cons, List.length_append, List.length_singleton, show i + (u.length + 1 + 1 + 1) = i + 1 + 1 + u.length + 1 by omega]
    exact this
end Mn

set_option Elab.async false
set_option linter.all false
set_option maxRecDepth 100000
set_option maxHeartbeats 4000000
/-! lists of expressions, sums are read. No program here. -/
namespace Mn
open PySem PySem.Spec PyProof.Rows L2
theorem ds_app : ∀ (a b : List Ex), Ex.ds (a ++ b) = Ex.ds a ++ Ex.ds b
  | [], _ => rfl
  | x :: a, b => by
    show x.d :: Ex.ds (a ++ b) = _
    rw [ds_app a b]
    rfl
theorem hts_mem : ∀ {es : List Ex} {x : Ex}, x ∈ es → x.ht ≤ Ex.hts es
  | [], _, h => by cases h
  | y :: es, x, h => by
    rcases List.mem_cons.mp h with rfl | h
    · exact Nat.le_max_left _ _
    · exact Nat.le_trans (hts_mem h) (Nat.le_max_right _ _)
theorem wN_eq : wN = 1000000 := rfl
theorem exprs_ok {rf e : F} {es : List Ex} {cl : Str} (hcl : cl = ")" ∨ cl = "]") (he : ∀ y ∈ es, ExprOk e y) : ExprsOk (g_Reader_expressions nW e (gTake rf)) es cl := by
  intro a wl wds W rows i S ts rest Q h hw hW hd hk hst q
  have sl : ∀ n : Nat, n ≤ 200 → n ≤ sizeLine := fun n h => by rw [sizeLine_eq]; omega
  have hcn : cl ≠ "" ∧ cl ≠ "," ∧ cl ∈ ([")", "]", ",", "", "+", "-", "=", ";", "{", "}"] : List Str) ∧ (cl ≠ "(" ∧ cl ≠ "+" ∧ cl ≠ "-") := by
    rcases hcl with rfl | rfl <;> decide +kernel
  obtain ⟨rest', hrest⟩ : ∃ r, rest = cl :: r := by
    cases rest with
    | nil => cases hst
    | cons t r => injection hst with hst; exact ⟨r, by rw [hst]⟩
  unfold g_Reader_expressions
  refine w_def rfl ?_
  rw [s_seq, s_set]
  simp only [w_lst, w_nil, List.map_cons, List.map_nil, List.length_cons, List.length_nil, List.cons_append, List.nil_append, List.set_cons_zero, List.set_cons_succ, List.reduceReplicate, Nat.reduceAdd, Nat.reduceSub]
  refine ⟨sl _ (by decide), ?_⟩
  rw [s_seq, s_while]
  have hlen := tks_len hk
  have htl : ts.length ≤ W.length := by
    have := congrArg List.length hd
    rw [List.length_drop, List.length_append] at this
    omega
  have hwl : wl < S.length := (List.getElem?_eq_some_iff.mp h.ws).1
  have hal := h.lt
  refine while_wp (fun k ρ S' => ∃ (done todo : List Ex) (ns : List D) (j : Nat) (v : List Str), es = done ++ todo ∧ todo.length = k ∧ ρ = [some (.ref a), some (.str cl), some (.ref S.length)] ∧ Rdr a wl wds rows j S' ∧ W.drop j = v ++ rest ∧ Ex.tks todo v ∧ Ext a S S' ∧ S'[S.length]? = some (.lst ns) ∧ Nds (Ex.hts es) ns (Ex.ds done) ∧ j + v.length = i + ts.length ∧ ns.length = done.length) (fun k ρ S' => ?_) wN es.length _ _ (by rw [wN_eq]; omega)
    ⟨[], es, [], i, ts, rfl, rfl, rfl, h.app _, hd, hk, (Ext.refl a S).app _, List.getElem?_concat_length, Nds.nil, rfl, rfl⟩
  rintro ⟨done, todo, ns, j, v, hes, htk, rfl, hj, hdj, hv, x, hn, hnd, hjv, hnl⟩
  simp only [w_val, w_bin, w_meth, w_cons, w_nil, w_var, List.getElem?_cons_zero, List.getElem?_cons_succ]
  refine ⟨a, _, insD_of hj.at_, look_meth (by decide +kernel), ?_⟩
  refine next_wp hj hw ?_
  rw [w_ne eqN_str]
  refine ⟨_, rfl, ?_⟩
  have hnle : ns.length ≤ 1000000 := by
    have := congrArg List.length hes
    rw [List.length_append] at this
    omega
  cases todo with
  | nil =>
    have hv : v = [] := hv
    subst hv
    have hnx : nxt W j = cl := (drop_hd (by rw [hdj, hrest]; rfl)).1
    rw [if_neg (by rw [hnx]; simp), s_ret]
    simp only [w_cb, w_cons, w_nil, w_var, List.getElem?_cons_zero, List.getElem?_cons_succ]
    rw [w_tupL hn]
    rw [List.append_nil] at hes
    refine q _ S' x ?_ ⟨ns, rfl, by rw [hes] at hnd ⊢; exact hnd⟩
    rw [show i + ts.length = j by rw [← hjv]; rfl]
    exact hj
  | cons y t =>
    obtain ⟨u, v', hvu, hyu, hrs⟩ := hv
    obtain ⟨t0, r0, hu0, hf0⟩ := tk_fst hyu
    have hdj1 : W.drop j = u ++ (v' ++ rest) := by rw [hdj, hvu, List.append_assoc]
    have hnx : nxt W j = t0 := (drop_hd (by rw [hdj1, hu0]; rfl)).1
    have hne : t0 ≠ cl := fun z => hf0.ne (by rw [z]; exact hcn.2.2.1)
    rw [if_pos (by rw [hnx, Bool.not_eq_true', beq_eq_false_iff_ne]; exact hne), s_seq, s_drop]
    simp only [w_mt, w_meth, w_cons, w_nil, w_var, List.getElem?_cons_zero, List.getElem?_cons_succ]
    refine ⟨by show kOb S'[S.length]? = "list"; rw [hn]; rfl, a, _, insD_of hj.at_, look_meth (by decide +kernel), ?_⟩
    have hmem : y ∈ es := by rw [hes]; exact List.mem_append_right _ List.mem_cons_self
    have hstop : Stop (v' ++ rest) := by
      rcases hrs with ⟨_, rfl | rfl⟩ | ⟨_, r, rfl, _⟩
      · rw [hrest]; exact stop_cons hcn.2.2.2
      · exact stop_cons (by decide +kernel)
      · exact stop_cons (by decide +kernel)
    refine he y hmem a wl wds W rows j S' u (v' ++ rest) _ hj hw hW hdj1 hyu hstop fun d S1 x1 h1 n1 => ?_
    have hn1 := x1.at_ hn (by omega)
    have hl1 : S.length < S1.length := (List.getElem?_eq_some_iff.mp hn1).1
    rw [w_app hn1]
    refine ⟨by rw [sizeLine_eq]; omega, ?_⟩
    have h2 := h1.set (m := S.length) (by omega) (by omega) (.lst (ns ++ [d]))
    have hn2 : (S1.set S.length (.lst (ns ++ [d])))[S.length]? = some (.lst (ns ++ [d])) := List.getElem?_set_self hl1
    have x2 : Ext a S (S1.set S.length (.lst (ns ++ [d]))) := (x.trans x1).set (Nat.le_refl _) _
    have hnd2 : Nds (Ex.hts es) (ns ++ [d]) (Ex.ds (done ++ [y])) := by
      rw [ds_app]
      exact hnd.snoc (n1.le (hts_mem hmem))
    have hes2 : es = (done ++ [y]) ++ t := by rw [hes, List.append_assoc]; rfl
    have hdj2 := drop_app hdj1
    have hln : (ns ++ [d]).length = (done ++ [y]).length := by rw [List.length_append, List.length_append, hnl]; rfl
    have hvl : v.length = u.length + v'.length := by rw [hvu, List.length_append]
    rw [s_if]
    simp only [w_val, w_bin, w_meth, w_cons, w_nil, w_var, List.getElem?_cons_zero, List.getElem?_cons_succ]
    refine ⟨a, _, insD_of h2.at_, look_meth (by decide +kernel), ?_⟩
    refine next_wp h2 hw ?_
    rw [w_ne eqN_str]
    refine ⟨_, rfl, ?_⟩
    rw [List.length_cons] at htk
    -- a comma stands there
    have comma : ∀ r : List Str, v' = ("," : Str) :: r → Ex.tks t r → (if (!(nxt W (j + u.length) == cl)) = true then (sDrop (mMeth "Reader" "take" (gTake rf) (mVar 0) (aCons (mC (.str ",")) aNil)) [some (.ref a), some (.str cl), some (.ref S.length)] (S1.set S.length (.lst (ns ++ [d])))).wp (fun ρ2 S2 => ∃ j', j' < k ∧ ∃ (done todo : List Ex) (ns : List D) (j : Nat) (v : List Str), es = done ++ todo ∧ todo.length = j' ∧ ρ2 = [some (.ref a), some (.str cl), some (.ref S.length)] ∧ Rdr a wl wds rows j S2 ∧ W.drop j = v ++ rest ∧ Ex.tks todo v ∧ Ext a S S2 ∧ S2[S.length]? = some (.lst ns) ∧ Nds (Ex.hts es) ns (Ex.ds done) ∧ j + v.length = i + ts.length ∧ ns.length = done.length) Q else (sNil [some (.ref a), some (.str cl), some (.ref S.length)] (S1.set S.length (.lst (ns ++ [d])))).wp (fun ρ2 S2 => ∃ j', j' < k ∧ ∃ (done todo : List Ex) (ns : List D) (j : Nat) (v : List Str), es = done ++ todo ∧ todo.length = j' ∧ ρ2 = [some (.ref a), some (.str cl), some (.ref S.length)] ∧ Rdr a wl wds rows j S2 ∧ W.drop j = v ++ rest ∧ Ex.tks todo v ∧ Ext a S S2 ∧ S2[S.length]? = some (.lst ns) ∧ Nds (Ex.hts es) ns (Ex.ds done) ∧ j + v.length = i + ts.length ∧ ns.length = done.length) Q) := by
      intro r hr htr
      obtain ⟨hc1, hc2⟩ := drop_hd (show W.drop (j + u.length) = ("," : Str) :: (r ++ rest) by rw [hdj2, hr]; rfl)
      rw [if_pos (by rw [hc1, Bool.not_eq_true', beq_eq_false_iff_ne]; exact fun z => hcn.2.1 z.symm), s_drop]
      simp only [w_meth, w_cons, w_nil, w_var, w_c, List.getElem?_cons_zero, List.getElem?_cons_succ]
      refine ⟨a, _, insD_of h2.at_, look_meth (by decide +kernel), ?_⟩
      refine take_wd h2 hw hc1 ?_
      refine ⟨t.length, by omega, done ++ [y], t, ns ++ [d], _, r, hes2, rfl, by first | rfl | trivial, h2.step, hc2, htr, x2.trans h2.stepX, h2.stepX.at_ hn2 (by omega), hnd2, ?_, hln⟩
      rw [hr, List.length_cons] at hvl
      omega
    rcases hrs with ⟨rfl, rfl | rfl⟩ | ⟨_, r, rfl, htr⟩
    · have hc1 : nxt W (j + u.length) = cl := (drop_hd (by rw [hdj2, hrest]; rfl)).1
      rw [if_neg (by rw [hc1]; simp), s_nil]
      refine ⟨0, by omega, done ++ [y], [], ns ++ [d], _, [], hes2, rfl, rfl, h2, hdj2, rfl, x2, hn2, hnd2, ?_, hln⟩
      rw [List.length_nil] at hvl ⊢
      omega
    · exact comma [] rfl rfl
    · exact comma r rfl htr
/-! ### sums -/
theorem isIn_two {x y z : Str} : isIn (.str x) [y, z] = (decide (x = y) || decide (x = z)) := by
  unfold isIn isX
  have e : ∀ p q : Str, decide (D.str p = .str q) = decide (p = q) := fun p q => by
    rw [Bool.eq_iff_iff, decide_eq_true_iff, decide_eq_true_iff]
    exact ⟨fun z => by injection z, fun z => by rw [z]⟩
  simp only [List.any_cons, List.any_nil, e, Bool.or_false]
theorem ls_app : ∀ {sa sb : List Bool} {a b : List Ex}, sa.length = a.length → Ex.ls (sa ++ sb) (a ++ b) = Ex.ls sa a ++ Ex.ls sb b
  | [], sb, [], b, _ => by cases sb <;> cases b <;> rfl
  | [], _, _ :: _, _, h => by cases h
  | _ :: _, _, [], _, h => by cases h
  | s :: sa, sb, x :: a, b, h => by
    have h : sa.length = a.length := Nat.succ.inj h
    show limbD s x.d :: Ex.ls (sa ++ sb) (a ++ b) = _
    rw [ls_app h]
    rfl
theorem sgS_ne (b : Bool) : sgS b ≠ "(" ∧ (sgS b = "+" ∨ sgS b = "-") := by cases b <;> decide +kernel
theorem sgK_of (b : Bool) : (if (sgS b == "+") = true then (D.str "plus") else D.str "minus") = .str (sgK b) := by cases b <;> decide +kernel
theorem Nd.limb {h : Nat} {b : Bool} {d e : D} {f l : Int} (a : Nd h d e) : Nd (h + 1) (nodeD (.tup [.str (sgK b)]) [.tup [d]] f l) (limbD b e) := Nd.mk1 (Nds.one a)
/-- a term and what is added to it -/
def sumE (y : Ex) (ss : List Bool) (es : List Ex) : Ex := if es = [] then y else .sum y ss es
theorem atI_last {ds : List D} {d : D} (n : Nat) : atI (ds ++ [d]) (-1) = some d := by
  unfold atI
  have e : ixN (ds ++ [d]).length (-1) = some ds.length := by
    unfold ixN
    rw [if_neg (by decide), List.length_append, List.length_singleton]
    rw [if_pos (by omega)]
    congr 1
    omega
  rw [e]
  simp
theorem sum_ok {rf t : F} {y : Ex} {ss : List Bool} {es : List Ex} (hy : TermOk t y) (hes : ∀ z ∈ es, TermOk t z) :
    ReadOk (g_Reader_expression t g_node_of nW (gTake rf)) [] Stop (fun ts => ∃ u v, ts = u ++ v ∧ y.tk u ∧ Ex.tss ss es v) (fun d => Nd (sumE y ss es).ht d (sumE y ss es).d) := by
  intro a wl wds W rows i S ts rest Q h hw hW hd hk hst q
  obtain ⟨u, v, hts, hku, hkv⟩ := hk
  have sl : ∀ n : Nat, n ≤ 200 → n ≤ sizeLine := fun n h => by rw [sizeLine_eq]; omega
  have htl : ts.length ≤ W.length := by
    have := congrArg List.length hd
    rw [List.length_drop, List.length_append] at this
    omega
  have hvl : v.length ≤ ts.length := by rw [hts, List.length_append]; omega
  have hwl : wl < S.length := (List.getElem?_eq_some_iff.mp h.ws).1
  have hal := h.lt
  obtain ⟨hel, hsl⟩ := tss_len hkv
  have hd0 : W.drop i = u ++ (v ++ rest) := by rw [hd, hts, List.append_assoc]
  -- what follows a term is no bracket
  have nob : ∀ {st : List Bool} {et : List Ex} {v' : List Str}, Ex.tss st et v' → (v' ++ rest).head? ≠ some ("(" : Str) := by
    intro st et v' hv'
    cases et with
    | nil =>
      have hv' : st = [] ∧ v' = [] := by cases st <;> exact hv'
      rw [hv'.2]
      exact hst.1
    | cons z et =>
      cases st with
      | nil => exact hv'.elim
      | cons b st =>
        obtain ⟨_, u', v'', rfl, _⟩ := hv'
        intro e
        injection e with e
        exact (sgS_ne b).1 e
  unfold g_Reader_expression
  refine w_def rfl ?_
  rw [s_seq, s_set]
  simp only [w_meth, w_cons, w_nil, w_var, List.map_cons, List.map_nil, List.length_cons, List.length_nil, List.cons_append, List.nil_append, List.getElem?_cons_zero, List.getElem?_cons_succ, List.set_cons_zero, List.set_cons_succ, List.reduceReplicate, Nat.reduceAdd, Nat.reduceSub]
  refine ⟨a, _, insD_of h.at_, look_meth (by decide +kernel), ?_⟩
  refine hy a wl wds W rows i S u (v ++ rest) _ h hw hW hd0 hku (nob hkv) fun d0 S0 x0 h0 n0 => ?_
  obtain ⟨lab0, lots0, f0, l0, hd0e⟩ := n0.shape
  have hd1 := drop_app hd0
  have h4 : ∀ {S : Sto} {Q : D → Sto → Prop}, Q (.int f0) S → (fIx d0 (.int 2) S).wp Q := fun {S Q} hq => by
    rw [hd0e, w_ixT]
    exact ⟨_, rfl, hq⟩
  have h5 : ∀ {S : Sto} {Q : D → Sto → Prop}, Q (.int l0) S → (fIx d0 (.int 3) S).wp Q := fun {S Q} hq => by
    rw [hd0e, w_ixT]
    exact ⟨_, rfl, hq⟩
  rw [s_seq, s_set]
  simp only [w_lst, w_cb, w_tup, w_bin, w_cons, w_nil, w_var, w_c, List.getElem?_cons_zero, List.getElem?_cons_succ, List.set_cons_zero, List.set_cons_succ]
  refine ⟨sl _ (by simp), sl _ (by simp), sl _ (by simp), h4 (h5 (node_w ⟨sl _ (by simp), ?_⟩))⟩
  have hx0 := x0.1
  rw [s_seq, s_while]
  obtain ⟨h, hh⟩ : ∃ h, h = max y.ht (Ex.hts es) := ⟨_, rfl⟩
  refine while_wp (fun k ρ S' => ∃ (sd st : List Bool) (ed et : List Ex) (ns : List D) (j : Nat) (v' : List Str) (w3 w4 w5 : Option D), ss = sd ++ st ∧ es = ed ++ et ∧ sd.length = ed.length ∧ et.length = k ∧ ρ = [some (.ref a), some d0, some (.ref S0.length), w3, w4, w5] ∧ Rdr a wl wds rows j S' ∧ W.drop j = v' ++ rest ∧ Ex.tss st et v' ∧ Ext a S0 S' ∧ S'[S0.length]? = some (.lst ns) ∧ Nds (h + 1) ns (limbD true y.d :: Ex.ls sd ed) ∧ j + v'.length = i + ts.length ∧ ns.length = ed.length + 1 ∧ (∃ l lab lots f e, ns = l ++ [.tup [lab, lots, .int f, .int e]])) (fun k ρ S' => ?_) wN es.length _ _ (by rw [wN_eq]; omega)
    ⟨[], ss, [], es, [_], _, v, _, _, _, rfl, rfl, rfl, rfl, rfl, h0.app _, hd1, hkv, (Ext.refl a S0).app _, List.getElem?_concat_length, Nds.one (Nd.limb (b := true) (n0.le (h' := h) (by omega))), by rw [hts, List.length_append]; omega, rfl, ⟨[], _, _, _, _, rfl⟩⟩
  rintro ⟨sd, st, ed, et, ns, j, v', w3, w4, w5, hss, hes', hse, htk, rfl, hj, hdj, hv', x, hn, hnd, hjv, hnl, hlast⟩
  simp only [w_val, w_bin, w_meth, w_tup, w_cons, w_nil, w_var, w_c, List.getElem?_cons_zero, List.getElem?_cons_succ]
  refine ⟨a, _, insD_of hj.at_, look_meth (by decide +kernel), ?_⟩
  refine next_wp hj hw ⟨sl _ (by simp), ?_⟩
  refine (w_in (inW_tup (d := .str (nxt W j)) trivial ["+", "-"])).mpr ⟨_, rfl, ?_⟩
  rw [isIn_two]
  have hnle : ns.length ≤ 1000001 := by
    have := congrArg List.length hes'
    rw [List.length_append] at this
    omega
  cases et with
  | nil =>
    have hv' : st = [] ∧ v' = [] := by cases st <;> exact hv'
    obtain ⟨rfl, rfl⟩ := hv'
    rw [List.append_nil] at hss hes'
    have hdj : W.drop j = rest := hdj
    have m1 : ¬ nxt W j = "+" := fun z => hst.2.1 ((hd_nxt hdj (by decide +kernel)).mpr z)
    have m2 : ¬ nxt W j = "-" := fun z => hst.2.2 ((hd_nxt hdj (by decide +kernel)).mpr z)
    rw [decide_eq_false m1, decide_eq_false m2, if_neg (by decide), s_ret]
    simp only [w_if, w_val, w_bin, w_un, w_cb, w_cons, w_nil, w_var, w_c, w_tup, List.getElem?_cons_zero, List.getElem?_cons_succ]
    rw [w_lenL hn, w_eq eqN_int]
    refine ⟨_, rfl, ?_⟩
    have hj' : i + ts.length = j := by rw [← hjv]; rfl
    subst hss hes'
    by_cases hz : es = []
    · subst hz
      rw [if_pos (by rw [hnl]; decide)]
      exact q d0 S' (x0.trans x) (by rw [hj']; exact hj) n0
    · have hp : 0 < es.length := List.length_pos_iff.mpr hz
      rw [if_neg (by rw [beq_iff_eq, hnl]; omega)]
      refine ⟨sl _ (by simp), ?_⟩
      rw [w_tupL hn]
      refine ⟨sl _ (by simp), h4 ?_⟩
      show Res.wp (fIx (.ref S0.length) (.int (-1)) S') _
      obtain ⟨l, lab, lots, f, e, hl⟩ := hlast
      rw [w_ixL hn]
      refine ⟨.tup [lab, lots, .int f, .int e], by rw [hl]; exact atI_last 0, ?_⟩
      rw [w_ixT]
      refine ⟨.int e, rfl, node_w ?_⟩
      refine q _ S' (x0.trans x) (by rw [hj']; exact hj) ?_
      unfold sumE
      rw [if_neg hz]
      rw [hh] at hnd
      exact Nd.mk1 hnd
  | cons z tl =>
    cases st with
    | nil => exact hv'.elim
    | cons b st =>
      obtain ⟨hzt, u', v'', hve, hzu, hrs⟩ := hv'
      rw [hve] at hdj
      have hdj : W.drop j = sgS b :: (u' ++ (v'' ++ rest)) := by rw [hdj, List.cons_append, List.append_assoc]
      obtain ⟨hx, hdj1⟩ := drop_hd hdj
      have hdj2 := drop_app hdj1
      have htr : (decide (nxt W j = "+") || decide (nxt W j = "-")) = true := by
        rw [hx]
        rcases (sgS_ne b).2 with z | z <;> rw [z] <;> decide +kernel
      rw [htr, if_pos rfl, s_seq, s_set]
      simp only [w_if, w_val, w_bin, w_meth, w_cons, w_nil, w_var, w_c, List.getElem?_cons_zero, List.getElem?_cons_succ, List.set_cons_zero, List.set_cons_succ]
      refine ⟨a, _, insD_of hj.at_, look_meth (by decide +kernel), ?_⟩
      refine next_wp hj hw ?_
      rw [w_eq eqN_str]
      refine ⟨_, rfl, ?_⟩
      rw [hx]
      -- the kind
      suffices core : ((sSeq (sSet 4 (mMeth "Reader" "take" (gTake rf) (mVar 0) (aCons (mMeth "Reader" "next_word" nW (mVar 0) aNil) aNil)))
          (sSeq (sSet 5 (mMeth "Reader" "term" t (mVar 0) aNil))
          (sDrop (mMt "list" fAppend (mVar 2) (aCons (mCB g_node_of (aCons (mTup (aCons (mVar 3) aNil)) (aCons (mTup (aCons (mTup (aCons (mVar 5) aNil)) aNil)) (aCons (mVar 4) (aCons (mBin fIx (mVar 5) (mC (.int 3))) aNil))))) aNil))))) [some (.ref a), some d0, some (.ref S0.length), some (.str (sgK b)), w4, w5] S').wp (fun ρ2 S2 => ∃ j', j' < k ∧ ∃ (sd st : List Bool) (ed et : List Ex) (ns : List D) (j : Nat) (v' : List Str) (w3 w4 w5 : Option D), ss = sd ++ st ∧ es = ed ++ et ∧ sd.length = ed.length ∧ et.length = j' ∧ ρ2 = [some (.ref a), some d0, some (.ref S0.length), w3, w4, w5] ∧ Rdr a wl wds rows j S2 ∧ W.drop j = v' ++ rest ∧ Ex.tss st et v' ∧ Ext a S0 S2 ∧ S2[S0.length]? = some (.lst ns) ∧ Nds (h + 1) ns (limbD true y.d :: Ex.ls sd ed) ∧ j + v'.length = i + ts.length ∧ ns.length = ed.length + 1 ∧ (∃ l lab lots f e, ns = l ++ [.tup [lab, lots, .int f, .int e]])) Q by
        have hb := sgK_of b
        by_cases hz : (sgS b == "+") = true
        · rw [if_pos hz] at hb ⊢
          rw [hb]
          exact core
        · rw [if_neg hz] at hb ⊢
          rw [hb]
          exact core
      rw [s_seq, s_set]
      simp only [w_meth, w_cons, w_nil, w_var, List.getElem?_cons_zero, List.getElem?_cons_succ, List.set_cons_zero, List.set_cons_succ]
      refine ⟨a, _, insD_of hj.at_, look_meth (by decide +kernel), a, _, insD_of hj.at_, look_meth (by decide +kernel), ?_⟩
      refine next_wp hj hw ?_
      refine take_wd hj hw rfl ?_
      rw [s_seq, s_set]
      simp only [w_meth, w_cons, w_nil, w_var, List.getElem?_cons_zero, List.getElem?_cons_succ, List.set_cons_zero, List.set_cons_succ]
      refine ⟨a, _, insD_of hj.step.at_, look_meth (by decide +kernel), ?_⟩
      have hmem : z ∈ es := by rw [hes']; exact List.mem_append_right _ List.mem_cons_self
      refine hes z hmem a wl wds W rows (j + 1) _ u' (v'' ++ rest) _ hj.step hw hW hdj1 hzu (nob hrs) fun d S1 x1 h1 n1 => ?_
      obtain ⟨lab, lots, f, l, hde⟩ := n1.shape
      have hnp : S0.length ≠ a := by omega
      have hn1 := x1.at_ (hj.stepX.at_ hn hnp) hnp
      have hl1 : S0.length < S1.length := (List.getElem?_eq_some_iff.mp hn1).1
      rw [s_drop]
      simp only [w_mt, w_cb, w_tup, w_bin, w_cons, w_nil, w_var, w_c, List.getElem?_cons_zero, List.getElem?_cons_succ]
      refine ⟨by show kOb S1[S0.length]? = "list"; rw [hn1]; rfl, sl _ (by simp), sl _ (by simp), sl _ (by simp), ?_⟩
      have n1' := n1
      rw [hde]
      rw [hde] at n1'
      rw [w_ixT]
      refine ⟨.int l, rfl, node_w ?_⟩
      rw [w_app hn1]
      refine ⟨by rw [sizeLine_eq]; omega, ?_⟩
      have hnw : wl ≠ S0.length := by omega
      rw [List.length_cons] at htk
      refine ⟨tl.length, by omega, sd ++ [b], st, ed ++ [z], tl, _, _, v'', _, _, _, by rw [hss, List.append_assoc]; rfl, by rw [hes', List.append_assoc]; rfl, by rw [List.length_append, List.length_append, hse]; rfl, rfl, rfl, h1.set (by omega) (by omega) _, hdj2, hrs, ((x.trans hj.stepX).trans x1).set (Nat.le_refl _) _, List.getElem?_set_self hl1, ?_, ?_, ?_, ⟨ns, _, _, _, _, rfl⟩⟩
      · rw [ls_app hse]
        show Nds (h + 1) (ns ++ [_]) ((limbD true y.d :: Ex.ls sd ed) ++ [limbD b z.d])
        have hzh := hts_mem hmem
        exact hnd.snoc (Nd.limb (n1'.le (h' := h) (by omega)))
      · rw [hve, List.length_cons, List.length_append] at hjv
        omega
      · rw [List.length_append, List.length_append, hnl]
        rfl
/-- the defs that read expressions, by how deep they may call -/
structure RdFam (T E L : Nat → F) (rf : Nat → F) : Prop where
  t : ∀ k, 3 ≤ k → T (k + 1) = gTerm (gTake (rf k)) (E k) (L k) (gTakeN (rf k))
  e : ∀ k, 3 ≤ k → E (k + 1) = g_Reader_expression (T k) g_node_of nW (gTake (rf k))
  l : ∀ k, 3 ≤ k → L (k + 1) = g_Reader_expressions nW (E k) (gTake (rf k))
theorem ht_pos : ∀ x : Ex, 1 ≤ x.ht
  | .nam _ => Nat.le_refl _
  | .num _ => Nat.le_refl _
  | .call _ _ => Nat.succ_le_succ (Nat.zero_le _)
  | .lst _ => Nat.succ_le_succ (Nat.zero_le _)
  | .inn _ => Nat.succ_le_succ (Nat.zero_le _)
  | .sum _ _ _ => Nat.succ_le_succ (Nat.zero_le _)
theorem RdFam.all {T E L rf : Nat → F} (f : RdFam T E L rf) : ∀ n, (∀ (x : Ex) (k : Nat), x.ht ≤ n → x.isTerm = true → 3 * n + 4 ≤ k → TermOk (T k) x) ∧ (∀ (x : Ex) (k : Nat), x.ht ≤ n → 3 * n + 5 ≤ k → ExprOk (E k) x) ∧ (∀ (es : List Ex) (cl : Str) (k : Nat), Ex.hts es ≤ n → (cl = ")" ∨ cl = "]") → 3 * n + 6 ≤ k → ExprsOk (L k) es cl) := by
  have lists : ∀ n, (∀ (x : Ex) (k : Nat), x.ht ≤ n → 3 * n + 5 ≤ k → ExprOk (E k) x) → (∀ (es : List Ex) (cl : Str) (k : Nat), Ex.hts es ≤ n → (cl = ")" ∨ cl = "]") → 3 * n + 6 ≤ k → ExprsOk (L k) es cl) := fun n he es cl k hn hcl hk => by
    obtain ⟨m, rfl⟩ : ∃ m, k = m + 1 := ⟨k - 1, by omega⟩
    rw [f.l m (by omega)]
    exact exprs_ok hcl fun y hy => he y m (Nat.le_trans (hts_mem hy) hn) (by omega)
  have exprs : ∀ n, (∀ (x : Ex) (k : Nat), x.ht ≤ n → x.isTerm = true → 3 * n + 4 ≤ k → TermOk (T k) x) → (∀ (x : Ex) (k : Nat), x.ht ≤ n → 3 * n + 5 ≤ k → ExprOk (E k) x) := fun n ht x k hn hk => by
    obtain ⟨m, rfl⟩ : ∃ m, k = m + 1 := ⟨k - 1, by omega⟩
    rw [f.e m (by omega)]
    have one : x.isTerm = true → ExprOk (g_Reader_expression (T m) g_node_of nW (gTake (rf m))) x := fun hx a wl wds W rows i S ts rest Q h hw hW hd hk hst q =>
      sum_ok (y := x) (ss := []) (es := []) (ht x m hn hx (by omega)) (fun z hz => by cases hz) a wl wds W rows i S ts rest Q h hw hW hd ⟨ts, [], by rw [List.append_nil], hk, rfl, rfl⟩ hst q
    cases x with
    | sum y ss es =>
      intro a wl wds W rows i S ts rest Q h hw hW hd hk' hst q
      obtain ⟨hy, hss, u, v, h1, h2, h3⟩ := hk'
      have hn : max y.ht (Ex.hts es) + 2 ≤ n := hn
      have hes : es ≠ [] := fun z => by
        subst z
        have := (tss_len h3).2
        cases ss with
        | nil => exact hss rfl
        | cons _ _ => cases this
      have esT : ∀ {ss : List Bool} {es : List Ex} {v : List Str}, Ex.tss ss es v → ∀ z ∈ es, z.isTerm = true := by
        intro ss es
        induction es generalizing ss with
        | nil => intro v _ z hz; cases hz
        | cons w es ih =>
          intro v h z hz
          cases ss with
          | nil => exact h.elim
          | cons b ss =>
            obtain ⟨hw, u, v', _, _, h'⟩ := h
            rcases List.mem_cons.mp hz with rfl | hz
            · exact hw
            · exact ih h' z hz
      have := sum_ok (rf := rf m) (y := y) (ss := ss) (es := es) (ht y m (by omega) hy (by omega)) (fun z hz => ht z m (by have := hts_mem hz; omega) (esT h3 z hz) (by omega)) a wl wds W rows i S ts rest Q h hw hW hd ⟨u, v, h1, h2, h3⟩ hst
      unfold sumE at this
      rw [if_neg hes] at this
      exact this q
    | nam _ => exact one rfl
    | num _ => exact one rfl
    | call _ _ => exact one rfl
    | lst _ => exact one rfl
    | inn _ => exact one rfl
  intro n
  induction n with
  | zero =>
    have t0 : ∀ (x : Ex) (k : Nat), x.ht ≤ 0 → x.isTerm = true → 3 * 0 + 4 ≤ k → TermOk (T k) x := fun x k h _ _ => by have := ht_pos x; omega
    exact ⟨t0, exprs 0 t0, lists 0 (exprs 0 t0)⟩
  | succ n ih =>
    obtain ⟨_, ihe, ihl⟩ := ih
    have t1 : ∀ (x : Ex) (k : Nat), x.ht ≤ n + 1 → x.isTerm = true → 3 * (n + 1) + 4 ≤ k → TermOk (T k) x := fun x k hn hx hk => by
      obtain ⟨m, rfl⟩ : ∃ m, k = m + 1 := ⟨k - 1, by omega⟩
      rw [f.t m (by omega)]
      refine term_ok hx (fun y hy => ?_) (fun y ys hy => ?_) (fun ys hy => ?_)
      · subst hy
        have hn : y.ht + 1 ≤ n + 1 := hn
        exact ihe y m (by omega) (by omega)
      · subst hy
        have hn : Ex.hts ys + 1 ≤ n + 1 := hn
        exact ihl ys _ m (by omega) (.inl rfl) (by omega)
      · subst hy
        have hn : Ex.hts ys + 1 ≤ n + 1 := hn
        exact ihl ys _ m (by omega) (.inr rfl) (by omega)
    exact ⟨t1, exprs _ t1, lists _ (exprs _ t1)⟩
end Mn

set_option Elab.async false
set_option linter.all false
set_option maxRecDepth 100000
set_option maxHeartbeats 4000000
/-! statements are read. No program here. -/
namespace Mn
open PySem PySem.Spec PyProof.Rows L2
inductive St where
  | set (x : Str) (e : Ex)
  | run (x : Str) (es : List Ex)
  | give (e : Ex)
  | note (x : Str)
  | loop (e : Ex) (b : List St)
  | iff (e : Ex) (b : List St) (o : Bool) (c : List St)
def elseD (ds : List D) : D := .tup [.tup [.str "else"], .tup [.tup ds]]
mutual
def St.d : St → D
  | .set x e => .tup [.tup [.str "set", .str x], .tup [.tup [e.d]]]
  | .run x es => .tup [.tup [.str "run", .str x], .tup [.tup (Ex.ds es)]]
  | .give e => .tup [.tup [.str "give"], .tup [.tup [e.d]]]
  | .note x => .tup [.tup [.str "note", .str x], .tup []]
  | .loop e b => .tup [.tup [.str "loop"], .tup [.tup [e.d], .tup (St.ds b)]]
  | .iff e b o c => .tup [.tup [.str "if"], .tup [.tup [e.d], .tup (St.ds b), .tup (if o = true then [elseD (St.ds c)] else [])]]
def St.ds : List St → List D
  | [] => []
  | s :: ss => s.d :: St.ds ss
end
/-- w is a word that notes x -/
def NoteW (w x : Str) : Prop := (∃ r, w.cps.toList = 35 :: r) ∧ Txt.stripChars (L2.cutS w (some 1) none) " " = x ∧ noteB x = true ∧ w.length < 1000000
mutual
def St.tk : St → List Str → Prop
  | .set x e, ts => nameB x = true ∧ ∃ u : List Str, ts = x :: ("=" : Str) :: (u ++ [(";" : Str)]) ∧ e.tk u
  | .run x es, ts => nameB x = true ∧ ∃ u : List Str, ts = x :: ("(" : Str) :: (u ++ [(")" : Str), (";" : Str)]) ∧ Ex.tks es u
  | .give e, ts => ∃ u : List Str, ts = ("give" : Str) :: (u ++ [(";" : Str)]) ∧ e.tk u
  | .note x, ts => ∃ w : Str, ts = [w] ∧ NoteW w x
  | .loop e b, ts => ∃ u v : List Str, ts = ("loop" : Str) :: (u ++ ("{" : Str) :: (v ++ [("}" : Str)])) ∧ e.tk u ∧ St.tks b v
  | .iff e b o c, ts => ∃ u v w : List Str, ts = ("if" : Str) :: (u ++ ("{" : Str) :: (v ++ ("}" : Str) :: w)) ∧ e.tk u ∧ St.tks b v ∧ ((o = false ∧ c = [] ∧ w = []) ∨ (o = true ∧ ∃ z : List Str, w = ("else" : Str) :: ("{" : Str) :: (z ++ [("}" : Str)]) ∧ St.tks c z))
def St.tks : List St → List Str → Prop
  | [], ts => ts = []
  | s :: ss, ts => ∃ u v : List Str, ts = u ++ v ∧ s.tk u ∧ St.tks ss v
end
mutual
def St.ht : St → Nat
  | .set _ e => e.ht + 1
  | .run _ es => Ex.hts es + 1
  | .give e => e.ht + 1
  | .note _ => 1
  | .loop e b => max e.ht (St.hts b) + 1
  | .iff e b _ c => max (max e.ht (St.hts b)) (St.hts c + 1) + 1
def St.hts : List St → Nat
  | [] => 0
  | s :: ss => max s.ht (St.hts ss)
end
theorem sds_app : ∀ (a b : List St), St.ds (a ++ b) = St.ds a ++ St.ds b
  | [], _ => rfl
  | x :: a, b => by
    show x.d :: St.ds (a ++ b) = _
    rw [sds_app a b]
    rfl
theorem shts_mem : ∀ {es : List St} {x : St}, x ∈ es → x.ht ≤ St.hts es
  | [], _, h => by cases h
  | y :: es, x, h => by
    rcases List.mem_cons.mp h with rfl | h
    · exact Nat.le_max_left _ _
    · exact Nat.le_trans (shts_mem h) (Nat.le_max_right _ _)
/-- a word with which a statement begins -/
def Fst2 (t : Str) : Prop := nameB t = true ∨ t = "give" ∨ t = "loop" ∨ t = "if" ∨ ∃ r, t.cps.toList = 35 :: r
theorem Fst2.ne {t : Str} (h : Fst2 t) : t ≠ "" ∧ t ≠ "}" ∧ t ≠ "else" := by
  have key : ([("" : Str), "}", "else"] : List Str).all (fun t => !(nameB t) && (!(decide (t = "give")) && (!(decide (t = "loop")) && (!(decide (t = "if")) && !(decide (t.cps.toList.head? = some 35)))))) = true := by decide +kernel
  have each : ∀ z ∈ ([("" : Str), "}", "else"] : List Str), t ≠ z := by
    intro z hz e
    have := List.all_eq_true.mp key z hz
    rw [← e, Bool.and_eq_true, Bool.and_eq_true, Bool.and_eq_true, Bool.and_eq_true] at this
    obtain ⟨h1, h2, h3, h4, h5⟩ := this
    rcases h with h | h | h | h | ⟨r, h⟩
    · rw [h] at h1; cases h1
    · rw [decide_eq_true h] at h2; cases h2
    · rw [decide_eq_true h] at h3; cases h3
    · rw [decide_eq_true h] at h4; cases h4
    · rw [h] at h5; cases h5
  exact ⟨each _ (by simp), each _ (by simp), each _ (by simp)⟩
theorem stk_fst : ∀ {s : St} {ts : List Str}, s.tk ts → ∃ t r, ts = t :: r ∧ Fst2 t
  | .set x e, ts, h => by
    obtain ⟨h1, u, h2, _⟩ := h
    exact ⟨x, _, h2, .inl h1⟩
  | .run x es, ts, h => by
    obtain ⟨h1, u, h2, _⟩ := h
    exact ⟨x, _, h2, .inl h1⟩
  | .give e, ts, h => by
    obtain ⟨u, h2, _⟩ := h
    exact ⟨_, _, h2, .inr (.inl rfl)⟩
  | .note x, ts, h => by
    obtain ⟨w, h2, h3⟩ := h
    exact ⟨w, [], h2, .inr (.inr (.inr (.inr h3.1)))⟩
  | .loop e b, ts, h => by
    obtain ⟨u, v, h2, _⟩ := h
    exact ⟨_, _, h2, .inr (.inr (.inl rfl))⟩
  | .iff e b o c, ts, h => by
    obtain ⟨u, v, w, h2, _⟩ := h
    exact ⟨_, _, h2, .inr (.inr (.inr (.inl rfl)))⟩
theorem stks_len : ∀ {ss : List St} {ts : List Str}, St.tks ss ts → ss.length ≤ ts.length
  | [], _, _ => Nat.zero_le _
  | s :: ss, ts, h => by
    obtain ⟨u, v, h1, h2, h3⟩ := h
    obtain ⟨t, r, h4, _⟩ := stk_fst h2
    have := stks_len h3
    rw [h1, h4, List.length_append, List.length_cons, List.length_cons]
    omega
abbrev StmtOk (f : F) (s : St) : Prop := ReadOk f [] (fun r => r.head? ≠ some ("else" : Str)) s.tk (fun d => Nd s.ht d s.d)
def EndB (r : List Str) : Prop := r = [] ∨ r.head? = some ("}" : Str)
abbrev StmtsOk (f : F) (ss : List St) : Prop := ReadOk f [] EndB (St.tks ss) (fun d => ∃ ns, d = .tup ns ∧ Nds (St.hts ss) ns (St.ds ss))
/-- a block with its braces -/
abbrev BlockOk (f : F) (ss : List St) : Prop := ReadOk f [] (fun _ => True) (fun ts => ∃ v : List Str, ts = ("{" : Str) :: (v ++ [("}" : Str)]) ∧ St.tks ss v) (fun d => ∃ ns l, d = .tup [.tup ns, .int l] ∧ Nds (St.hts ss) ns (St.ds ss))
theorem stmts_ok {f : F} {ss : List St} (he : ∀ y ∈ ss, StmtOk f y) : StmtsOk (g_Reader_statements nW f) ss := by
  intro a wl wds W rows i S ts rest Q h hw hW hd hk hst q
  have sl : ∀ n : Nat, n ≤ 200 → n ≤ sizeLine := fun n h => by rw [sizeLine_eq]; omega
  unfold g_Reader_statements
  refine w_def rfl ?_
  rw [s_seq, s_set]
  simp only [w_lst, w_nil, List.map_cons, List.map_nil, List.length_cons, List.length_nil, List.cons_append, List.nil_append, List.set_cons_zero, List.set_cons_succ, List.reduceReplicate, Nat.reduceAdd, Nat.reduceSub]
  refine ⟨sl _ (by decide), ?_⟩
  rw [s_seq, s_while]
  have hlen := stks_len hk
  have htl : ts.length ≤ W.length := by
    have := congrArg List.length hd
    rw [List.length_drop, List.length_append] at this
    omega
  have hwl : wl < S.length := (List.getElem?_eq_some_iff.mp h.ws).1
  have hal := h.lt
  refine while_wp (fun k ρ S' => ∃ (done todo : List St) (ns : List D) (j : Nat) (v : List Str), ss = done ++ todo ∧ todo.length = k ∧ ρ = [some (.ref a), some (.ref S.length)] ∧ Rdr a wl wds rows j S' ∧ W.drop j = v ++ rest ∧ St.tks todo v ∧ Ext a S S' ∧ S'[S.length]? = some (.lst ns) ∧ Nds (St.hts ss) ns (St.ds done) ∧ j + v.length = i + ts.length ∧ ns.length = done.length) (fun k ρ S' => ?_) wN ss.length _ _ (by rw [wN_eq]; omega)
    ⟨[], ss, [], i, ts, rfl, rfl, rfl, h.app _, hd, hk, (Ext.refl a S).app _, List.getElem?_concat_length, Nds.nil, rfl, rfl⟩
  rintro ⟨done, todo, ns, j, v, hes, htk, rfl, hj, hdj, hv, x, hn, hnd, hjv, hnl⟩
  simp only [w_val, w_bin, w_meth, w_tup, w_cons, w_nil, w_var, w_c, List.getElem?_cons_zero, List.getElem?_cons_succ]
  refine ⟨a, _, insD_of hj.at_, look_meth (by decide +kernel), ?_⟩
  refine next_wp hj hw ⟨sl _ (by simp), ?_⟩
  refine (w_notIn (inW_tup (d := .str (nxt W j)) trivial ["", "}"])).mpr ⟨_, rfl, ?_⟩
  rw [isIn_two]
  have hnle : ns.length ≤ 1000000 := by
    have := congrArg List.length hes
    rw [List.length_append] at this
    omega
  cases todo with
  | nil =>
    have hv : v = [] := hv
    subst hv
    have hnx : (decide (nxt W j = "") || decide (nxt W j = "}")) = true := by
      rcases hst with hr | hr
      · rw [drop_nil (by rw [hdj, hr]; rfl)]
        rfl
      · have : nxt W j = "}" := (hd_nxt (W := W) (i := j) (r := rest) hdj (by decide +kernel)).mp hr
        rw [this]
        decide +kernel
    rw [hnx, if_neg (by decide), s_ret]
    simp only [w_cb, w_cons, w_nil, w_var, List.getElem?_cons_zero, List.getElem?_cons_succ]
    rw [w_tupL hn]
    rw [List.append_nil] at hes
    refine q _ S' x ?_ ⟨ns, rfl, by rw [hes] at hnd ⊢; exact hnd⟩
    rw [show i + ts.length = j by rw [← hjv]; rfl]
    exact hj
  | cons y t =>
    obtain ⟨u, v', hvu, hyu, hrs⟩ := hv
    obtain ⟨t0, r0, hu0, hf0⟩ := stk_fst hyu
    have hdj1 : W.drop j = u ++ (v' ++ rest) := by rw [hdj, hvu, List.append_assoc]
    have hnx : nxt W j = t0 := (drop_hd (by rw [hdj1, hu0]; rfl)).1
    rw [hnx, decide_eq_false hf0.ne.1, decide_eq_false hf0.ne.2.1, if_pos (by decide), s_drop]
    simp only [w_mt, w_meth, w_cons, w_nil, w_var, List.getElem?_cons_zero, List.getElem?_cons_succ]
    refine ⟨by show kOb S'[S.length]? = "list"; rw [hn]; rfl, a, _, insD_of hj.at_, look_meth (by decide +kernel), ?_⟩
    have hmem : y ∈ ss := by rw [hes]; exact List.mem_append_right _ List.mem_cons_self
    have hstop : (v' ++ rest).head? ≠ some ("else" : Str) := by
      cases t with
      | nil =>
        have hrs : v' = [] := hrs
        subst hrs
        intro z
        have z : rest.head? = some ("else" : Str) := z
        rcases hst with hr | hr
        · rw [hr] at z; cases z
        · rw [hr] at z
          injection z with z
          exact absurd z (by decide +kernel)
      | cons y2 t2 =>
        obtain ⟨u2, v2, hv2, hy2, _⟩ := hrs
        obtain ⟨t3, r3, hu3, hf3⟩ := stk_fst hy2
        rw [hv2, hu3]
        intro z
        injection z with z
        exact hf3.ne.2.2 z
    refine he y hmem a wl wds W rows j S' u (v' ++ rest) _ hj hw hW hdj1 hyu hstop fun d S1 x1 h1 n1 => ?_
    have hn1 := x1.at_ hn (by omega)
    have hl1 : S.length < S1.length := (List.getElem?_eq_some_iff.mp hn1).1
    rw [w_app hn1]
    refine ⟨by rw [sizeLine_eq]; omega, ?_⟩
    rw [List.length_cons] at htk
    refine ⟨t.length, by omega, done ++ [y], t, ns ++ [d], _, v', by rw [hes, List.append_assoc]; rfl, rfl, by first | rfl | trivial, h1.set (by omega) (by omega) _, drop_app hdj1, hrs, (x.trans x1).set (Nat.le_refl _) _, List.getElem?_set_self hl1, ?_, ?_, ?_⟩
    · rw [sds_app]
      exact hnd.snoc (n1.le (shts_mem hmem))
    · rw [hvu, List.length_append] at hjv
      omega
    · rw [List.length_append, List.length_append, hnl]
      rfl
theorem block_ok {rf f : F} {ss : List St} (hs : StmtsOk f ss) : BlockOk (g_Reader_block (gTake rf) f) ss := by
  intro a wl wds W rows i S ts rest Q h hw hW hd hk hst q
  obtain ⟨v, hts, hv⟩ := hk
  have sl : ∀ n : Nat, n ≤ 200 → n ≤ sizeLine := fun n h => by rw [sizeLine_eq]; omega
  have hd0 : W.drop i = ("{" : Str) :: (v ++ ([("}" : Str)] ++ rest)) := by rw [hd, hts, List.cons_append, List.append_assoc]
  obtain ⟨hx, hd1⟩ := drop_hd hd0
  unfold g_Reader_block
  refine w_def rfl ?_
  rw [s_seq, s_drop]
  simp only [w_meth, w_cons, w_nil, w_var, w_c, List.map_cons, List.map_nil, List.length_cons, List.length_nil, List.cons_append, List.nil_append, List.getElem?_cons_zero, List.getElem?_cons_succ, List.reduceReplicate, Nat.reduceAdd, Nat.reduceSub]
  refine ⟨a, _, insD_of h.at_, look_meth (by decide +kernel), ?_⟩
  refine take_wd h hw hx ?_
  rw [s_ret]
  simp only [w_tup, w_meth, w_cons, w_nil, w_var, w_c, List.getElem?_cons_zero, List.getElem?_cons_succ]
  refine ⟨a, _, insD_of h.step.at_, look_meth (by decide +kernel), ?_⟩
  refine hs a wl wds W rows (i + 1) _ v ([("}" : Str)] ++ rest) _ h.step hw hW hd1 hv (.inr rfl) fun d S1 x1 h1 n1 => ?_
  obtain ⟨ns, rfl, n1⟩ := n1
  refine ⟨a, _, insD_of h1.at_, look_meth (by decide +kernel), ?_⟩
  refine take_wd h1 hw (drop_hd (drop_app hd1)).1 ⟨sl _ (by simp), ?_⟩
  refine q _ _ ((h.stepX.trans x1).trans h1.stepX) ?_ ⟨ns, _, rfl, n1⟩
  have := h1.step
  rw [hts, List.length_cons, List.length_append, List.length_singleton, show i + (v.length + 1 + 1) = i + 1 + v.length + 1 by omega]
  exact this
theorem giving_ok {rf e : F} {x : Ex} (he : ExprOk e x) : ReadOk (g_Reader_giving (gTake rf) e g_node_of) [] (fun _ => True) (St.give x).tk (fun d => Nd (St.give x).ht d (St.give x).d) := by
  intro a wl wds W rows i S ts rest Q h hw hW hd hk hst q
  obtain ⟨u, hts, hu⟩ := hk
  have sl : ∀ n : Nat, n ≤ 200 → n ≤ sizeLine := fun n h => by rw [sizeLine_eq]; omega
  have hd0 : W.drop i = ("give" : Str) :: (u ++ ([(";" : Str)] ++ rest)) := by rw [hd, hts, List.cons_append, List.append_assoc]
  obtain ⟨hx, hd1⟩ := drop_hd hd0
  unfold g_Reader_giving
  refine w_def rfl ?_
  rw [s_seq, s_par]
  simp only [w_meth, w_cons, w_nil, w_var, w_c, List.map_cons, List.map_nil, List.length_cons, List.length_nil, List.cons_append, List.nil_append, List.getElem?_cons_zero, List.getElem?_cons_succ, List.set_cons_zero, List.set_cons_succ, List.reduceReplicate, Nat.reduceAdd, Nat.reduceSub]
  refine ⟨a, _, insD_of h.at_, look_meth (by decide +kernel), ?_⟩
  refine take_wd h hw hx ?_
  refine ⟨a, _, insD_of h.step.at_, look_meth (by decide +kernel), ?_⟩
  refine he a wl wds W rows (i + 1) _ u ([(";" : Str)] ++ rest) _ h.step hw hW hd1 hu (stop_cons (by decide +kernel)) fun d S1 x1 h1 n1 => ⟨_, _, rfl, ?_⟩
  rw [s_ret]
  simp only [w_cb, w_cons, w_nil, w_var, w_c, w_tup, w_meth, List.getElem?_cons_zero, List.getElem?_cons_succ, List.set_cons_zero, List.set_cons_succ]
  refine ⟨sl _ (by simp), sl _ (by simp), sl _ (by simp), a, _, insD_of h1.at_, look_meth (by decide +kernel), ?_⟩
  refine take_wd h1 hw (drop_hd (drop_app hd1)).1 (node_w ?_)
  refine q _ _ ((h.stepX.trans x1).trans h1.stepX) ?_ (Nd.mk1 (Nds.one n1))
  have := h1.step
  rw [hts, List.length_cons, List.length_append, List.length_singleton, show i + (u.length + 1 + 1) = i + 1 + u.length + 1 by omega]
  exact this
/-- set, run -/
theorem setting_ok {rf e es : F} {s : St} (hs : (∃ x y, s = .set x y ∧ ExprOk e y) ∨ ∃ x ys, s = .run x ys ∧ ExprsOk es ys ")") : ReadOk (g_Reader_setting (gTakeN rf) nW (gTake rf) e g_node_of es) [] (fun _ => True) s.tk (fun d => Nd s.ht d s.d) := by
  intro a wl wds W rows i S ts rest Q h hw hW hd hk hst q
  have sl : ∀ n : Nat, n ≤ 200 → n ≤ sizeLine := fun n h => by rw [sizeLine_eq]; omega
  unfold g_Reader_setting
  refine w_def rfl ?_
  rw [s_seq, s_par]
  simp only [w_meth, w_att, w_cons, w_nil, w_var, w_c, List.map_cons, List.map_nil, List.length_cons, List.length_nil, List.cons_append, List.nil_append, List.getElem?_cons_zero, List.getElem?_cons_succ, List.set_cons_zero, List.set_cons_succ, List.reduceReplicate, Nat.reduceAdd, Nat.reduceSub]
  refine ⟨a, _, _, insD_of h.at_, look_at, a, _, insD_of h.at_, look_meth (by decide +kernel), ?_⟩
  rcases hs with ⟨x, y, rfl, he⟩ | ⟨x, ys, rfl, he⟩
  · obtain ⟨hn, u, hts, hu⟩ := hk
    have hd0 : W.drop i = x :: ("=" : Str) :: (u ++ ([(";" : Str)] ++ rest)) := by rw [hd, hts, List.cons_append, List.cons_append, List.append_assoc]
    obtain ⟨hx, hd1⟩ := drop_hd hd0
    obtain ⟨hx1, hd2⟩ := drop_hd hd1
    refine takeName_wd h hw (by rw [hx]; exact hn) fun l => ⟨_, _, rfl, ?_⟩
    rw [hx]
    have h2 := (h.app l).step
    rw [s_seq, s_if]
    simp only [w_val, w_bin, w_meth, w_cons, w_nil, w_var, w_c, List.getElem?_cons_zero, List.getElem?_cons_succ, List.set_cons_zero, List.set_cons_succ]
    refine ⟨a, _, insD_of h2.at_, look_meth (by decide +kernel), ?_⟩
    refine next_wp h2 hw ?_
    rw [hx1, w_eq eqN_str]
    refine ⟨_, rfl, ?_⟩
    rw [if_pos (by decide +kernel), s_seq, s_drop]
    simp only [w_meth, w_cons, w_nil, w_var, w_c, List.getElem?_cons_zero, List.getElem?_cons_succ]
    refine ⟨a, _, insD_of h2.at_, look_meth (by decide +kernel), ?_⟩
    refine take_wd h2 hw hx1 ?_
    rw [s_seq, s_set]
    simp only [w_meth, w_cons, w_nil, w_var, w_c, List.getElem?_cons_zero, List.getElem?_cons_succ]
    refine ⟨a, _, insD_of h2.step.at_, look_meth (by decide +kernel), ?_⟩
    refine he a wl wds W rows (i + 1 + 1) _ u ([(";" : Str)] ++ rest) _ h2.step hw hW hd2 hu (stop_cons (by decide +kernel)) fun d S1 x1 h1 n1 => ?_
    rw [s_ret]
    simp only [w_cb, w_cons, w_nil, w_var, w_c, w_tup, w_meth, List.getElem?_cons_zero, List.getElem?_cons_succ, List.set_cons_zero, List.set_cons_succ]
    refine ⟨sl _ (by simp), sl _ (by simp), sl _ (by simp), a, _, insD_of h1.at_, look_meth (by decide +kernel), ?_⟩
    refine take_wd h1 hw (drop_hd (drop_app hd2)).1 (node_w ?_)
    refine q _ _ ((((((Ext.refl a S).app l).trans (h.app l).stepX).trans h2.stepX).trans x1).trans h1.stepX) ?_ (Nd.mk1 (Nds.one n1))
    have := h1.step
    rw [hts, List.length_cons, List.length_cons, List.length_append, List.length_singleton, show i + (u.length + 1 + 1 + 1) = i + 1 + 1 + u.length + 1 by omega]
    exact this
  · obtain ⟨hn, u, hts, hu⟩ := hk
    have hd0 : W.drop i = x :: ("(" : Str) :: (u ++ ((")" : Str) :: (";" : Str) :: rest)) := by rw [hd, hts, List.cons_append, List.cons_append, List.append_assoc]; rfl
    obtain ⟨hx, hd1⟩ := drop_hd hd0
    obtain ⟨hx1, hd2⟩ := drop_hd hd1
    refine takeName_wd h hw (by rw [hx]; exact hn) fun l => ⟨_, _, rfl, ?_⟩
    rw [hx]
    have h2 := (h.app l).step
    rw [s_seq, s_if]
    simp only [w_val, w_bin, w_meth, w_cons, w_nil, w_var, w_c, List.getElem?_cons_zero, List.getElem?_cons_succ, List.set_cons_zero, List.set_cons_succ]
    refine ⟨a, _, insD_of h2.at_, look_meth (by decide +kernel), ?_⟩
    refine next_wp h2 hw ?_
    rw [hx1, w_eq eqN_str]
    refine ⟨_, rfl, ?_⟩
    rw [if_neg (by decide +kernel), s_nil, s_seq, s_drop]
    simp only [w_meth, w_cons, w_nil, w_var, w_c, List.getElem?_cons_zero, List.getElem?_cons_succ]
    refine ⟨a, _, insD_of h2.at_, look_meth (by decide +kernel), ?_⟩
    refine take_wd h2 hw hx1 ?_
    rw [s_seq, s_set]
    simp only [w_meth, w_cons, w_nil, w_var, w_c, List.getElem?_cons_zero, List.getElem?_cons_succ]
    refine ⟨a, _, insD_of h2.step.at_, look_meth (by decide +kernel), ?_⟩
    refine he a wl wds W rows (i + 1 + 1) _ u ((")" : Str) :: (";" : Str) :: rest) _ h2.step hw hW hd2 hu rfl fun d S1 x1 h1 n1 => ?_
    obtain ⟨ns, rfl, n1⟩ := n1
    have hd3 := drop_app hd2
    obtain ⟨hx3, hd4⟩ := drop_hd hd3
    obtain ⟨hx4, _⟩ := drop_hd hd4
    rw [s_seq, s_drop]
    simp only [w_cb, w_cons, w_nil, w_var, w_c, w_tup, w_meth, List.getElem?_cons_zero, List.getElem?_cons_succ, List.set_cons_zero, List.set_cons_succ]
    refine ⟨a, _, insD_of h1.at_, look_meth (by decide +kernel), ?_⟩
    refine take_wd h1 hw hx3 ?_
    rw [s_ret]
    simp only [w_cb, w_cons, w_nil, w_var, w_c, w_tup, w_meth, List.getElem?_cons_zero, List.getElem?_cons_succ]
    refine ⟨sl _ (by simp), sl _ (by simp), a, _, insD_of h1.step.at_, look_meth (by decide +kernel), ?_⟩
    refine take_wd h1.step hw hx4 (node_w ?_)
    refine q _ _ (((((((Ext.refl a S).app l).trans (h.app l).stepX).trans h2.stepX).trans x1).trans h1.stepX).trans h1.step.stepX) ?_ (Nd.mk1 n1)
    have := h1.step.step
    rw [hts, List.length_cons, List.length_cons, List.length_append, List.length_cons, List.length_singleton, show i + (u.length + (1 + 1) + 1 + 1) = i + 1 + 1 + u.length + 1 + 1 by omega]
    exact this
theorem noting_ok {rf : F} {x : Str} {a wl : Nat} {wds : List D} {rows : Int} {i : Nat} {S : Sto} {Q : D → Sto → Prop} (h : Rdr a wl wds rows i S) (hx : noteB x = true)
    (q : ∀ d S', Ext a S S' → Rdr a wl wds rows (i + 1) S' → Nd 1 d (St.note x).d → Q d S') : (g_Reader_noting (g_is_note g_are_all) rf g_node_of [.ref a, .str x] S).wp Q := by
  have sl : ∀ n : Nat, n ≤ 200 → n ≤ sizeLine := fun n h => by rw [sizeLine_eq]; omega
  unfold g_Reader_noting
  refine w_def rfl ?_
  rw [s_seq, s_if]
  simp only [w_tnot, w_val, w_cb, w_cons, w_nil, w_var, w_c, List.map_cons, List.map_nil, List.length_cons, List.length_nil, List.cons_append, List.nil_append, List.getElem?_cons_zero, List.getElem?_cons_succ, List.reduceReplicate, Nat.reduceAdd, Nat.reduceSub]
  have h6 := hx
  unfold noteB at h6
  rw [Bool.and_eq_true] at h6
  have h6 := of_decide_eq_true h6.1
  refine note_wp (d := .str x) trivial (fun y e => by injection e with e; rw [← e, sizeLine_eq]; omega) fun l => ⟨_, rfl, ?_⟩
  show if (!noteB x) = true then _ else _
  rw [hx, if_neg (by decide), s_nil, s_seq]
  have hl := h.app l
  refine (s_attAdd (i := (i : Nat)) (j := 1) (n := a) (fs := rdF wl rows i) (fun Q => by rw [w_var]; exact Iff.rfl) (fun Q => Iff.rfl) hl.at_ look_at (by show 3 < 1000; decide)).mpr ?_
  rw [put_at, s_ret]
  simp only [w_cb, w_cons, w_nil, w_var, w_c, w_tup, w_att, w_bin, List.getElem?_cons_zero, List.getElem?_cons_succ]
  refine ⟨sl _ (by simp), sl _ (by simp), a, _, _, insD_of hl.step.at_, look_at, ?_⟩
  rw [w_fI]
  refine ⟨rfl, a, _, _, insD_of hl.step.at_, look_at, ?_⟩
  rw [w_fI]
  refine ⟨rfl, node_w ?_⟩
  exact q _ _ (((Ext.refl a S).app l).trans hl.stepX) hl.step Nd.mk0
end Mn

set_option Elab.async false
set_option linter.all false
set_option maxRecDepth 100000
set_option maxHeartbeats 4000000
/-! branching; a statement; whole texts of words. No program here. -/
namespace Mn
open PySem PySem.Spec PyProof.Rows L2
theorem w_slSt {S : Sto} {Q : D → Sto → Prop} {x : Str} {lo hi : Option Int} : (fSl (.str x) lo hi S).wp Q ↔ x.length ≤ sizeLine ∧ Q (.str (L2.cutS x lo hi)) S := by
  show Res.wp (if x.length ≤ sizeLine then .ok (.str (L2.cutS x lo hi)) S else .bad) Q ↔ _
  constructor <;> intro h
  · split at h
    · rename_i hc; exact ⟨hc, h⟩
    · exact h.elim
  · rw [if_pos h.1]; exact h.2
abbrev gBranch (rf e bl : F) : F := g_Reader_branching (gTake rf) e bl g_node_of nW
/-- kind's word is passed -/
def BranchOk (f : F) (s : St) (k : Str) : Prop := ReadOk f [.str k] (fun r => r.head? ≠ some ("else" : Str)) s.tk (fun d => Nd s.ht d s.d)
theorem loop_ok {rf e bl : F} {x : Ex} {b : List St} (he : ExprOk e x) (hb : BlockOk bl b) : BranchOk (gBranch rf e bl) (.loop x b) "loop" := by
  intro a wl wds W rows i S ts rest Q h hw hW hd hk hst q
  obtain ⟨u, v, hts, hu, hv⟩ := hk
  have sl : ∀ n : Nat, n ≤ 200 → n ≤ sizeLine := fun n h => by rw [sizeLine_eq]; omega
  have hd0 : W.drop i = ("loop" : Str) :: (u ++ (("{" : Str) :: (v ++ [("}" : Str)]) ++ rest)) := by rw [hd, hts, List.cons_append, List.append_assoc]
  obtain ⟨hx, hd1⟩ := drop_hd hd0
  unfold gBranch g_Reader_branching
  refine w_def rfl ?_
  rw [s_seq, s_par]
  simp only [w_meth, w_cons, w_nil, w_var, w_c, List.map_cons, List.map_nil, List.length_cons, List.length_nil, List.cons_append, List.nil_append, List.getElem?_cons_zero, List.getElem?_cons_succ, List.set_cons_zero, List.set_cons_succ, List.reduceReplicate, Nat.reduceAdd, Nat.reduceSub]
  refine ⟨a, _, insD_of h.at_, look_meth (by decide +kernel), ?_⟩
  refine take_wd h hw hx ?_
  refine ⟨a, _, insD_of h.step.at_, look_meth (by decide +kernel), ?_⟩
  refine he a wl wds W rows (i + 1) _ u (("{" : Str) :: (v ++ [("}" : Str)]) ++ rest) _ h.step hw hW hd1 hu (stop_cons (by decide +kernel)) fun d S1 x1 h1 n1 => ⟨_, _, rfl, ?_⟩
  have hd2 := drop_app hd1
  rw [s_seq, s_asg]
  simp only [w_meth, w_cons, w_nil, w_var, w_c, List.getElem?_cons_zero, List.getElem?_cons_succ, List.set_cons_zero, List.set_cons_succ]
  refine ⟨a, _, insD_of h1.at_, look_meth (by decide +kernel), ?_⟩
  refine hb a wl wds W rows _ S1 (("{" : Str) :: (v ++ [("}" : Str)])) rest _ h1 hw hW hd2 ⟨v, rfl, hv⟩ trivial fun d2 S2 x2 h2 n2 => ?_
  obtain ⟨ns, l, rfl, n2⟩ := n2
  refine ⟨_, rfl, ?_⟩
  show RS.wp (sSeq _ _ [some (.ref a), some (.str "loop"), none, some (.int (i : Nat)), some d, some (.tup ns), some (.int l), none, none] S2) _ _
  rw [s_seq, s_if]
  simp only [w_val, w_bin, w_var, w_c, List.getElem?_cons_zero, List.getElem?_cons_succ]
  rw [w_eq eqN_str]
  refine ⟨_, rfl, ?_⟩
  rw [if_pos (by decide +kernel), s_ret]
  simp only [w_cb, w_cons, w_nil, w_var, w_tup, List.getElem?_cons_zero, List.getElem?_cons_succ]
  refine ⟨sl _ (by simp), sl _ (by simp), sl _ (by simp), node_w ?_⟩
  refine q _ _ ((h.stepX.trans x1).trans x2) ?_ (Nd.mk2 (h := max x.ht (St.hts b)) ((Nds.one n1).le (by omega)) (n2.le (by omega)))
  rw [hts, List.length_cons, List.length_append, show i + (u.length + (("{" : Str) :: (v ++ [("}" : Str)])).length + 1) = i + 1 + u.length + (("{" : Str) :: (v ++ [("}" : Str)])).length by omega]
  exact h2
theorem if_ok {rf e bl : F} {x : Ex} {b : List St} {o : Bool} {c : List St} (he : ExprOk e x) (hb : BlockOk bl b) (hc : BlockOk bl c) : BranchOk (gBranch rf e bl) (.iff x b o c) "if" := by
  intro a wl wds W rows i S ts rest Q h hw hW hd hk hst q
  obtain ⟨u, v, w, hts, hu, hv, hw2⟩ := hk
  have sl : ∀ n : Nat, n ≤ 200 → n ≤ sizeLine := fun n h => by rw [sizeLine_eq]; omega
  have hts2 : ts = ("if" : Str) :: (u ++ (("{" : Str) :: (v ++ [("}" : Str)]) ++ w)) := by rw [hts]; simp
  have hd0 : W.drop i = ("if" : Str) :: (u ++ (("{" : Str) :: (v ++ [("}" : Str)]) ++ (w ++ rest))) := by rw [hd, hts2]; simp
  obtain ⟨hx, hd1⟩ := drop_hd hd0
  unfold gBranch g_Reader_branching
  refine w_def rfl ?_
  rw [s_seq, s_par]
  simp only [w_meth, w_cons, w_nil, w_var, w_c, List.map_cons, List.map_nil, List.length_cons, List.length_nil, List.cons_append, List.nil_append, List.getElem?_cons_zero, List.getElem?_cons_succ, List.set_cons_zero, List.set_cons_succ, List.reduceReplicate, Nat.reduceAdd, Nat.reduceSub]
  refine ⟨a, _, insD_of h.at_, look_meth (by decide +kernel), ?_⟩
  refine take_wd h hw hx ?_
  refine ⟨a, _, insD_of h.step.at_, look_meth (by decide +kernel), ?_⟩
  refine he a wl wds W rows (i + 1) _ u (("{" : Str) :: (v ++ [("}" : Str)]) ++ (w ++ rest)) _ h.step hw hW hd1 hu (stop_cons (by decide +kernel)) fun d S1 x1 h1 n1 => ⟨_, _, rfl, ?_⟩
  have hd2 := drop_app hd1
  rw [s_seq, s_asg]
  simp only [w_meth, w_cons, w_nil, w_var, w_c, List.getElem?_cons_zero, List.getElem?_cons_succ, List.set_cons_zero, List.set_cons_succ]
  refine ⟨a, _, insD_of h1.at_, look_meth (by decide +kernel), ?_⟩
  refine hb a wl wds W rows _ S1 (("{" : Str) :: (v ++ [("}" : Str)])) (w ++ rest) _ h1 hw hW hd2 ⟨v, rfl, hv⟩ trivial fun d2 S2 x2 h2 n2 => ?_
  obtain ⟨ns, l, rfl, n2⟩ := n2
  have hd3 := drop_app hd2
  refine ⟨_, rfl, ?_⟩
  show RS.wp (sSeq _ _ [some (.ref a), some (.str "if"), none, some (.int (i : Nat)), some d, some (.tup ns), some (.int l), none, none] S2) _ _
  rw [s_seq, s_if]
  simp only [w_val, w_bin, w_var, w_c, List.getElem?_cons_zero, List.getElem?_cons_succ]
  rw [w_eq eqN_str]
  refine ⟨_, rfl, ?_⟩
  rw [if_neg (by decide +kernel), s_nil, s_seq, s_set]
  simp only [w_tup, w_nil]
  refine ⟨sl _ (by decide), ?_⟩
  rw [s_seq, s_if]
  simp only [w_val, w_bin, w_meth, w_cons, w_nil, w_var, w_c, List.getElem?_cons_zero, List.getElem?_cons_succ, List.set_cons_zero, List.set_cons_succ]
  refine ⟨a, _, insD_of h2.at_, look_meth (by decide +kernel), ?_⟩
  refine next_wp h2 hw ?_
  rw [w_eq eqN_str]
  refine ⟨_, rfl, ?_⟩
  have x02 := (h.stepX.trans x1).trans x2
  have m1 : Nds (max (max x.ht (St.hts b)) (St.hts c + 1)) [d] [x.d] := (Nds.one n1).le (by omega)
  have m2 : Nds (max (max x.ht (St.hts b)) (St.hts c + 1)) ns (St.ds b) := n2.le (by omega)
  rcases hw2 with ⟨rfl, rfl, rfl⟩ | ⟨rfl, z, hz, hcz⟩
  · have hne : ¬ nxt W (i + 1 + u.length + (("{" : Str) :: (v ++ [("}" : Str)])).length) = "else" := fun y => hst ((hd_nxt (show W.drop _ = rest from hd3) (by decide +kernel)).mpr y)
    rw [if_neg (by rw [beq_iff_eq]; exact hne), s_nil, s_ret]
    simp only [w_cb, w_cons, w_nil, w_var, w_tup, List.getElem?_cons_zero, List.getElem?_cons_succ]
    refine ⟨sl _ (by simp), sl _ (by simp), sl _ (by simp), node_w ?_⟩
    refine q _ _ x02 ?_ (Nd.mk3 m1 m2 Nds.nil)
    rw [hts2, List.length_cons, List.length_append, List.append_nil, show i + (u.length + (("{" : Str) :: (v ++ [("}" : Str)])).length + 1) = i + 1 + u.length + (("{" : Str) :: (v ++ [("}" : Str)])).length by omega]
    exact h2
  · have hd3 : W.drop (i + 1 + u.length + (("{" : Str) :: (v ++ [("}" : Str)])).length) = ("else" : Str) :: ((("{" : Str) :: (z ++ [("}" : Str)])) ++ rest) := by rw [hd3, hz]; rfl
    obtain ⟨hx3, hd4⟩ := drop_hd hd3
    rw [if_pos (by rw [hx3]; decide +kernel), s_seq, s_set]
    simp only [w_meth, w_cons, w_nil, w_var, w_c, List.getElem?_cons_zero, List.getElem?_cons_succ, List.set_cons_zero, List.set_cons_succ]
    refine ⟨a, _, insD_of h2.at_, look_meth (by decide +kernel), ?_⟩
    refine take_wd h2 hw hx3 ?_
    rw [s_seq, s_asg]
    simp only [w_meth, w_cons, w_nil, w_var, w_c, List.getElem?_cons_zero, List.getElem?_cons_succ, List.set_cons_zero, List.set_cons_succ]
    refine ⟨a, _, insD_of h2.step.at_, look_meth (by decide +kernel), ?_⟩
    refine hc a wl wds W rows _ _ (("{" : Str) :: (z ++ [("}" : Str)])) rest _ h2.step hw hW hd4 ⟨z, rfl, hcz⟩ trivial fun d4 S4 x4 h4 n4 => ?_
    obtain ⟨ns4, l4, rfl, n4⟩ := n4
    refine ⟨_, rfl, ?_⟩
    show RS.wp (sSet 2 _ [some (.ref a), some (.str "if"), some (.tup []), some (.int (i : Nat)), some d, some (.tup ns), some (.int l4), some (.int ((i + 1 + u.length + (("{" : Str) :: (v ++ [("}" : Str)])).length : Nat) : Int)), some (.tup ns4)] S4) _ _
    rw [s_set]
    simp only [w_cb, w_cons, w_nil, w_var, w_c, w_tup, List.getElem?_cons_zero, List.getElem?_cons_succ, List.set_cons_zero, List.set_cons_succ]
    refine ⟨sl _ (by simp), sl _ (by simp), node_w ⟨sl _ (by simp), ?_⟩⟩
    rw [s_ret]
    simp only [w_cb, w_cons, w_nil, w_var, w_tup, List.getElem?_cons_zero, List.getElem?_cons_succ]
    refine ⟨sl _ (by simp), sl _ (by simp), sl _ (by simp), node_w ?_⟩
    have m3 : Nds (max (max x.ht (St.hts b)) (St.hts c + 1)) [nodeD (.tup [.str "else"]) [.tup ns4] ((i + 1 + u.length + (("{" : Str) :: (v ++ [("}" : Str)])).length : Nat) : Int) l4] [elseD (St.ds c)] := (Nds.one (Nd.mk1 n4)).le (by omega)
    refine q _ _ ((x02.trans h2.stepX).trans x4) ?_ (Nd.mk3 m1 m2 m3)
    have e : i + ts.length = i + 1 + u.length + (("{" : Str) :: (v ++ [("}" : Str)])).length + 1 + (("{" : Str) :: (z ++ [("}" : Str)])).length := by
      rw [hts2, hz]
      simp only [List.length_cons, List.length_append, List.length_nil]
      omega
    rw [e]
    exact h4
/-- a statement: what its kind needs -/
theorem stmt_ok {rf e es bl : F} {s : St} (h1 : ∀ x y, s = .set x y → ExprOk e y) (h2 : ∀ x ys, s = .run x ys → ExprsOk es ys ")") (h3 : ∀ y, s = .give y → ExprOk e y) (h4 : ∀ y b, s = .loop y b → ExprOk e y ∧ BlockOk bl b) (h5 : ∀ y b o c, s = .iff y b o c → ExprOk e y ∧ BlockOk bl b ∧ BlockOk bl c) :
    StmtOk (g_Reader_statement nW (gBranch rf e bl) (g_Reader_giving (gTake rf) e g_node_of) (g_Reader_noting (g_is_note g_are_all) rf g_node_of) g_note_of (g_Reader_setting (gTakeN rf) nW (gTake rf) e g_node_of es)) s := by
  intro a wl wds W rows i S ts rest Q h hw hW hd hk hst q
  have sl : ∀ n : Nat, n ≤ 200 → n ≤ sizeLine := fun n h => by rw [sizeLine_eq]; omega
  obtain ⟨t, r, ets, hf⟩ := stk_fst hk
  have hd0 : W.drop i = t :: (r ++ rest) := by rw [hd, ets]; rfl
  obtain ⟨ht0, hd1⟩ := drop_hd hd0
  unfold g_Reader_statement
  refine w_def rfl ?_
  rw [s_seq, s_set]
  simp only [w_meth, w_cons, w_nil, w_var, w_c, List.map_cons, List.map_nil, List.length_cons, List.length_nil, List.cons_append, List.nil_append, List.getElem?_cons_zero, List.getElem?_cons_succ, List.set_cons_zero, List.set_cons_succ, List.reduceReplicate, Nat.reduceAdd, Nat.reduceSub]
  refine ⟨a, _, insD_of h.at_, look_meth (by decide +kernel), ?_⟩
  refine next_wp h hw ?_
  rw [ht0, s_seq, s_if]
  simp only [w_val, w_bin, w_tup, w_cons, w_nil, w_var, w_c, List.getElem?_cons_zero, List.getElem?_cons_succ]
  refine ⟨sl _ (by simp), ?_⟩
  refine (w_in (inW_tup (d := .str t) trivial ["if", "loop"])).mpr ⟨_, rfl, ?_⟩
  rw [isIn_two]
  have gnw : ∀ {t : Str}, nameB t = true ∨ (∃ r, t.cps.toList = 35 :: r) → t ≠ "if" ∧ t ≠ "loop" ∧ t ≠ "give" := by
    intro t ht
    have key : ([("if" : Str), "loop", "give"] : List Str).all (fun t => !(nameB t) && !(decide (t.cps.toList.head? = some 35))) = true := by decide +kernel
    have each : ∀ z ∈ ([("if" : Str), "loop", "give"] : List Str), t ≠ z := by
      intro z hz e
      have := List.all_eq_true.mp key z hz
      rw [← e, Bool.and_eq_true] at this
      rcases ht with hn | ⟨r, hr⟩
      · rw [hn] at this; cases this.1
      · rw [hr] at this; cases this.2
    exact ⟨each _ (by simp), each _ (by simp), each _ (by simp)⟩
  -- set, run
  have named : nameB t = true → ((g_Reader_setting (gTakeN rf) nW (gTake rf) e g_node_of es) [.ref a] S).wp Q → (if (decide (t = "if") || decide (t = "loop")) = true then (sRet (mMeth "Reader" "branching" (gBranch rf e bl) (mVar 0) (aCons (mVar 1) aNil)) [some (.ref a), some (.str t)] S).wp (fun ρ S => RS.wp (sSeq (sIf (tVal (mBin fEq (mVar 1) (mC (.str "give")))) (sRet (mMeth "Reader" "giving" (g_Reader_giving (gTake rf) e g_node_of) (mVar 0) aNil)) sNil)
  (sSeq (sIf (tVal (mBin fEq (mBin fIx (mVar 1) (mC (.int 0))) (mC (.str "#")))) (sRet (mMeth "Reader" "noting" (g_Reader_noting (g_is_note g_are_all) rf g_node_of) (mVar 0) (aCons (mCB g_note_of (aCons (mVar 1) aNil)) aNil))) sNil)
  (sRet (mMeth "Reader" "setting" (g_Reader_setting (gTakeN rf) nW (gTake rf) e g_node_of es) (mVar 0) aNil))) ρ S) (fun _ S => Q .non S) Q) Q else (sNil [some (.ref a), some (.str t)] S).wp (fun ρ S => RS.wp (sSeq (sIf (tVal (mBin fEq (mVar 1) (mC (.str "give")))) (sRet (mMeth "Reader" "giving" (g_Reader_giving (gTake rf) e g_node_of) (mVar 0) aNil)) sNil)
  (sSeq (sIf (tVal (mBin fEq (mBin fIx (mVar 1) (mC (.int 0))) (mC (.str "#")))) (sRet (mMeth "Reader" "noting" (g_Reader_noting (g_is_note g_are_all) rf g_node_of) (mVar 0) (aCons (mCB g_note_of (aCons (mVar 1) aNil)) aNil))) sNil)
  (sRet (mMeth "Reader" "setting" (g_Reader_setting (gTakeN rf) nW (gTake rf) e g_node_of es) (mVar 0) aNil))) ρ S) (fun _ S => Q .non S) Q) Q) := by
    intro hn hq
    obtain ⟨e1, e2, e3⟩ := gnw (.inl hn)
    rw [decide_eq_false e1, decide_eq_false e2, if_neg (by decide), s_nil, s_seq, s_if]
    simp only [w_val, w_bin, w_var, w_c, List.getElem?_cons_zero, List.getElem?_cons_succ]
    rw [w_eq eqN_str]
    refine ⟨_, rfl, ?_⟩
    rw [if_neg (by rw [beq_iff_eq]; exact e3), s_nil, s_seq, s_if]
    simp only [w_val, w_bin, w_var, w_c, List.getElem?_cons_zero, List.getElem?_cons_succ]
    have h6 := hn
    unfold nameB at h6
    rw [Bool.and_eq_true, Bool.and_eq_true, Bool.and_eq_true] at h6
    have h8 := of_decide_eq_true h6.2.1
    obtain ⟨c, ec, eh⟩ := head_at (of_decide_eq_true h6.1)
    rw [w_ixS]
    refine ⟨by rw [sizeLine_eq]; omega, c, ec, ?_⟩
    rw [w_eq eqN_str]
    refine ⟨_, rfl, ?_⟩
    have hc : c ∈ t.cps.toList := by
      cases hx : t.cps.toList with
      | nil => rw [hx] at eh; cases eh
      | cons y r =>
        rw [hx] at eh
        injection eh with eh
        rw [eh]
        exact List.mem_cons_self
    have l1 := of_decide_eq_true (List.all_eq_true.mp h6.2.2.1 c hc)
    have key : (("abcdefghijklmnopqrstuvwxyz" : Str).cps.toList.all fun c => !((⟨#[c]⟩ : Str) == "#")) = true := by decide +kernel
    have hne := List.all_eq_true.mp key c l1
    rw [if_neg (by rw [Bool.not_eq_true'] at hne; rw [hne]; exact Bool.false_ne_true), s_nil, s_ret]
    simp only [w_meth, w_cons, w_nil, w_var, List.getElem?_cons_zero, List.getElem?_cons_succ]
    exact ⟨a, _, insD_of h.at_, look_meth (by decide +kernel), hq⟩
  cases s with
  | set x y =>
    have hn : nameB t = true := by
      obtain ⟨hn, u, hu, _⟩ := hk
      rw [hu] at ets
      injection ets with e1 e2
      rw [← e1]
      exact hn
    exact named hn (setting_ok (.inl ⟨x, y, rfl, h1 x y rfl⟩) a wl wds W rows i S ts rest Q h hw hW hd hk trivial q)
  | run x ys =>
    have hn : nameB t = true := by
      obtain ⟨hn, u, hu, _⟩ := hk
      rw [hu] at ets
      injection ets with e1 e2
      rw [← e1]
      exact hn
    exact named hn (setting_ok (.inr ⟨x, ys, rfl, h2 x ys rfl⟩) a wl wds W rows i S ts rest Q h hw hW hd hk trivial q)
  | give y =>
    have ht : t = "give" := by
      obtain ⟨u, hu, _⟩ := hk
      rw [hu] at ets
      injection ets with e1 e2
      exact e1.symm
    rw [ht, if_neg (by decide +kernel), s_nil, s_seq, s_if]
    simp only [w_val, w_bin, w_var, w_c, List.getElem?_cons_zero, List.getElem?_cons_succ]
    rw [w_eq eqN_str]
    refine ⟨_, rfl, ?_⟩
    rw [if_pos (by decide +kernel), s_ret]
    simp only [w_meth, w_cons, w_nil, w_var, List.getElem?_cons_zero, List.getElem?_cons_succ]
    refine ⟨a, _, insD_of h.at_, look_meth (by decide +kernel), ?_⟩
    exact giving_ok (h3 y rfl) a wl wds W rows i S ts rest Q h hw hW hd hk trivial q
  | loop y b =>
    have ht : t = "loop" := by
      obtain ⟨u, v, hu, _⟩ := hk
      rw [hu] at ets
      injection ets with e1 e2
      exact e1.symm
    rw [ht, if_pos (by decide +kernel), s_ret]
    simp only [w_meth, w_cons, w_nil, w_var, List.getElem?_cons_zero, List.getElem?_cons_succ]
    refine ⟨a, _, insD_of h.at_, look_meth (by decide +kernel), ?_⟩
    obtain ⟨p1, p2⟩ := h4 y b rfl
    exact loop_ok p1 p2 a wl wds W rows i S ts rest Q h hw hW hd hk hst q
  | iff y b o c =>
    have ht : t = "if" := by
      obtain ⟨u, v, w, hu, _⟩ := hk
      rw [hu] at ets
      injection ets with e1 e2
      exact e1.symm
    rw [ht, if_pos (by decide +kernel), s_ret]
    simp only [w_meth, w_cons, w_nil, w_var, List.getElem?_cons_zero, List.getElem?_cons_succ]
    refine ⟨a, _, insD_of h.at_, look_meth (by decide +kernel), ?_⟩
    obtain ⟨p1, p2, p3⟩ := h5 y b o c rfl
    exact if_ok p1 p2 p3 a wl wds W rows i S ts rest Q h hw hW hd hk hst q
  | note x =>
    obtain ⟨w, hu, ⟨r35, hr35⟩, hstrip, hnote, hwl⟩ := hk
    rw [hu] at ets
    injection ets with e1 e2
    subst e1 e2
    obtain ⟨e1, e2, e3⟩ := gnw (t := w) (.inr ⟨r35, hr35⟩)
    rw [decide_eq_false e1, decide_eq_false e2, if_neg (by decide), s_nil, s_seq, s_if]
    simp only [w_val, w_bin, w_var, w_c, List.getElem?_cons_zero, List.getElem?_cons_succ]
    rw [w_eq eqN_str]
    refine ⟨_, rfl, ?_⟩
    rw [if_neg (by rw [beq_iff_eq]; exact e3), s_nil, s_seq, s_if]
    simp only [w_val, w_bin, w_var, w_c, List.getElem?_cons_zero, List.getElem?_cons_succ]
    rw [w_ixS]
    refine ⟨by rw [sizeLine_eq]; omega, 35, by rw [hr35]; exact atI_zero _ _, ?_⟩
    rw [w_eq eqN_str]
    refine ⟨_, rfl, ?_⟩
    rw [if_pos (by decide +kernel), s_ret]
    simp only [w_meth, w_cb, w_cons, w_nil, w_var, List.getElem?_cons_zero, List.getElem?_cons_succ]
    refine ⟨a, _, insD_of h.at_, look_meth (by decide +kernel), ?_⟩
    unfold g_note_of
    refine w_def rfl ?_
    rw [s_ret]
    simp only [w_mt, w_sl, w_onone, w_osome, w_cons, w_nil, w_var, w_c, List.map_cons, List.map_nil, List.length_cons, List.length_nil, List.cons_append, List.nil_append, List.getElem?_cons_zero, List.getElem?_cons_succ]
    refine ⟨1, rfl, ?_⟩
    rw [w_slSt]
    refine ⟨by rw [sizeLine_eq]; omega, rfl, ?_⟩
    rw [w_stripC]
    have hcl := L2.cutS_length w (some 1) none
    refine ⟨by rw [sizeLine_eq]; omega, ?_⟩
    rw [hstrip]
    refine noting_ok h hnote fun d S' x' h' n' => ?_
    exact q d S' x' (by rw [hu]; exact h') n'
/-- the defs that read statements, by how deep they may call -/
structure StFam (T E L ST SS BL BR GI NO SE : Nat → F) (rf : Nat → F) : Prop where
  rd : RdFam T E L rf
  ss : ∀ k, 3 ≤ k → SS (k + 1) = g_Reader_statements nW (ST k)
  st : ∀ k, 4 ≤ k → ST (k + 1) = g_Reader_statement nW (BR k) (GI k) (NO k) g_note_of (SE k)
  bl : ∀ k, 3 ≤ k → BL (k + 1) = g_Reader_block (gTake (rf k)) (SS k)
  br : ∀ k, 3 ≤ k → BR (k + 1) = gBranch (rf k) (E k) (BL k)
  gi : ∀ k, 3 ≤ k → GI (k + 1) = g_Reader_giving (gTake (rf k)) (E k) g_node_of
  no : ∀ k, 3 ≤ k → NO (k + 1) = g_Reader_noting (g_is_note g_are_all) (rf k) g_node_of
  se : ∀ k, 3 ≤ k → SE (k + 1) = g_Reader_setting (gTakeN (rf k)) nW (gTake (rf k)) (E k) g_node_of (L k)
theorem StFam.all {T E L ST SS BL BR GI NO SE rf : Nat → F} (f : StFam T E L ST SS BL BR GI NO SE rf) : ∀ n, (∀ (s : St) (k : Nat), s.ht ≤ n → 4 * n + 8 ≤ k → StmtOk (ST k) s) ∧ (∀ (ss : List St) (k : Nat), St.hts ss ≤ n → 4 * n + 9 ≤ k → StmtsOk (SS k) ss) := by
  have lists : ∀ n, (∀ (s : St) (k : Nat), s.ht ≤ n → 4 * n + 8 ≤ k → StmtOk (ST k) s) → (∀ (ss : List St) (k : Nat), St.hts ss ≤ n → 4 * n + 9 ≤ k → StmtsOk (SS k) ss) := fun n hs ss k hn hk => by
    obtain ⟨m, rfl⟩ : ∃ m, k = m + 1 := ⟨k - 1, by omega⟩
    rw [f.ss m (by omega)]
    exact stmts_ok fun y hy => hs y m (Nat.le_trans (shts_mem hy) hn) (by omega)
  have pos : ∀ s : St, 1 ≤ s.ht := fun s => by cases s <;> exact Nat.succ_le_succ (Nat.zero_le _)
  intro n
  induction n with
  | zero =>
    have t0 : ∀ (s : St) (k : Nat), s.ht ≤ 0 → 4 * 0 + 8 ≤ k → StmtOk (ST k) s := fun x k h _ => by have := pos x; omega
    exact ⟨t0, lists 0 t0⟩
  | succ n ih =>
    obtain ⟨_, ihs⟩ := ih
    have t1 : ∀ (s : St) (k : Nat), s.ht ≤ n + 1 → 4 * (n + 1) + 8 ≤ k → StmtOk (ST k) s := fun s k hn hk => by
      obtain ⟨m, rfl⟩ : ∃ m, k = m + 1 + 1 := ⟨k - 2, by omega⟩
      rw [f.st (m + 1) (by omega), f.br m (by omega), f.gi m (by omega), f.no m (by omega), f.se m (by omega)]
      have ex := f.rd.all n
      refine stmt_ok (fun x y e => ?_) (fun x ys e => ?_) (fun y e => ?_) (fun y b e => ?_) (fun y b o c e => ?_)
      · subst e
        have hn : y.ht + 1 ≤ n + 1 := hn
        exact ex.2.1 y m (by omega) (by omega)
      · subst e
        have hn : Ex.hts ys + 1 ≤ n + 1 := hn
        exact ex.2.2 ys _ m (by omega) (.inl rfl) (by omega)
      · subst e
        have hn : y.ht + 1 ≤ n + 1 := hn
        exact ex.2.1 y m (by omega) (by omega)
      · subst e
        have hn : max y.ht (St.hts b) + 1 ≤ n + 1 := hn
        refine ⟨ex.2.1 y m (by omega) (by omega), ?_⟩
        obtain ⟨m2, rfl⟩ : ∃ m2, m = m2 + 1 := ⟨m - 1, by omega⟩
        rw [f.bl m2 (by omega)]
        exact block_ok (ihs b m2 (by omega) (by omega))
      · subst e
        have hn : max (max y.ht (St.hts b)) (St.hts c + 1) + 1 ≤ n + 1 := hn
        refine ⟨ex.2.1 y m (by omega) (by omega), ?_⟩
        obtain ⟨m2, rfl⟩ : ∃ m2, m = m2 + 1 := ⟨m - 1, by omega⟩
        rw [f.bl m2 (by omega)]
        exact ⟨block_ok (ihs b m2 (by omega) (by omega)), block_ok (ihs c m2 (by omega) (by omega))⟩
    exact ⟨t1, lists _ t1⟩
end Mn

set_option Elab.async false
set_option linter.all false
set_option maxRecDepth 100000
set_option maxHeartbeats 4000000
/-! the parts of nodes; signs at the ends of texts. No program here. -/
namespace Mn
open PySem PySem.Spec PyProof.Rows L2
theorem tuple_map_wp {it : MI} {p : Pt} {elt : M} {vs : List Nat} {ρ : En} {S : Sto} {Q : D → Sto → Prop} {chk : Sto → Bool} (ps : List (D × D)) (hw : p.within vs = true) (hit : it ρ S = .ok (ps.map (·.1), chk) S) (hc : ∀ l, chk (S ++ l) = true) (hl : ps.length < sizeLine)
    (he : ∀ d, d ∈ ps → ∀ l (Q' : D → Sto → Prop), (∀ l', Q' d.2 (S ++ (l ++ l'))) → ∃ ρ1, p.put (S ++ l) (wipeE ρ vs) d.1 = some ρ1 ∧ (elt ρ1 (S ++ l)).wp Q')
    (q : ∀ l, Q (.tup (ps.map (·.2))) (S ++ l)) : (mComp it p tYesM elt vs ρ S).wp fun x S => (cTuple [x] S).wp Q := by
  refine w_comp hw ?_
  rw [hit]
  show Res.wp (mCompL p tYesM elt chk S.length (wipeE ρ vs) (ps.map (·.1)) (S ++ [.lst []])) _
  refine comp_wp (I := fun r acc S' => ∃ l done rest, S' = S ++ (Ob.lst acc :: l) ∧ acc = done.map (fun d : D × D => d.2) ∧ done ++ rest = ps ∧ r = rest.map (·.1)) (fun r acc S' => ?_) (fun d r acc S' => ?_) (fun acc S' => ?_) (ps.map (·.1)) [] _ ⟨[], [], ps, rfl, rfl, rfl, rfl⟩ List.getElem?_concat_length
  · rintro ⟨l, done, rest, rfl, _, _, _⟩
    exact hc _
  · rintro ⟨l, done, rest, rfl, ha, hd, hr⟩ hn
    cases rest with
    | nil => cases hr
    | cons e rest =>
      rw [List.map_cons] at hr
      injection hr with hr1 hr2
      subst hr1
      have hm : e ∈ ps := by rw [← hd]; simp
      refine he e hm (Ob.lst acc :: l) _ fun l' => ?_
      have e0 : S ++ (Ob.lst acc :: l ++ l') = S ++ Ob.lst acc :: (l ++ l') := rfl
      rw [e0]
      refine ⟨by simp, ?_, l ++ l', done ++ [e], rest, ?_, ?_, ?_, hr2⟩
      · rw [ha, List.length_map]
        have := congrArg List.length hd
        rw [List.length_append, List.length_cons] at this
        omega
      · rw [List.set_append_right _ _ (Nat.le_refl _), Nat.sub_self]
        rfl
      · rw [ha, List.map_append]
        rfl
      · rw [List.append_assoc]
        exact hd
  · rintro ⟨l, done, rest, rfl, ha, hd, hr⟩ hn
    have : rest = [] := List.map_eq_nil_iff.mp hr.symm
    subst this
    rw [List.append_nil] at hd
    subst hd
    rw [w_tupL hn, ha]
    exact q _
/-! ### parts of nodes -/
theorem stripL_pairs {f : D → Option D} : ∀ {a b : List D}, stripL f a = some b → ∃ ps : List (D × D), a = ps.map (·.1) ∧ b = ps.map (·.2) ∧ ∀ p ∈ ps, f p.1 = some p.2
  | [], b, h => by
    have h : some [] = some b := h
    injection h with h
    subst h
    exact ⟨[], rfl, rfl, fun _ h => by cases h⟩
  | x :: a, b, h => by
    unfold stripL at h
    split at h
    · rename_i y z e1 e2
      injection h with h
      subst h
      obtain ⟨ps, rfl, rfl, h3⟩ := stripL_pairs e2
      exact ⟨(x, y) :: ps, rfl, rfl, fun p hp => by
        rcases List.mem_cons.mp hp with rfl | hp
        · exact e1
        · exact h3 p hp⟩
    · cases h
theorem stripLots_pairs {f : D → Option D} : ∀ {a b : List D}, stripLots f a = some b → ∃ ps : List (D × D), a = ps.map (·.1) ∧ b = ps.map (·.2) ∧ ∀ p ∈ ps, ∃ ns es, p.1 = .tup ns ∧ p.2 = .tup es ∧ stripL f ns = some es
  | [], b, h => by
    have h : some [] = some b := h
    injection h with h
    subst h
    exact ⟨[], rfl, rfl, fun _ h => by cases h⟩
  | x :: a, b, h => by
    unfold stripLots at h
    split at h
    · rename_i ns
      split at h
      · rename_i y z e1 e2
        injection h with h
        subst h
        obtain ⟨ps, rfl, rfl, h3⟩ := stripLots_pairs e2
        exact ⟨(.tup ns, .tup y) :: ps, rfl, rfl, fun p hp => by
          rcases List.mem_cons.mp hp with rfl | hp
          · exact ⟨ns, y, rfl, rfl, e1⟩
          · exact h3 p hp⟩
      · cases h
    · cases h
/-- no lot is long -/
def wd : Nat → D → Bool
  | 0, _ => true
  | n + 1, .tup [_, .tup lots] => decide (lots.length ≤ 3) && lots.all fun l => match l with
    | .tup es => decide (es.length < 1000000) && es.all (wd n)
    | _ => false
  | _ + 1, _ => false
def PartsOk (n : Nat) (f : F) : Prop := ∀ (ns es : List D) (S : Sto) (Q : D → Sto → Prop), stripL (strip n) ns = some es → es.length < 1000000 → es.all (wd n) = true → (∀ l, Q (.tup es) (S ++ l)) → (f [.tup ns] S).wp Q
theorem sl6 : 1000000 < sizeLine := by rw [sizeLine_eq]; decide
theorem parts_zero {f : F} : PartsOk 0 (g_parts_of f) := by
  intro ns es S Q h h2 h3 q
  have e : ns = [] ∧ es = [] := by
    cases ns with
    | nil =>
      have h : some [] = some es := h
      injection h with h
      exact ⟨rfl, h.symm⟩
    | cons x a => cases h
  obtain ⟨rfl, rfl⟩ := e
  unfold g_parts_of
  refine w_def rfl ?_
  rw [s_ret, w_cb, w_cons]
  simp only [w_nil]
  refine tuple_map_wp (ps := []) rfl rfl (fun _ => rfl) (by have := sl6; show 0 < _; omega) (fun d hd => by cases hd) fun l => ?_
  exact q l
theorem parts_succ {n : Nat} {f : F} (hf : PartsOk n f) : PartsOk (n + 1) (g_parts_of f) := by
  intro ns es S Q h h2 h3 q
  have big := sl6
  obtain ⟨ps, rfl, rfl, hp⟩ := stripL_pairs h
  rw [List.length_map] at h2
  unfold g_parts_of
  refine w_def rfl ?_
  rw [s_ret, w_cb, w_cons]
  simp only [w_nil]
  refine tuple_map_wp (ps := ps) rfl rfl (fun _ => rfl) (by omega) (fun d hd l Q' hq => ?_) q
  have hd1 := hp d hd
  have hw := List.all_eq_true.mp h3 d.2 (List.mem_map_of_mem (f := (·.2)) hd)
  obtain ⟨d1, d2⟩ := d
  dsimp only at hd1 hw hq ⊢
  unfold strip at hd1
  split at hd1
  · rename_i m lab lots i j e
    have e : n = m := by injection e
    subst e
    obtain ⟨ls, hls, e2⟩ := Option.map_eq_some_iff.mp hd1
    subst e2
    obtain ⟨qs, rfl, rfl, hqs⟩ := stripLots_pairs hls
    have hw : (decide ((qs.map (·.2)).length ≤ 3) && (qs.map (·.2)).all fun l => match l with
      | .tup es => decide (es.length < 1000000) && es.all (wd n)
      | _ => false) = true := hw
    rw [Bool.and_eq_true] at hw
    have hw1 := of_decide_eq_true hw.1
    rw [List.length_map] at hw1
    refine ⟨_, rfl, ?_⟩
    simp only [w_tup, w_cons, w_cb, w_nil]
    show Res.wp (mVar 1 [some _, some lab, some _, some _, some _, none] _) _
    rw [w_var]
    dsimp only [List.getElem?_cons_zero, List.getElem?_cons_succ]
    refine tuple_map_wp (ps := qs) rfl rfl (fun _ => rfl) (by omega) (fun d hd l2 Q2 hq2 => ?_) fun l2 => ?_
    · obtain ⟨ns, es, e1, e2, e3⟩ := hqs d hd
      have hw3 := List.all_eq_true.mp hw.2 d.2 (List.mem_map_of_mem (f := (·.2)) hd)
      obtain ⟨d1, d2⟩ := d
      dsimp only at e1 e2 hw3 hq2 ⊢
      subst e1 e2
      have hw3 : (decide (es.length < 1000000) && es.all (wd n)) = true := hw3
      rw [Bool.and_eq_true] at hw3
      refine ⟨_, rfl, ?_⟩
      rw [w_cb, w_cons]
      simp only [w_nil]
      show Res.wp (mVar 5 [some _, some lab, some _, some _, some _, some _] _) _
      rw [w_var]
      dsimp only [List.getElem?_cons_zero, List.getElem?_cons_succ]
      refine hf ns es _ _ e3 (of_decide_eq_true hw3.1) hw3.2 fun l3 => ?_
      rw [List.append_assoc]
      exact hq2 l3
    · refine ⟨by show 2 ≤ _; omega, ?_⟩
      rw [List.append_assoc]
      exact hq l2
  · cases hd1
/-! ### signs at the ends of texts -/
theorem tkw_all {g : Nat → Bool} : ∀ {l : List Nat}, (∀ c ∈ l, g c = true) → l.takeWhile g = l
  | [], _ => rfl
  | c :: l, h => by
    rw [List.takeWhile_cons, if_pos (h c List.mem_cons_self), tkw_all fun d hd => h d (List.mem_cons_of_mem _ hd)]
theorem tkw_app {g : Nat → Bool} {n : List Nat} (hn : ∀ c, n.head? = some c → g c = false) : ∀ {a : List Nat}, (∀ c ∈ a, g c = true) → (a ++ n).takeWhile g = a
  | [], _ => by
    cases n with
    | nil => rfl
    | cons c n =>
      show List.takeWhile g (c :: n) = []
      rw [List.takeWhile_cons, if_neg (by rw [hn c rfl]; exact Bool.false_ne_true)]
  | c :: a, h => by
    show List.takeWhile g (c :: (a ++ n)) = _
    rw [List.takeWhile_cons, if_pos (h c List.mem_cons_self), tkw_app hn fun d hd => h d (List.mem_cons_of_mem _ hd)]
theorem strip_mid {g : Nat → Bool} {x : Str} {a n b : List Nat} (e : x.cps.toList = a ++ (n ++ b)) (ha : ∀ c ∈ a, g c = true) (hb : ∀ c ∈ b, g c = true) (h1 : ∀ c, n.head? = some c → g c = false) (h2 : ∀ c, n.reverse.head? = some c → g c = false) : (Txt.stripBy g true true x).cps.toList = n := by
  have hx : x.length = (a ++ (n ++ b)).length := by rw [← e, Array.length_toList]; rfl
  have hbr : ∀ c ∈ b.reverse, g c = true := fun c hc => hb c (List.mem_reverse.mp hc)
  rw [PyProof.Rows.stripBy_eq, PySem.StrLaws.strSub_toList]
  unfold PySem.stripLo PySem.stripHi
  rw [if_pos rfl, if_pos rfl, e]
  by_cases hn : n = []
  · subst hn
    rw [List.nil_append]
    rw [tkw_all (l := a ++ b) fun c hc => (List.mem_append.mp hc).elim (ha c) (hb c)]
    rw [List.drop_length]
    exact List.take_nil
  · have h3 : ∀ c, (n ++ b).head? = some c → g c = false := fun c hc => by
      cases n with
      | nil => exact absurd rfl hn
      | cons d n => exact h1 c hc
    rw [tkw_app h3 ha, List.drop_left, List.reverse_append, tkw_app (a := b.reverse) h2 hbr]
    rw [hx, List.length_append, List.length_append, List.length_reverse]
    rw [show a.length + (n.length + b.length) - b.length - a.length = n.length by omega, List.take_left]
theorem rstrip_mid {g : Nat → Bool} {x : Str} {n b : List Nat} (e : x.cps.toList = n ++ b) (hb : ∀ c ∈ b, g c = true) (h2 : ∀ c, n.reverse.head? = some c → g c = false) : (Txt.stripBy g false true x).cps.toList = n := by
  have hx : x.length = (n ++ b).length := by rw [← e, Array.length_toList]; rfl
  have hbr : ∀ c ∈ b.reverse, g c = true := fun c hc => hb c (List.mem_reverse.mp hc)
  rw [PyProof.Rows.stripBy_eq, PySem.StrLaws.strSub_toList]
  unfold PySem.stripLo PySem.stripHi
  rw [if_neg Bool.false_ne_true, if_pos rfl, e, List.drop_zero, List.reverse_append, tkw_app (a := b.reverse) h2 hbr]
  rw [hx, List.length_append, List.length_reverse]
  rw [show n.length + b.length - b.length - 0 = n.length by omega, List.take_left]
theorem str_ext {x y : Str} (h : x.cps.toList = y.cps.toList) : x = y := by
  obtain ⟨a⟩ := x
  obtain ⟨b⟩ := y
  congr
  exact Array.toList_inj.mp h
theorem bl_goes (c : Nat) : (" " : Str).cps.contains c = decide (c = 32) := by
  rw [Bool.eq_iff_iff, decide_eq_true_iff]
  show (#[32] : Array Nat).contains c = true ↔ _
  rw [Array.contains_iff_mem]
  simp
end Mn

set_option Elab.async false
set_option linter.all false
set_option maxRecDepth 100000
set_option maxHeartbeats 4000000
/-! words of a row. No program here. -/
namespace Mn
open PySem PySem.Spec PyProof.Rows L2
def anB (c : Nat) : Bool := decide (c ∈ ("abcdefghijklmnopqrstuvwxyz0123456789" : Str).cps.toList)
/-- these signs are those words -/
inductive Lx : List Nat → List Str → Prop
  | nil : Lx [] []
  | blank {cs ws} : Lx cs ws → Lx (32 :: cs) ws
  | note {r} {w : Str} : Txt.rstripChars ⟨(35 :: r).toArray⟩ " " = w → Lx (35 :: r) [w]
  | run {c u cs ws} : anB c = true → (∀ d ∈ u, anB d = true) → (∀ d, cs.head? = some d → anB d = false) → Lx cs ws → Lx (c :: (u ++ cs)) ((⟨(c :: u).toArray⟩ : Str) :: ws)
  | sign {c cs ws} : anB c = false → c ≠ 32 → c ≠ 35 → Lx cs ws → Lx (c :: cs) ((⟨#[c]⟩ : Str) :: ws)
theorem atI_at {α : Type} {l : List α} {i : Nat} {c : α} (h : l[i]? = some c) : atI l (i : Int) = some c := by
  have hi := (List.getElem?_eq_some_iff.mp h).1
  unfold atI
  rw [show ixN l.length (i : Int) = some i by unfold ixN; rw [if_pos (by omega), if_pos (by omega)]; simp]
  exact h
theorem one_eq (c d : Nat) : ((⟨#[c]⟩ : Str) == ⟨#[d]⟩) = decide (c = d) := by
  rw [Bool.eq_iff_iff, beq_iff_eq, decide_eq_true_iff]
  constructor
  · intro h
    injection h with h
    have := congrArg Array.toList h
    injection this
  · intro h
    rw [h]
section
variable {S : Sto} {Q : D → Sto → Prop} {QT : Bool → Sto → Prop} {ρ : En} {mi : M} {x : Str} {i : Nat} {c : Nat}
theorem w_alnum (hx : x.length < 1000000) (h0 : ρ[0]? = some (some (.str x))) (hi : ∀ Q, (mi ρ S).wp Q ↔ Q (.int (i : Nat)) S) (hc : x.cps.toList[i]? = some c) (q : QT (anB c) S) :
    (tVal (mBin fIn (mBin fIx (mVar 0) mi) (mBin fAdd (mC (.str "abcdefghijklmnopqrstuvwxyz")) (mC (.str "0123456789")))) ρ S).wp QT := by
  rw [w_val, w_bin, w_bin, w_var, h0]
  dsimp only
  rw [hi, w_ixS]
  refine ⟨by have := sl6; omega, c, atI_at hc, ?_⟩
  rw [w_bin, w_c, w_c, w_addS]
  refine ⟨by have := sl6; show 36 ≤ _; omega, ?_⟩
  rw [show (("abcdefghijklmnopqrstuvwxyz" : Str) ++ ("0123456789" : Str)) = ("abcdefghijklmnopqrstuvwxyz0123456789" : Str) by decide +kernel]
  rw [w_in (b := anB c) rfl]
  exact ⟨_, rfl, q⟩
theorem s_augI {N : En → Sto → Prop} {R : D → Sto → Prop} {v : Nat} {a b : Int} {m : M} (h : ρ[v]? = some (some (.int a))) (hm : ∀ Q, (m ρ S).wp Q ↔ Q (.int b) S) : (sAugI v m ρ S).wp N R ↔ N (ρ.set v (some (.int (a + b)))) S := by
  unfold sAugI
  rw [h]
  dsimp only
  rw [wp_st, hm]
  exact Iff.rfl
/-- where the word that begins at i ends -/
def EndW (L : List Nat) (i : Nat) (c : Nat) (e : Nat) : Prop := (c = 35 ∧ e = L.length) ∨ (c ≠ 35 ∧ anB c = false ∧ e = i + 1) ∨ (anB c = true ∧ i < e ∧ e ≤ L.length ∧ (∀ j, i < j → j < e → ∃ d, L[j]? = some d ∧ anB d = true) ∧ (∀ d, L[e]? = some d → anB d = false))
theorem end_wp {e : Nat} (hx : x.length < 1000000) (hc : x.cps.toList[i]? = some c) (he : EndW x.cps.toList i c e) (q : Q (.int (e : Nat)) S) : (g_end_of [.str x, .int (i : Nat)] S).wp Q := by
  have big := sl6
  have hlen : x.cps.toList.length = x.length := by rw [Array.length_toList]; rfl
  unfold g_end_of
  refine w_def rfl ?_
  rw [s_seq, s_if, w_val, w_bin, w_bin]
  simp only [w_var, w_c, w_nil, List.map_cons, List.map_nil, List.length_cons, List.length_nil, List.cons_append, List.nil_append, List.getElem?_cons_zero, List.getElem?_cons_succ, List.reduceReplicate, Nat.reduceAdd, Nat.reduceSub]
  rw [w_ixS]
  refine ⟨by omega, c, atI_at hc, ?_⟩
  rw [w_eq eqN_str]
  refine ⟨_, rfl, ?_⟩
  rw [show ((⟨#[c]⟩ : Str) == "#") = decide (c = 35) from one_eq c 35]
  by_cases h35 : c = 35
  · rw [if_pos (decide_eq_true h35), s_ret, w_cb, w_cons]
    simp only [w_var, w_nil, List.getElem?_cons_zero, List.getElem?_cons_succ]
    rw [w_lenS]
    refine ⟨by omega, ?_⟩
    have : e = x.length := by
      rcases he with ⟨_, h⟩ | ⟨h, _⟩ | ⟨h, _⟩
      · omega
      · exact absurd h35 h
      · rw [h35] at h
        exact absurd h (by decide +kernel)
    rw [← this]
    exact q
  · rw [if_neg (by rw [decide_eq_true_iff]; exact h35), s_nil, s_seq, s_set, w_bin]
    simp only [w_var, w_c, List.getElem?_cons_zero, List.getElem?_cons_succ]
    rw [w_addI, s_seq, s_if]
    simp only [List.set_cons_zero, List.set_cons_succ]
    refine w_alnum (i := i) (c := c) hx rfl (fun Q => Iff.rfl) hc ?_
    cases ha : anB c with
    | false =>
      rw [if_neg Bool.false_ne_true, s_nil, s_ret]
      simp only [w_var, List.getElem?_cons_zero, List.getElem?_cons_succ]
      have : e = i + 1 := by
        rcases he with ⟨h, _⟩ | ⟨_, _, h⟩ | ⟨h, _⟩
        · exact absurd h h35
        · exact h
        · rw [ha] at h; cases h
      rw [show ((i : Int) + 1) = ((e : Nat) : Int) by omega]
      exact q
    | true =>
      rw [if_pos rfl, s_while]
      have he : i < e ∧ e ≤ x.cps.toList.length ∧ (∀ j, i < j → j < e → ∃ d, x.cps.toList[j]? = some d ∧ anB d = true) ∧ (∀ d, x.cps.toList[e]? = some d → anB d = false) := by
        rcases he with ⟨h, _⟩ | ⟨_, h, _⟩ | ⟨_, h⟩
        · exact absurd h h35
        · rw [ha] at h; cases h
        · exact h
      obtain ⟨e1, e2, e3, e4⟩ := he
      refine while_wp (fun k ρ S' => S' = S ∧ ∃ j : Nat, ρ = [some (.str x), some (.int (i : Nat)), some (.int (j : Nat))] ∧ i < j ∧ j ≤ e ∧ k = e - j) (fun k ρ S' hI => ?_) wN (e - (i + 1)) _ _ (by show _ < 1000000; omega) ⟨rfl, i + 1, by rw [show (((i + 1 : Nat) : Int)) = (i : Int) + 1 by omega], by omega, by omega, rfl⟩
      obtain ⟨rfl, j, rfl, h1, h2, rfl⟩ := hI
      rw [w_tand, w_val, w_bin, w_var]
      simp only [w_cb, w_cons, w_nil, w_var, w_c, List.getElem?_cons_zero, List.getElem?_cons_succ]
      rw [w_lenS]
      refine ⟨by omega, ?_⟩
      rw [w_fI]
      refine ⟨rfl, _, rfl, ?_⟩
      by_cases hj : j < x.length
      · rw [if_pos (decide_eq_true (by omega))]
        obtain ⟨d, hd⟩ : ∃ d, x.cps.toList[j]? = some d := ⟨_, List.getElem?_eq_getElem (by omega)⟩
        refine w_alnum (i := j) (c := d) hx rfl (fun Q => Iff.rfl) hd ?_
        by_cases hje : j < e
        · obtain ⟨d', h3, h4⟩ := e3 j h1 hje
          rw [hd] at h3
          injection h3 with h3
          subst h3
          rw [if_pos h4, s_augI (a := (j : Nat)) (b := 1) rfl (fun Q => Iff.rfl)]
          exact ⟨e - (j + 1), by omega, rfl, j + 1, rfl, by omega, by omega, rfl⟩
        · have hje : j = e := by omega
          rw [if_neg (by rw [e4 d (by rw [← hje]; exact hd)]; exact Bool.false_ne_true), s_ret]
          simp only [w_var, List.getElem?_cons_zero, List.getElem?_cons_succ]
          rw [hje]
          exact q
      · rw [if_neg (by rw [decide_eq_true_iff]; omega)]
        rw [if_neg Bool.false_ne_true, s_ret]
        simp only [w_var, List.getElem?_cons_zero, List.getElem?_cons_succ]
        rw [show j = e by omega]
        exact q
end
theorem cut_list {x : Str} {i e : Nat} (h : e ≤ x.length) : (L2.cutS x (some (i : Nat)) (some (e : Nat))).cps.toList = (x.cps.toList.drop (min i x.length)).take (e - min i x.length) := by
  unfold L2.cutS
  rw [HT.sIx_nat, HT.sIx_nat, Nat.min_eq_left h]
/-- the first word -/
theorem Lx.step {l : List Nat} {ws : List Str} (h : Lx l ws) : (l = [] ∧ ws = []) ∨ (∃ r, l = 32 :: r ∧ Lx r ws) ∨ ∃ c u r w rest, l = c :: (u ++ r) ∧ c ≠ 32 ∧ ws = w :: rest ∧ Lx r rest ∧ Txt.rstripChars ⟨(c :: u).toArray⟩ " " = w ∧ ((c = 35 ∧ r = []) ∨ (c ≠ 35 ∧ anB c = false ∧ u = []) ∨ (anB c = true ∧ (∀ d ∈ u, anB d = true) ∧ (∀ d, r.head? = some d → anB d = false))) := by
  have rs : ∀ (c : Nat) (u : List Nat), (∀ d ∈ c :: u, d ≠ 32) → Txt.rstripChars ⟨(c :: u).toArray⟩ " " = ⟨(c :: u).toArray⟩ := fun c u hu => str_ext (rstrip_mid (n := c :: u) (b := []) (by simp) (fun _ h => by cases h) fun d hd => by
    rw [bl_goes]
    exact decide_eq_false (hu d (List.mem_reverse.mp (List.mem_of_mem_head? hd))))
  cases h with
  | nil => exact .inl ⟨rfl, rfl⟩
  | blank h => exact .inr (.inl ⟨_, rfl, h⟩)
  | note e => exact .inr (.inr ⟨35, _, [], _, [], by rw [List.append_nil], by decide, rfl, .nil, e, .inl ⟨rfl, rfl⟩⟩)
  | run h1 h2 h3 h4 =>
    have n32 : ∀ d, anB d = true → d ≠ 32 := fun d hd e => by rw [e] at hd; exact absurd hd (by decide +kernel)
    exact .inr (.inr ⟨_, _, _, _, _, rfl, n32 _ h1, rfl, h4, rs _ _ (fun d hd => (List.mem_cons.mp hd).elim (fun e => e ▸ n32 _ h1) fun hd => n32 _ (h2 d hd)), .inr (.inr ⟨h1, h2, h3⟩)⟩)
  | sign h1 h2 h3 h4 => exact .inr (.inr ⟨_, [], _, _, _, rfl, h2, rfl, h4, rs _ _ (fun d hd => by rw [List.mem_singleton.mp hd]; exact h2), .inr (.inl ⟨h3, h1, rfl⟩)⟩)
theorem Wds.snoc {W : List Str} {ds : List D} {w : Str} {r : List D} (h : Wds W ds) : Wds (W ++ [w]) (ds ++ [.tup (.str w :: r)]) := by
  refine ⟨by rw [List.length_append, List.length_append, h.len]; rfl, fun j v hj => ?_⟩
  by_cases hl : j < W.length
  · rw [List.getElem?_append_left hl] at hj
    obtain ⟨r, hr⟩ := h.at_ j v hj
    exact ⟨r, by rw [List.getElem?_append_left (by rw [h.len]; exact hl)]; exact hr⟩
  · rw [List.getElem?_append_right (by omega)] at hj
    have := (List.getElem?_eq_some_iff.mp hj).1
    have hz : j - W.length = 0 := by
      rw [List.length_singleton] at this
      omega
    rw [hz] at hj
    injection hj with hj
    subst hj
    exact ⟨r, by rw [List.getElem?_append_right (by rw [h.len]; omega), h.len, hz]; rfl⟩
theorem Wds.app {W W2 : List Str} {ds ds2 : List D} (h : Wds W ds) (h2 : Wds W2 ds2) : Wds (W ++ W2) (ds ++ ds2) := by
  refine ⟨by rw [List.length_append, List.length_append, h.len, h2.len], fun j v hj => ?_⟩
  by_cases hl : j < W.length
  · rw [List.getElem?_append_left hl] at hj
    obtain ⟨r, hr⟩ := h.at_ j v hj
    exact ⟨r, by rw [List.getElem?_append_left (by rw [h.len]; exact hl)]; exact hr⟩
  · rw [List.getElem?_append_right (by omega)] at hj
    obtain ⟨r, hr⟩ := h2.at_ _ v hj
    exact ⟨r, by rw [List.getElem?_append_right (by rw [h.len]; omega), h.len]; exact hr⟩
theorem Wds.nil : Wds [] [] := ⟨rfl, fun _ _ h => by cases h⟩
theorem words_in_wp {S : Sto} {Q : D → Sto → Prop} {x : Str} {num : Int} {ws : List Str} (hx : x.length < 1000000) (h : Lx x.cps.toList ws) (q : ∀ ds, Wds ws ds → ds.length ≤ x.length → Q (.ref S.length) (S ++ [.lst ds])) : (g_words_in g_end_of [.str x, .int num] S).wp Q := by
  have big := sl6
  have hlen : x.cps.toList.length = x.length := by rw [Array.length_toList]; rfl
  unfold g_words_in
  refine w_def rfl ?_
  rw [s_seq, s_par]
  simp only [w_cons, w_lst, w_nil, w_c, List.map_cons, List.map_nil, List.length_cons, List.length_nil, List.cons_append, List.nil_append, List.reduceReplicate, Nat.reduceAdd, Nat.reduceSub]
  refine ⟨by omega, _, _, rfl, ?_⟩
  simp only [List.set_cons_zero, List.set_cons_succ]
  rw [s_seq, s_while]
  refine while_wp (fun k ρ S' => ∃ (i : Nat) (done rest : List Str) (ds : List D) (v : Option D), ρ = [some (.str x), some (.int num), some (.ref S.length), some (.int (i : Nat)), v] ∧ S' = S ++ [.lst ds] ∧ Wds done ds ∧ Lx (x.cps.toList.drop i) rest ∧ done ++ rest = ws ∧ i ≤ x.length ∧ ds.length ≤ i ∧ k = x.length - i) (fun k ρ S' hI => ?_) wN (x.length - 0) _ _ (by show _ < 1000000; omega) ⟨0, [], ws, [], none, rfl, rfl, Wds.nil, h, rfl, Nat.zero_le _, Nat.zero_le _, rfl⟩
  obtain ⟨i, done, rest, ds, v, rfl, rfl, hW, hL, hws, hi, hds, rfl⟩ := hI
  have hn : (S ++ [Ob.lst ds])[S.length]? = some (.lst ds) := List.getElem?_concat_length
  rw [w_val, w_bin, w_var]
  simp only [w_cb, w_cons, w_nil, w_var, w_c, List.getElem?_cons_zero, List.getElem?_cons_succ]
  rw [w_lenS]
  refine ⟨by omega, ?_⟩
  rw [w_fI]
  refine ⟨rfl, _, rfl, ?_⟩
  by_cases hlt : i < x.length
  · rw [if_pos (decide_eq_true (by omega))]
    have hst : ∃ c e, x.cps.toList[i]? = some c ∧ EndW x.cps.toList i c e ∧ i < e ∧ e ≤ x.length ∧ ((c = 32 ∧ Lx (x.cps.toList.drop e) rest) ∨ (c ≠ 32 ∧ ∃ w rest', rest = w :: rest' ∧ Lx (x.cps.toList.drop e) rest' ∧ Txt.rstripChars (L2.cutS x (some (i : Nat)) (some (e : Nat))) " " = w)) := by
      have get0 : ∀ {c : Nat} {r : List Nat}, x.cps.toList.drop i = c :: r → x.cps.toList[i]? = some c := fun {c r} h => by
        have := List.getElem?_drop (xs := x.cps.toList) (i := i) (j := 0)
        rw [h] at this
        simpa using this.symm
      rcases hL.step with ⟨h1, _⟩ | ⟨r, h1, h2⟩ | ⟨c, u, r, w, rest', h1, h2, h3, h4, h5, h6⟩
      · have := List.drop_eq_nil_iff.mp h1
        omega
      · refine ⟨32, i + 1, get0 h1, .inr (.inl ⟨by decide, by decide +kernel, rfl⟩), by omega, by omega, .inl ⟨rfl, ?_⟩⟩
        rw [← List.drop_drop, h1]
        exact h2
      · have hl := congrArg List.length h1
        rw [List.length_drop, List.length_cons, List.length_append] at hl
        have hd : x.cps.toList.drop (i + (u.length + 1)) = r := by
          rw [← List.drop_drop, h1]
          show List.drop u.length (u ++ r) = r
          exact List.drop_left
        have hat : ∀ j, x.cps.toList[i + j]? = (c :: (u ++ r))[j]? := fun j => by rw [← h1, List.getElem?_drop]
        refine ⟨c, i + (u.length + 1), get0 h1, ?_, by omega, by omega, .inr ⟨h2, w, rest', h3, by rw [hd]; exact h4, ?_⟩⟩
        · rcases h6 with ⟨h7, h8⟩ | ⟨h7, h8, h9⟩ | ⟨h7, h8, h9⟩
          · subst h8
            rw [List.length_nil] at hl
            exact .inl ⟨h7, by omega⟩
          · subst h9
            exact .inr (.inl ⟨h7, h8, rfl⟩)
          · refine .inr (.inr ⟨h7, by omega, by omega, fun j j1 j2 => ?_, fun d hd2 => ?_⟩)
            · obtain ⟨m, rfl⟩ : ∃ m, j = i + (m + 1) := ⟨j - i - 1, by omega⟩
              have hm : m < u.length := by omega
              refine ⟨u[m], ?_, h8 _ (List.getElem_mem hm)⟩
              rw [hat]
              show (u ++ r)[m]? = _
              rw [List.getElem?_append_left hm]
              exact List.getElem?_eq_getElem hm
            · rw [hat] at hd2
              have hd2 : (u ++ r)[u.length]? = some d := hd2
              rw [List.getElem?_append_right (Nat.le_refl _), Nat.sub_self] at hd2
              refine h9 d ?_
              rw [List.head?_eq_getElem?]
              exact hd2
        · rw [← h5]
          congr 1
          refine str_ext ?_
          rw [cut_list (by omega), Nat.min_eq_left hi, h1, show i + (u.length + 1) - i = u.length + 1 by omega]
          show c :: List.take u.length (u ++ r) = c :: u
          rw [List.take_left]
    obtain ⟨c, e, hc, hE, hie, hel, hcase⟩ := hst
    rw [s_seq, s_set, w_cb]
    simp only [w_cons, w_nil, w_var, List.getElem?_cons_zero, List.getElem?_cons_succ]
    refine end_wp hx hc hE ?_
    simp only [List.set_cons_zero, List.set_cons_succ]
    rw [s_seq, s_if, w_val, w_bin, w_bin]
    simp only [w_var, w_c, List.getElem?_cons_zero, List.getElem?_cons_succ]
    rw [w_ixS]
    refine ⟨by omega, c, atI_at hc, ?_⟩
    rw [w_ne eqN_str]
    refine ⟨_, rfl, ?_⟩
    rw [show ((⟨#[c]⟩ : Str) == " ") = decide (c = 32) from one_eq c 32]
    rcases hcase with ⟨h1, h2⟩ | ⟨h1, w, rest', h2, h3, h4⟩
    · rw [if_neg (by rw [decide_eq_true h1]; decide), s_nil, s_set]
      simp only [w_var, List.getElem?_cons_zero, List.getElem?_cons_succ, List.set_cons_zero, List.set_cons_succ]
      exact ⟨x.length - e, by omega, e, done, rest, ds, _, rfl, rfl, hW, h2, hws, hel, by omega, rfl⟩
    · rw [if_pos (by rw [decide_eq_false h1]; rfl), s_drop, w_mt]
      simp only [w_cons, w_tup, w_mt, w_sl, w_onone, w_osome, w_nil, w_var, w_c, List.getElem?_cons_zero, List.getElem?_cons_succ]
      refine ⟨by show kOb _ = _; rw [hn]; rfl, _, rfl, _, rfl, ?_⟩
      rw [w_slSt]
      refine ⟨by omega, rfl, ?_⟩
      have hcl := L2.cutS_length x (some (i : Nat)) (some (e : Nat))
      show Res.wp (if _ then _ else _) _
      rw [if_pos (by omega), h4]
      show 3 ≤ _ ∧ Res.wp _ _
      refine ⟨by omega, ?_⟩
      rw [w_app hn]
      refine ⟨by omega, ?_⟩
      rw [s_set]
      simp only [w_var, List.getElem?_cons_zero, List.getElem?_cons_succ, List.set_cons_zero, List.set_cons_succ]
      refine ⟨x.length - e, by omega, e, done ++ [w], rest', ds ++ [.tup [.str w, .int num, .int (i : Nat)]], _, rfl, ?_, hW.snoc, h3, ?_, hel, ?_, rfl⟩
      · rw [List.set_append_right _ _ (Nat.le_refl _), Nat.sub_self]
        rfl
      · rw [List.append_assoc, ← hws, h2]
        rfl
      · rw [List.length_append, List.length_singleton]
        omega
  · rw [if_neg (by rw [decide_eq_true_iff]; omega), s_ret]
    simp only [w_var, List.getElem?_cons_zero, List.getElem?_cons_succ]
    have hr : rest = [] := by
      rw [List.drop_of_length_le (by omega)] at hL
      cases hL
      rfl
    subst hr
    rw [List.append_nil] at hws
    subst hws
    exact q ds hW (by omega)
end Mn

set_option Elab.async false
set_option linter.all false
set_option maxRecDepth 100000
set_option maxHeartbeats 4000000
/-! words of a text; a text is read. No program here. -/
namespace Mn
open PySem PySem.Spec PyProof.Rows L2
/-- this text has those words -/
def TxW (x : Str) (W : List Str) : Prop := x.length < 1000000 ∧ W.length < 1000000 ∧ ∃ ps : List (Str × List Str), Txt.split x "\n" = ps.map (·.1) ∧ (∀ p ∈ ps, Lx p.1.cps.toList p.2 ∧ p.1.length < 1000000) ∧ W = (ps.map (·.2)).flatten
theorem numD_app : ∀ (a b : List D) (n : Nat), numD n (a ++ b) = numD n a ++ numD (n + a.length) b
  | [], b, n => rfl
  | d :: a, b, n => by
    show D.tup [.int (n : Nat), d] :: numD (n + 1) (a ++ b) = _
    rw [numD_app a b (n + 1), List.length_cons, show n + 1 + a.length = n + (a.length + 1) by omega]
    rfl
section
variable {S : Sto} {Q : D → Sto → Prop} {x : Str} {W : List Str}
theorem w_split {y : Str} : (fSplit (.str x) [.str y] S).wp Q ↔ ((y.length == 0) = false ∧ x.length + 2 ≤ sizeLine) ∧ Q (.ref S.length) (S ++ [.lst ((Txt.split x y).map .str)]) := by
  show Res.wp (if (y.length == 0) = false ∧ x.length + 2 ≤ sizeLine then .ok (.ref S.length) (S ++ [.lst ((Txt.split x y).map .str)]) else .bad) Q ↔ _
  constructor <;> intro h
  · split at h
    · rename_i hc; exact ⟨hc, h⟩
    · exact h.elim
  · rw [if_pos h.1]; exact h.2
theorem w_extend {n m : Nat} {xs ys : List D} (h1 : S[n]? = some (.lst xs)) (h2 : S[m]? = some (.lst ys)) : (fExtend (.ref n) [.ref m] S).wp Q ↔ xs.length + ys.length ≤ sizeLine ∧ Q .non (S.set n (.lst (xs ++ ys))) := by
  have e : fExtend (.ref n) [.ref m] S = if xs.length + ys.length ≤ sizeLine then .ok .non (S.set n (.lst (xs ++ ys))) else .bad := by
    show (match S[n]?, S[m]? with | some (.lst xs), some (.lst ys) => _ | _, _ => _) = _
    rw [h1, h2]
  rw [e]
  constructor <;> intro h
  · split at h
    · rename_i hc; exact ⟨hc, h⟩
    · exact h.elim
  · rw [if_pos h.1]; exact h.2
theorem words_of_wp (h : TxW x W) (q : ∀ ds l, Wds W ds → Q (.ref S.length) (S ++ (.lst ds :: l))) : (g_words_of (g_words_in g_end_of) [.str x] S).wp Q := by
  have big := sl6
  obtain ⟨hx, hW, ps, hsp, hps, rfl⟩ := h
  unfold g_words_of
  refine w_def rfl ?_
  rw [s_seq, s_set]
  simp only [w_lst, w_nil, List.map_cons, List.map_nil, List.length_cons, List.length_nil, List.cons_append, List.nil_append, List.reduceReplicate, Nat.reduceAdd, Nat.reduceSub]
  refine ⟨by omega, ?_⟩
  simp only [List.set_cons_zero, List.set_cons_succ]
  rw [s_seq, s_for]
  unfold iEnum2
  rw [wp_bind, w_cons, w_mt]
  simp only [w_var, w_cons, w_c, w_nil, List.getElem?_cons_zero, List.getElem?_cons_succ]
  refine ⟨rfl, ?_⟩
  rw [w_split]
  refine ⟨⟨by decide +kernel, by omega⟩, ?_⟩
  rw [hsp]
  have hn0 : ((S ++ [Ob.lst []]) ++ [Ob.lst ((ps.map (·.1)).map D.str)])[(S ++ [Ob.lst []]).length]? = some (.lst ((ps.map (·.1)).map D.str)) := List.getElem?_concat_length
  have hit : itD ((S ++ [Ob.lst []]) ++ [Ob.lst ((ps.map (·.1)).map D.str)]) (.ref (S ++ [Ob.lst []]).length) = some ((ps.map (·.1)).map D.str, stands (S ++ [Ob.lst []]).length ((ps.map (·.1)).map D.str)) := by
    show (match ((S ++ [Ob.lst []]) ++ [Ob.lst ((ps.map (·.1)).map D.str)])[(S ++ [Ob.lst []]).length]? with | some (.lst ds) => some (ds, stands _ ds) | _ => none) = _
    rw [hn0]
  have hk : ¬ kOf ((S ++ [Ob.lst []]) ++ [Ob.lst ((ps.map (·.1)).map D.str)]) (.ref (S ++ [Ob.lst []]).length) = "str" := by
    show ¬ kOb _ = _
    rw [hn0]
    show ¬ "list" = "str"
    decide
  rw [hit]
  dsimp only
  rw [if_neg hk]
  show RS.wp (mLoop _ _ _ _ _ _) _ _
  have hsl : (S ++ [Ob.lst []]).length = S.length + 1 := by rw [List.length_append]; rfl
  rw [hsl]
  refine loop_wp (fun r ρ S' => ∃ (done rest : List (Str × List Str)) (ds : List D) (l : List Ob) (v w : Option D), done ++ rest = ps ∧ r = numD done.length ((rest.map (·.1)).map D.str) ∧ ρ = [some (.str x), some (.ref S.length), v, w] ∧ S' = S ++ (.lst ds :: .lst ((ps.map (·.1)).map D.str) :: l) ∧ Wds (done.map (·.2)).flatten ds) (fun r ρ S' hI => ?_) (fun d r ρ S' hI => ?_) (fun ρ S' hI => ?_) _ _ _ ⟨[], ps, [], [], _, _, rfl, rfl, rfl, by rw [List.append_assoc]; rfl, Wds.nil⟩
  · obtain ⟨done, rest, ds, l, v, w, h1, h2, h3, h4, h5⟩ := hI
    subst h4
    refine decide_eq_true ?_
    rw [List.getElem?_append_right (by omega), show S.length + 1 - S.length = 1 by omega]
    rfl
  · obtain ⟨done, rest, ds, l, v, w, h1, h2, h3, h4, h5⟩ := hI
    subst h3 h4
    cases rest with
    | nil => cases h2
    | cons p rest =>
      have h2 : d :: r = D.tup [.int (done.length : Nat), .str p.1] :: numD (done.length + 1) ((rest.map (·.1)).map D.str) := h2
      injection h2 with h2 h2'
      subst h2 h2'
      refine ⟨_, rfl, ?_⟩
      have hp := hps p (by rw [← h1]; simp)
      have hnf : (S ++ (Ob.lst ds :: .lst ((ps.map (·.1)).map D.str) :: l))[S.length]? = some (.lst ds) := by
        rw [List.getElem?_append_right (Nat.le_refl _), Nat.sub_self]
        rfl
      simp only [List.set_cons_zero, List.set_cons_succ]
      rw [s_drop, w_mt]
      show Res.wp (mVar 1 [some (.str x), some (.ref S.length), some (.int (done.length : Nat)), some (.str p.1)] _) _
      rw [w_var]
      dsimp only [List.getElem?_cons_zero, List.getElem?_cons_succ]
      refine ⟨by show kOb _ = _; rw [hnf]; rfl, ?_⟩
      rw [w_cons, w_cb, w_cons, w_var]
      dsimp only [List.getElem?_cons_zero, List.getElem?_cons_succ]
      rw [w_cons, w_bin, w_var]
      dsimp only [List.getElem?_cons_zero, List.getElem?_cons_succ]
      rw [w_c, w_addI, w_nil]
      refine words_in_wp hp.2 hp.1 fun ds2 hw2 hl2 => ?_
      rw [w_nil]
      have hnf2 : ((S ++ (Ob.lst ds :: .lst ((ps.map (·.1)).map D.str) :: l)) ++ [Ob.lst ds2])[S.length]? = some (.lst ds) := by
        rw [List.getElem?_append_left (by simp)]
        exact hnf
      rw [w_extend hnf2 List.getElem?_concat_length]
      have htot : ((done.map (·.2)).flatten ++ p.2).length ≤ ((ps.map (·.2)).flatten).length := by
        rw [← h1, List.map_append, List.flatten_append, List.map_cons, List.flatten_cons, List.length_append, List.length_append, List.length_append]
        omega
      rw [List.length_append] at htot
      have l1 := h5.len
      have l2 := hw2.len
      refine ⟨by omega, done ++ [p], rest, ds ++ ds2, l ++ [.lst ds2], _, _, by rw [List.append_assoc]; exact h1, by rw [List.length_append]; rfl, rfl, ?_, ?_⟩
      · rw [List.append_assoc, List.set_append_right _ _ (Nat.le_refl _), Nat.sub_self]
        rfl
      · rw [List.map_append, List.flatten_append]
        refine h5.app ?_
        show Wds ([p.2].flatten) ds2
        rw [List.flatten_singleton]
        exact hw2
  · obtain ⟨done, rest, ds, l, v, w, h1, h2, h3, h4, h5⟩ := hI
    subst h3 h4
    have hr : rest = [] := by
      cases rest with
      | nil => rfl
      | cons p rest => cases h2
    subst hr
    rw [List.append_nil] at h1
    subst h1
    rw [s_ret]
    simp only [w_var, List.getElem?_cons_zero, List.getElem?_cons_succ]
    exact q ds _ h5
theorem init_wp {a : Nat} (ha : S[a]? = some (.ins "Reader" [])) (h : TxW x W) (q : ∀ S' wl wds rows, Ext a S S' → Rdr a wl wds rows 0 S' → Wds W wds → Q .non S') : (g_Reader___init__ (g_words_of (g_words_in g_end_of)) [.ref a, .str x] S).wp Q := by
  have hal := (List.getElem?_eq_some_iff.mp ha).1
  unfold g_Reader___init__
  refine w_def rfl ?_
  rw [s_seq, s_att, w_cb]
  simp only [w_cons, w_nil, w_var, List.map_cons, List.map_nil, List.length_cons, List.length_nil, List.cons_append, List.nil_append, List.getElem?_cons_zero, List.getElem?_cons_succ, List.reduceReplicate, Nat.reduceAdd, Nat.reduceSub]
  refine words_of_wp h fun ds l hw => ?_
  have h1 : (S ++ (Ob.lst ds :: l))[a]? = some (.ins "Reader" []) := by rw [List.getElem?_append_left hal]; exact ha
  refine ⟨a, [], insD_of h1, by show 0 < 1000; decide, ?_⟩
  rw [s_seq, s_att, w_bin, w_mt]
  simp only [w_cons, w_nil, w_var, w_c, List.getElem?_cons_zero, List.getElem?_cons_succ]
  refine ⟨rfl, ?_⟩
  show Res.wp (Res.ok _ _) _
  rw [wp_ok, w_addI]
  have h2 : ((S ++ (Ob.lst ds :: l)).set a (.ins "Reader" (putFD "own_words" (.ref S.length) [])))[a]? = some (.ins "Reader" [("own_words", .ref S.length)]) := List.getElem?_set_self (by rw [List.length_append]; omega)
  refine ⟨a, _, insD_of h2, by show 1 < 1000; decide, ?_⟩
  rw [s_att, w_c, w_var]
  simp only [List.getElem?_cons_zero, List.getElem?_cons_succ]
  have e1 : ¬ (("own_words" : Str) = "own_rows") := by decide +kernel
  have e2 : ¬ (("own_words" : Str) = "own_at") := by decide +kernel
  have e3 : ¬ (("own_rows" : Str) = "own_at") := by decide +kernel
  have p1 : ∀ r : Int, putFD "own_rows" (.int r) [(("own_words" : Str), D.ref S.length)] = [(("own_words" : Str), D.ref S.length), ("own_rows", .int r)] := fun r => by
    simp only [putFD, if_neg e1]
  rw [p1]
  have p2 : ∀ r : Int, putFD "own_at" (.int 0) [(("own_words" : Str), D.ref S.length), ("own_rows", .int r)] = rdF S.length r 0 := fun r => by
    simp only [putFD, if_neg e2, if_neg e3]
    rfl
  refine ⟨a, _, insD_of (List.getElem?_set_self (by rw [List.length_set, List.length_append]; omega)), by show 2 < 1000; decide, ?_⟩
  rw [p2]
  refine q _ S.length ds _ ((((Ext.refl a S).app _).put _ |>.put _).put _) ⟨List.getElem?_set_self (by rw [List.length_set, List.length_set, List.length_append]; omega), ?_, by omega⟩ hw
  rw [List.getElem?_set_ne (by omega), List.getElem?_set_ne (by omega), List.getElem?_set_ne (by omega), List.getElem?_append_right (Nat.le_refl _), Nat.sub_self]
  rfl
theorem read_wp {ss : List St} {n : Nat} {SS pf rf : F} (hs : StmtsOk SS ss) (hp : PartsOk n pf) (hn : St.hts ss ≤ n) (hl : (St.ds ss).length < 1000000) (hwd : (St.ds ss).all (wd n) = true) (h : TxW x W) (ht : St.tks ss W) (q : ∀ l, Q (.tup (St.ds ss)) (S ++ l)) : (g_read (g_nodes_of (g_Reader___init__ (g_words_of (g_words_in g_end_of))) SS nW rf) pf [.str x] S).wp Q := by
  unfold g_read
  refine w_def rfl ?_
  rw [s_seq, s_asg, w_cb]
  simp only [w_cons, w_nil, w_var, List.map_cons, List.map_nil, List.length_cons, List.length_nil, List.cons_append, List.nil_append, List.getElem?_cons_zero, List.getElem?_cons_succ, List.reduceReplicate, Nat.reduceAdd, Nat.reduceSub]
  unfold g_nodes_of
  refine w_def rfl ?_
  rw [s_seq, s_if, w_tnot, w_val, w_isi]
  simp only [w_var, List.map_cons, List.map_nil, List.length_cons, List.length_nil, List.cons_append, List.nil_append, List.getElem?_cons_zero, List.getElem?_cons_succ, List.reduceReplicate, Nat.reduceAdd, Nat.reduceSub]
  refine ⟨by show ¬ "str" = "?"; decide, _, rfl, ?_⟩
  rw [show (!(isB (kOf S (.str x)) "str")) = false from rfl, if_neg Bool.false_ne_true, s_nil, s_seq, s_set, w_make]
  simp only [w_cons, w_nil, w_var, List.getElem?_cons_zero, List.getElem?_cons_succ]
  refine init_wp (a := S.length) List.getElem?_concat_length h fun S1 wl wds rows x1 r1 hw => ⟨rfl, ?_⟩
  rw [s_seq, s_set, w_meth]
  simp only [w_nil, w_var, List.getElem?_cons_zero, List.getElem?_cons_succ, List.set_cons_zero, List.set_cons_succ]
  refine ⟨S.length, _, insD_of r1.at_, look_meth (by decide +kernel), ?_⟩
  refine hs S.length wl wds W rows 0 S1 W [] _ r1 hw h.2.1 (by rw [List.drop_zero, List.append_nil]) ht (.inl rfl) fun d S2 x2 r2 hd => ?_
  obtain ⟨ns, rfl, hns⟩ := hd
  rw [s_seq, s_if, w_val, w_bin, w_meth]
  simp only [w_nil, w_var, w_c, List.getElem?_cons_zero, List.getElem?_cons_succ, List.set_cons_zero, List.set_cons_succ]
  refine ⟨S.length, _, insD_of r2.at_, look_meth (by decide +kernel), ?_⟩
  refine next_wp r2 hw ?_
  rw [drop_nil (W := W) (i := 0 + W.length) (by rw [Nat.zero_add]; exact List.drop_length)]
  rw [w_ne eqN_str]
  refine ⟨_, rfl, ?_⟩
  rw [if_neg (by decide +kernel), s_nil, s_ret, w_tup]
  simp only [w_cons, w_nil, w_att, w_var, List.getElem?_cons_zero, List.getElem?_cons_succ]
  refine ⟨S.length, _, _, insD_of r2.at_, look_words, by have := sl6; show 2 ≤ _; omega, ?_⟩
  refine ⟨_, rfl, ?_⟩
  rw [s_ret, w_cb]
  simp only [w_cons, w_nil]
  show Res.wp (mVar 1 [some (.str x), some (.tup ns), some (.ref wl)] _) _
  rw [w_var]
  dsimp only [List.getElem?_cons_zero, List.getElem?_cons_succ]
  have x3 : Ext S.length (S ++ [.ins "Reader" []]) S2 := x1.trans x2
  have e3 : S2 = S ++ S2.drop S.length := by
    have hle : S.length ≤ S2.length := by
      have := x3.1
      rw [List.length_append] at this
      omega
    refine List.ext_getElem? fun j => ?_
    by_cases hj : j < S.length
    · rw [List.getElem?_append_left hj, x3.2 j (by rw [List.length_append]; omega) (by omega), List.getElem?_append_left hj]
    · rw [List.getElem?_append_right (by omega), List.getElem?_drop, show S.length + (j - S.length) = j by omega]
  refine hp ns (St.ds ss) S2 _ (hns n hn) hl hwd fun l => ?_
  rw [e3, List.append_assoc]
  exact q _
end
end Mn

set_option Elab.async false
set_option linter.all false
set_option maxRecDepth 100000
set_option maxHeartbeats 4000000
/-! trees that are read: bounds, and that they are trees. No program here. -/
namespace Mn
open PySem PySem.Spec PyProof.Rows L2
def asc (x : Str) : Bool := x.cps.toList.all fun c => decide (c < 128)
theorem sgn_asc {x z : Str} (hz : asc z = true) (h : sgn x z = true) : asc x = true := List.all_eq_true.mpr fun c hc => List.all_eq_true.mp hz c (of_decide_eq_true (List.all_eq_true.mp h c hc))
theorem name_fact {x : Str} (h : nameB x = true) : x.length ≤ 8 ∧ asc x = true := by
  unfold nameB at h
  rw [Bool.and_eq_true, Bool.and_eq_true, Bool.and_eq_true] at h
  exact ⟨of_decide_eq_true h.2.1, sgn_asc (by decide +kernel) h.2.2.1⟩
theorem num_fact {x : Str} (h : numB x = true) : x.length ≤ 6 ∧ asc x = true := by
  unfold numB at h
  rw [Bool.and_eq_true, Bool.and_eq_true, Bool.and_eq_true] at h
  exact ⟨of_decide_eq_true h.2.1, sgn_asc (by decide +kernel) h.2.2.1⟩
theorem note_fact {x : Str} (h : noteB x = true) : x.length ≤ 40 ∧ asc x = true := by
  unfold noteB at h
  rw [Bool.and_eq_true, Bool.and_eq_true] at h
  exact ⟨of_decide_eq_true h.1, sgn_asc (by decide +kernel) h.2.1⟩
section
variable {p w W W' h h' : Nat} {S : Sto}
theorem v_str {x : Str} (ha : asc x = true) : Vl p 0 w x.length 0 S (.str x) := ⟨.str x, rfl, ha, Nat.le_refl _, Nat.le_refl _⟩
theorem v_lab1 {k : Str} (hw : 3 ≤ w) (ha : asc k = true) : Vl p 0 w (k.length + 1) 1 S (.tup [.str k]) :=
  ((Vls.cons (v_str ha) Vls.nil).le (Nat.le_refl _) (Nat.le_refl _) (Nat.le_refl _) (Nat.le_refl _)).tup (by show 1 ≤ w; omega)
theorem v_lab2 {k x : Str} (hw : 3 ≤ w) (ha : asc k = true) (hx : asc x = true) : Vl p 0 w (k.length + x.length + 2) 1 S (.tup [.str k, .str x]) :=
  ((Vls.cons (v_str ha) (Vls.cons (v_str hx) Vls.nil)).le (Nat.le_refl _) (Nat.le_refl _) (by omega) (Nat.le_refl _)).tup (by show 2 ≤ w; omega)
theorem v_node {lab : D} {lots : List D} (hw : 3 ≤ w) (hl : lots.length ≤ 3) (a : Vl p 0 w W 1 S lab) (b : Vls p 0 w W' h S lots) : Vl p 0 w (W + W' + 2) (h + 2) S (.tup [lab, .tup lots]) :=
  ((Vls.cons a (Vls.cons (b.tup (by omega)) Vls.nil)).le (Nat.le_refl _) (Nat.le_refl _) (by omega) (by omega : max 1 (max (h + 1) 0) ≤ h + 1)).tup (by show 2 ≤ w; omega)
theorem v_lot {ds : List D} (hl : ds.length ≤ w) (b : Vls p 0 w W h S ds) : Vls p 0 w (W + 1) (h + 1) S [.tup ds] :=
  (Vls.cons (b.tup hl) Vls.nil).le (Nat.le_refl _) (Nat.le_refl _) (by omega) (by omega)
theorem v_one {d : D} (b : Vl p 0 w W h S d) : Vls p 0 w (W + 1) h S [d] := (Vls.cons b Vls.nil).le (Nat.le_refl _) (Nat.le_refl _) (by omega) (by omega)
end
theorem exds_len : ∀ es : List Ex, (Ex.ds es).length = es.length
  | [] => rfl
  | _ :: es => congrArg Nat.succ (exds_len es)
theorem stds_len : ∀ es : List St, (St.ds es).length = es.length
  | [] => rfl
  | _ :: es => congrArg Nat.succ (stds_len es)
theorem exls_len : ∀ (ss : List Bool) (es : List Ex), (Ex.ls ss es).length ≤ es.length
  | _, [] => Nat.le_refl _
  | [], _ :: _ => Nat.zero_le _
  | _ :: ss, _ :: es => Nat.succ_le_succ (exls_len ss es)
theorem tk_pos {e : Ex} {ts : List Str} (h : e.tk ts) : 1 ≤ ts.length := by
  obtain ⟨t, r, rfl, _⟩ := tk_fst h
  exact Nat.succ_le_succ (Nat.zero_le _)
theorem limb_v {p w W h : Nat} {S : Sto} {b : Bool} {d : D} (hw : 3 ≤ w) (v : Vl p 0 w W h S d) : Vl p 0 w (W + 10) (h + 3) S (limbD b d) := by
  have hk : asc (sgK b) = true ∧ (sgK b).length ≤ 5 := by cases b <;> exact ⟨by decide +kernel, by decide +kernel⟩
  exact (v_node hw (by show 1 ≤ 3; decide) (v_lab1 hw hk.1) (v_lot (by show 1 ≤ w; omega) (v_one v))).le (Nat.le_refl _) (Nat.le_refl _) (by have := hk.2; omega) (Nat.le_refl _)
mutual
theorem ex_vl {p w : Nat} {S : Sto} (hw : 3 ≤ w) : ∀ (e : Ex) (ts : List Str), e.tk ts → ts.length ≤ w → Vl p 0 w (40 * ts.length - 1) (3 * e.ht) S e.d
  | .nam x, ts, h, hl => by
    obtain ⟨rfl, hx⟩ := h
    obtain ⟨x1, x2⟩ := name_fact hx
    have k : ("name" : Str).length = 4 := by decide +kernel
    exact (v_node hw (Nat.zero_le _) (v_lab2 hw (k := "name") (by decide +kernel) x2) Vls.nil).le (Nat.le_refl _) (Nat.le_refl _) (by rw [List.length_singleton]; omega) (by show 2 ≤ 3; decide)
  | .num x, ts, h, hl => by
    obtain ⟨rfl, hx⟩ := h
    obtain ⟨x1, x2⟩ := num_fact hx
    have k : ("number" : Str).length = 6 := by decide +kernel
    exact (v_node hw (Nat.zero_le _) (v_lab2 hw (k := "number") (by decide +kernel) x2) Vls.nil).le (Nat.le_refl _) (Nat.le_refl _) (by rw [List.length_singleton]; omega) (by show 2 ≤ 3; decide)
  | .call x es, ts, h, hl => by
    obtain ⟨hx, u, rfl, hu⟩ := h
    obtain ⟨x1, x2⟩ := name_fact hx
    have k : ("call" : Str).length = 4 := by decide +kernel
    have hl' : u.length + 3 ≤ w := by simpa [Nat.add_assoc] using hl
    have q := exs_vl (p := p) (S := S) hw es u hu (by omega)
    refine (v_node hw (by show 1 ≤ 3; decide) (v_lab2 hw (k := "call") (by decide +kernel) x2) (v_lot ?_ q)).le (Nat.le_refl _) (Nat.le_refl _) ?_ ?_
    · rw [exds_len]
      have := tks_len hu
      omega
    · simp only [List.length_cons, List.length_append, List.length_nil]
      omega
    · show 3 * Ex.hts es + 1 + 2 ≤ 3 * (Ex.hts es + 1)
      omega
  | .lst es, ts, h, hl => by
    obtain ⟨u, rfl, hu⟩ := h
    have k : ("list" : Str).length = 4 := by decide +kernel
    have hl' : u.length + 2 ≤ w := by simpa [Nat.add_assoc] using hl
    have q := exs_vl (p := p) (S := S) hw es u hu (by omega)
    refine (v_node hw (by show 1 ≤ 3; decide) (v_lab1 hw (k := "list") (by decide +kernel)) (v_lot ?_ q)).le (Nat.le_refl _) (Nat.le_refl _) ?_ ?_
    · rw [exds_len]
      have := tks_len hu
      omega
    · simp only [List.length_cons, List.length_append, List.length_nil]
      omega
    · show 3 * Ex.hts es + 1 + 2 ≤ 3 * (Ex.hts es + 1)
      omega
  | .inn e, ts, h, hl => by
    obtain ⟨u, rfl, hu⟩ := h
    have k : ("in" : Str).length = 2 := by decide +kernel
    have hl' : u.length + 2 ≤ w := by simpa [Nat.add_assoc] using hl
    have q := ex_vl (p := p) (S := S) hw e u hu (by omega)
    refine (v_node hw (by show 1 ≤ 3; decide) (v_lab1 hw (k := "in") (by decide +kernel)) (v_lot (by show 1 ≤ w; omega) (v_one q))).le (Nat.le_refl _) (Nat.le_refl _) ?_ ?_
    · simp only [List.length_cons, List.length_append, List.length_nil]
      omega
    · show 3 * e.ht + 1 + 2 ≤ 3 * (e.ht + 1)
      omega
  | .sum e ss es, ts, h, hl => by
    obtain ⟨ht, hss, u, v, rfl, hu, hv⟩ := h
    have k : ("sum" : Str).length = 3 := by decide +kernel
    rw [List.length_append] at hl ⊢
    have q := ex_vl (p := p) (S := S) hw e u hu (by omega)
    obtain ⟨W, hW, q2⟩ := exl_vl (p := p) (S := S) hw ss es v hv (by omega)
    have l2 := tss_len hv
    have l1 : 1 ≤ ss.length := by
      cases ss with
      | nil => exact absurd rfl hss
      | cons _ _ => exact Nat.succ_le_succ (Nat.zero_le _)
    have l3 := exls_len ss es
    have l4 := tk_pos hu
    have q3 := Vls.cons (limb_v (b := true) hw q) q2
    refine (v_node hw (by show 1 ≤ 3; decide) (v_lab1 hw (k := "sum") (by decide +kernel)) (v_lot ?_ q3)).le (Nat.le_refl _) (Nat.le_refl _) ?_ ?_
    · rw [List.length_cons]
      omega
    · omega
    · show max (3 * e.ht + 3) (3 * Ex.hts es + 3) + 1 + 2 ≤ 3 * (max e.ht (Ex.hts es) + 2)
      omega
theorem exs_vl {p w : Nat} {S : Sto} (hw : 3 ≤ w) : ∀ (es : List Ex) (ts : List Str), Ex.tks es ts → ts.length ≤ w → Vls p 0 w (40 * ts.length) (3 * Ex.hts es) S (Ex.ds es)
  | [], ts, h, hl => Vls.nil.le (Nat.le_refl _) (Nat.le_refl _) (Nat.zero_le _) (Nat.zero_le _)
  | e :: es, ts, h, hl => by
    obtain ⟨u, v, rfl, hu, hr⟩ := h
    have l4 := tk_pos hu
    rw [List.length_append] at hl ⊢
    have q := ex_vl (p := p) (S := S) hw e u hu (by omega)
    rcases hr with ⟨rfl, _⟩ | ⟨_, r, rfl, hr⟩
    · exact (Vls.cons q Vls.nil).le (Nat.le_refl _) (Nat.le_refl _) (by omega) (by show max (3 * e.ht) 0 ≤ 3 * max e.ht 0; omega)
    · rw [List.length_cons] at hl ⊢
      have q2 := exs_vl (p := p) (S := S) hw es r hr (by omega)
      exact (Vls.cons q q2).le (Nat.le_refl _) (Nat.le_refl _) (by omega) (by show max (3 * e.ht) (3 * Ex.hts es) ≤ 3 * max e.ht (Ex.hts es); omega)
theorem exl_vl {p w : Nat} {S : Sto} (hw : 3 ≤ w) : ∀ (ss : List Bool) (es : List Ex) (ts : List Str), Ex.tss ss es ts → ts.length ≤ w → ∃ W, W + 30 * es.length ≤ 40 * ts.length ∧ Vls p 0 w W (3 * Ex.hts es + 3) S (Ex.ls ss es)
  | ss, [], ts, h, hl => ⟨0, Nat.zero_le _, by
    have e : Ex.ls ss [] = [] := by cases ss <;> rfl
    rw [e]
    exact Vls.nil.le (Nat.le_refl _) (Nat.le_refl _) (Nat.zero_le _) (Nat.zero_le _)⟩
  | [], _ :: _, ts, h, hl => h.elim
  | b :: ss, e :: es, ts, h, hl => by
    obtain ⟨_, u, v, rfl, hu, hv⟩ := h
    rw [List.length_cons, List.length_append] at hl
    have l4 := tk_pos hu
    have q := ex_vl (p := p) (S := S) hw e u hu (by omega)
    obtain ⟨W, hW, q2⟩ := exl_vl (p := p) (S := S) hw ss es v hv (by omega)
    refine ⟨_, ?_, (Vls.cons (limb_v (b := b) hw q) q2).le (Nat.le_refl _) (Nat.le_refl _) (Nat.le_refl _) ?_⟩
    · simp only [List.length_cons, List.length_append]
      omega
    · show max (3 * e.ht + 3) (3 * Ex.hts es + 3) ≤ 3 * max e.ht (Ex.hts es) + 3
      omega
end
theorem stk_pos {s : St} {ts : List Str} (h : s.tk ts) : 1 ≤ ts.length := by
  obtain ⟨t, r, rfl, _⟩ := stk_fst h
  exact Nat.succ_le_succ (Nat.zero_le _)
mutual
theorem st_vl {p w : Nat} {S : Sto} (hw : 3 ≤ w) : ∀ (s : St) (ts : List Str), s.tk ts → ts.length ≤ w → Vl p 0 w (60 * ts.length - 1) (3 * s.ht) S s.d
  | .set x e, ts, h, hl => by
    obtain ⟨hx, u, rfl, hu⟩ := h
    obtain ⟨x1, x2⟩ := name_fact hx
    have k : ("set" : Str).length = 3 := by decide +kernel
    have hl' : u.length + 3 ≤ w := by simpa [Nat.add_assoc] using hl
    have q := ex_vl (p := p) (S := S) hw e u hu (by omega)
    refine (v_node hw (by show 1 ≤ 3; decide) (v_lab2 hw (k := "set") (by decide +kernel) x2) (v_lot (by show 1 ≤ w; omega) (v_one q))).le (Nat.le_refl _) (Nat.le_refl _) ?_ ?_
    · simp only [List.length_cons, List.length_append, List.length_nil]
      omega
    · show 3 * e.ht + 1 + 2 ≤ 3 * (e.ht + 1)
      omega
  | .run x es, ts, h, hl => by
    obtain ⟨hx, u, rfl, hu⟩ := h
    obtain ⟨x1, x2⟩ := name_fact hx
    have k : ("run" : Str).length = 3 := by decide +kernel
    have hl' : u.length + 4 ≤ w := by simpa [Nat.add_assoc] using hl
    have q := exs_vl (p := p) (S := S) hw es u hu (by omega)
    refine (v_node hw (by show 1 ≤ 3; decide) (v_lab2 hw (k := "run") (by decide +kernel) x2) (v_lot ?_ q)).le (Nat.le_refl _) (Nat.le_refl _) ?_ ?_
    · rw [exds_len]
      have := tks_len hu
      omega
    · simp only [List.length_cons, List.length_append, List.length_nil]
      omega
    · show 3 * Ex.hts es + 1 + 2 ≤ 3 * (Ex.hts es + 1)
      omega
  | .give e, ts, h, hl => by
    obtain ⟨u, rfl, hu⟩ := h
    have k : ("give" : Str).length = 4 := by decide +kernel
    have hl' : u.length + 2 ≤ w := by simpa [Nat.add_assoc] using hl
    have q := ex_vl (p := p) (S := S) hw e u hu (by omega)
    refine (v_node hw (by show 1 ≤ 3; decide) (v_lab1 hw (k := "give") (by decide +kernel)) (v_lot (by show 1 ≤ w; omega) (v_one q))).le (Nat.le_refl _) (Nat.le_refl _) ?_ ?_
    · simp only [List.length_cons, List.length_append, List.length_nil]
      omega
    · show 3 * e.ht + 1 + 2 ≤ 3 * (e.ht + 1)
      omega
  | .note x, ts, h, hl => by
    obtain ⟨w', rfl, hx⟩ := h
    obtain ⟨x1, x2⟩ := note_fact hx.2.2.1
    have k : ("note" : Str).length = 4 := by decide +kernel
    exact (v_node hw (Nat.zero_le _) (v_lab2 hw (k := "note") (by decide +kernel) x2) Vls.nil).le (Nat.le_refl _) (Nat.le_refl _) (by rw [List.length_singleton]; omega) (by show 2 ≤ 3; decide)
  | .loop e b, ts, h, hl => by
    obtain ⟨u, v, rfl, hu, hv⟩ := h
    have k : ("loop" : Str).length = 4 := by decide +kernel
    have hl' : u.length + v.length + 3 ≤ w := by simp only [List.length_cons, List.length_append, List.length_nil] at hl; omega
    have l4 := tk_pos hu
    have q := ex_vl (p := p) (S := S) hw e u hu (by omega)
    have q2 := sts_vl (p := p) (S := S) hw b v hv (by omega)
    refine (v_node hw (by show 2 ≤ 3; decide) (v_lab1 hw (k := "loop") (by decide +kernel)) ((Vls.cons ((v_one q).tup (by show 1 ≤ w; omega)) (v_lot ?_ q2)).le (h' := 3 * max e.ht (St.hts b) + 1) (Nat.le_refl _) (Nat.le_refl _) (Nat.le_refl _) (by omega))).le (Nat.le_refl _) (Nat.le_refl _) ?_ ?_
    · rw [stds_len]
      have := stks_len hv
      omega
    · simp only [List.length_cons, List.length_append, List.length_nil]
      omega
    · show 3 * max e.ht (St.hts b) + 1 + 2 ≤ 3 * (max e.ht (St.hts b) + 1)
      omega
  | .iff e b o c, ts, h, hl => by
    obtain ⟨u, v, z, rfl, hu, hv, hz⟩ := h
    have k : ("if" : Str).length = 2 := by decide +kernel
    have hl' : u.length + v.length + 3 + z.length ≤ w := by simp only [List.length_cons, List.length_append, List.length_nil] at hl; omega
    have l4 := tk_pos hu
    have q := ex_vl (p := p) (S := S) hw e u hu (by omega)
    have q2 := sts_vl (p := p) (S := S) hw b v hv (by omega)
    have q3 : Vls p 0 w (60 * z.length) (3 * (St.hts c + 1)) S (if o = true then [elseD (St.ds c)] else []) := by
      rcases hz with ⟨rfl, rfl, rfl⟩ | ⟨rfl, z, rfl, hc⟩
      · exact Vls.nil.le (Nat.le_refl _) (Nat.le_refl _) (Nat.zero_le _) (Nat.zero_le _)
      · have hl2 : z.length + 3 ≤ w := by simp only [List.length_cons, List.length_append, List.length_nil] at hl'; omega
        have q3 := sts_vl (p := p) (S := S) hw c z hc (by omega)
        have k : ("else" : Str).length = 4 := by decide +kernel
        rw [if_pos rfl]
        refine (v_one (v_node hw (by show 1 ≤ 3; decide) (v_lab1 hw (k := "else") (by decide +kernel)) (v_lot ?_ q3))).le (Nat.le_refl _) (Nat.le_refl _) ?_ ?_
        · rw [stds_len]
          have := stks_len hc
          omega
        · simp only [List.length_cons, List.length_append, List.length_nil]
          omega
        · show 3 * St.hts c + 1 + 2 ≤ _
          omega
    refine (v_node hw (by show 3 ≤ 3; decide) (v_lab1 hw (k := "if") (by decide +kernel)) ((Vls.cons ((v_one q).tup (by show 1 ≤ w; omega)) (Vls.cons (q2.tup ?_) (v_lot ?_ q3))).le (h' := 3 * max (max e.ht (St.hts b)) (St.hts c + 1) + 1) (Nat.le_refl _) (Nat.le_refl _) (Nat.le_refl _) (by omega))).le (Nat.le_refl _) (Nat.le_refl _) ?_ ?_
    · rw [stds_len]
      have := stks_len hv
      omega
    · cases o
      · show 0 ≤ w
        omega
      · show 1 ≤ w
        omega
    · simp only [List.length_cons, List.length_append, List.length_nil]
      omega
    · show 3 * max (max e.ht (St.hts b)) (St.hts c + 1) + 1 + 2 ≤ 3 * (max (max e.ht (St.hts b)) (St.hts c + 1) + 1)
      omega
theorem sts_vl {p w : Nat} {S : Sto} (hw : 3 ≤ w) : ∀ (ss : List St) (ts : List Str), St.tks ss ts → ts.length ≤ w → Vls p 0 w (60 * ts.length) (3 * St.hts ss) S (St.ds ss)
  | [], ts, h, hl => Vls.nil.le (Nat.le_refl _) (Nat.le_refl _) (Nat.zero_le _) (Nat.zero_le _)
  | s :: ss, ts, h, hl => by
    obtain ⟨u, v, rfl, hu, hr⟩ := h
    have l4 := stk_pos hu
    rw [List.length_append] at hl ⊢
    have q := st_vl (p := p) (S := S) hw s u hu (by omega)
    have q2 := sts_vl (p := p) (S := S) hw ss v hr (by omega)
    exact (Vls.cons q q2).le (Nat.le_refl _) (Nat.le_refl _) (by omega) (by show max (3 * s.ht) (3 * St.hts ss) ≤ 3 * max s.ht (St.hts ss); omega)
end
/-! ### they are trees -/
theorem exds_mem : ∀ {es : List Ex} {d : D}, d ∈ Ex.ds es → ∃ e, e ∈ es ∧ d = e.d
  | [], _, h => by cases h
  | e :: es, d, h => by
    rcases List.mem_cons.mp h with rfl | h
    · exact ⟨e, List.mem_cons_self, rfl⟩
    · obtain ⟨x, h1, h2⟩ := exds_mem h
      exact ⟨x, List.mem_cons_of_mem _ h1, h2⟩
theorem z1 {n : Nat} {a : D} {s : Str} (h : lotS (partB n) s a = true) : ∀ q ∈ List.zip [a] [s], lotS (partB n) q.2 q.1 = true := fun q hq => by
  rw [List.mem_singleton.mp hq]
  exact h
theorem lotE1 {n : Nat} {d : D} (h : partB n kExprs d = true) : lotS (partB n) "one E" (.tup [d]) = true := lot_mk (Nat.le_refl 1) rfl (fun x hx => by rw [List.mem_singleton.mp hx]; exact h) (fun e => absurd e (by decide +kernel))
theorem lotEs {n : Nat} {ds : List D} (h : ∀ d ∈ ds, partB n kExprs d = true) : lotS (partB n) "E's" (.tup ds) = true := lot_mk (Nat.zero_le _) rfl h (fun e => absurd e (by decide +kernel))
theorem lotBl {n : Nat} {ds : List D} (h : ∀ d ∈ ds, partB n kStmts d = true) : lotS (partB n) "a block" (.tup ds) = true := lot_mk (Nat.zero_le _) rfl h (fun e => absurd e (by decide +kernel))
mutual
theorem ex_part : ∀ (e : Ex) (ts : List Str), e.tk ts → ∀ n, e.ht ≤ n → partB n kExprs e.d = true ∧ (e.isTerm = true → partB n kTerms e.d = true)
  | .nam x, ts, h, n, hn => by
    obtain ⟨m, rfl⟩ : ∃ m, n = m + 1 := ⟨n - 1, by have : 1 ≤ n := hn; omega⟩
    have q : ∀ ks, isIn (.str "name") ks = true → partB (m + 1) ks (Ex.nam x).d = true := fun ks hk => part_mk hk h.2 rfl (fun q hq => by cases hq)
    exact ⟨q _ (by decide +kernel), fun _ => q _ (by decide +kernel)⟩
  | .num x, ts, h, n, hn => by
    obtain ⟨m, rfl⟩ : ∃ m, n = m + 1 := ⟨n - 1, by have : 1 ≤ n := hn; omega⟩
    have q : ∀ ks, isIn (.str "number") ks = true → partB (m + 1) ks (Ex.num x).d = true := fun ks hk => part_mk hk h.2 rfl (fun q hq => by cases hq)
    exact ⟨q _ (by decide +kernel), fun _ => q _ (by decide +kernel)⟩
  | .call x es, ts, h, n, hn => by
    obtain ⟨m, rfl⟩ : ∃ m, n = m + 1 := ⟨n - 1, by have : _ + 1 ≤ n := hn; omega⟩
    have hn : Ex.hts es ≤ m := Nat.le_of_succ_le_succ hn
    obtain ⟨hx, u, rfl, hu⟩ := h
    have q : ∀ ks, isIn (.str "call") ks = true → partB (m + 1) ks (Ex.call x es).d = true := fun ks hk => part_mk hk hx rfl (z1 (lotEs (exs_part es u hu m hn)))
    exact ⟨q _ (by decide +kernel), fun _ => q _ (by decide +kernel)⟩
  | .lst es, ts, h, n, hn => by
    obtain ⟨m, rfl⟩ : ∃ m, n = m + 1 := ⟨n - 1, by have : _ + 1 ≤ n := hn; omega⟩
    have hn : Ex.hts es ≤ m := Nat.le_of_succ_le_succ hn
    obtain ⟨u, rfl, hu⟩ := h
    have q : ∀ ks, isIn (.str "list") ks = true → partB (m + 1) ks (Ex.lst es).d = true := fun ks hk => part_mk hk rfl rfl (z1 (lotEs (exs_part es u hu m hn)))
    exact ⟨q _ (by decide +kernel), fun _ => q _ (by decide +kernel)⟩
  | .inn e, ts, h, n, hn => by
    obtain ⟨m, rfl⟩ : ∃ m, n = m + 1 := ⟨n - 1, by have : _ + 1 ≤ n := hn; omega⟩
    have hn : e.ht ≤ m := Nat.le_of_succ_le_succ hn
    obtain ⟨u, rfl, hu⟩ := h
    have q : ∀ ks, isIn (.str "in") ks = true → partB (m + 1) ks (Ex.inn e).d = true := fun ks hk => part_mk hk rfl rfl (z1 (lotE1 (ex_part e u hu m hn).1))
    exact ⟨q _ (by decide +kernel), fun _ => q _ (by decide +kernel)⟩
  | .sum e ss es, ts, h, n, hn => by
    have hn : max e.ht (Ex.hts es) + 2 ≤ n := hn
    obtain ⟨m, rfl⟩ : ∃ m, n = m + 2 := ⟨n - 2, by omega⟩
    have h1 : e.ht ≤ m := by omega
    have h2 : Ex.hts es ≤ m := by omega
    obtain ⟨ht, hss, u, v, rfl, hu, hv⟩ := h
    have l2 := tss_len hv
    have hz := exl_part ss es v hv m h2
    have hf : partB (m + 1) ["plus", "minus"] (limbD true e.d) = true := part_mk (by decide +kernel) rfl rfl (z1 (lot_mk (Nat.le_refl 1) rfl (fun x hx => by rw [List.mem_singleton.mp hx]; exact (ex_part e u hu m h1).2 ht) (fun e => absurd e (by decide +kernel))))
    refine ⟨part_mk (by decide +kernel) rfl rfl (z1 (lot_mk ?_ rfl ?_ (fun _ => ?_))), fun h => by cases h⟩
    · cases ss with
      | nil => exact absurd rfl hss
      | cons b ss =>
        cases es with
        | nil => rw [List.length_cons, List.length_nil] at l2; omega
        | cons e es => exact Nat.succ_le_succ (Nat.succ_le_succ (Nat.zero_le _))
    · intro d hd
      rcases List.mem_cons.mp hd with rfl | hd
      · exact hf
      · exact hz d hd
    · show decide ([D.str (sgK true)] = [D.str "plus"]) = true
      exact decide_eq_true rfl
theorem exs_part : ∀ (es : List Ex) (ts : List Str), Ex.tks es ts → ∀ n, Ex.hts es ≤ n → ∀ d ∈ Ex.ds es, partB n kExprs d = true
  | [], ts, h, n, hn, d, hd => by cases hd
  | e :: es, ts, h, n, hn, d, hd => by
    have hn : max e.ht (Ex.hts es) ≤ n := hn
    obtain ⟨u, v, rfl, hu, hr⟩ := h
    rcases List.mem_cons.mp hd with rfl | hd
    · exact (ex_part e u hu n (by omega)).1
    · rcases hr with ⟨rfl, _⟩ | ⟨_, r, rfl, hr⟩
      · cases hd
      · exact exs_part es r hr n (by omega) d hd
theorem exl_part : ∀ (ss : List Bool) (es : List Ex) (ts : List Str), Ex.tss ss es ts → ∀ n, Ex.hts es ≤ n → ∀ d ∈ Ex.ls ss es, partB (n + 1) ["plus", "minus"] d = true
  | ss, [], ts, h, n, hn, d, hd => by
    have e : Ex.ls ss [] = [] := by cases ss <;> rfl
    rw [e] at hd
    cases hd
  | [], _ :: _, ts, h, n, hn, d, hd => h.elim
  | b :: ss, e :: es, ts, h, n, hn, d, hd => by
    have hn : max e.ht (Ex.hts es) ≤ n := hn
    obtain ⟨ht, u, v, rfl, hu, hv⟩ := h
    rcases List.mem_cons.mp hd with rfl | hd
    · refine part_mk ?_ ?_ ?_ ?_
      · cases b <;> decide +kernel
      · cases b <;> rfl
      · cases b <;> rfl
      · have : sortsOf (sgK b) = [("one term" : Str)] := by cases b <;> decide +kernel
        rw [this]
        exact z1 (lot_mk (Nat.le_refl 1) rfl (fun x hx => by rw [List.mem_singleton.mp hx]; exact (ex_part e u hu n (by omega)).2 ht) (fun e => absurd e (by decide +kernel)))
    · exact exl_part ss es v hv n (by omega) d hd
end
mutual
theorem st_part : ∀ (s : St) (ts : List Str), s.tk ts → ∀ n, s.ht ≤ n → partB n kStmts s.d = true
  | .set x e, ts, h, n, hn => by
    obtain ⟨m, rfl⟩ : ∃ m, n = m + 1 := ⟨n - 1, by have : _ + 1 ≤ n := hn; omega⟩
    have hn : e.ht ≤ m := Nat.le_of_succ_le_succ hn
    obtain ⟨hx, u, rfl, hu⟩ := h
    exact part_mk (by decide +kernel) hx rfl (z1 (lotE1 (ex_part e u hu m hn).1))
  | .run x es, ts, h, n, hn => by
    obtain ⟨m, rfl⟩ : ∃ m, n = m + 1 := ⟨n - 1, by have : _ + 1 ≤ n := hn; omega⟩
    have hn : Ex.hts es ≤ m := Nat.le_of_succ_le_succ hn
    obtain ⟨hx, u, rfl, hu⟩ := h
    exact part_mk (by decide +kernel) hx rfl (z1 (lotEs (exs_part es u hu m hn)))
  | .give e, ts, h, n, hn => by
    obtain ⟨m, rfl⟩ : ∃ m, n = m + 1 := ⟨n - 1, by have : _ + 1 ≤ n := hn; omega⟩
    have hn : e.ht ≤ m := Nat.le_of_succ_le_succ hn
    obtain ⟨u, rfl, hu⟩ := h
    exact part_mk (by decide +kernel) rfl rfl (z1 (lotE1 (ex_part e u hu m hn).1))
  | .note x, ts, h, n, hn => by
    obtain ⟨m, rfl⟩ : ∃ m, n = m + 1 := ⟨n - 1, by have : 1 ≤ n := hn; omega⟩
    obtain ⟨w, rfl, hx⟩ := h
    exact part_mk (by decide +kernel) hx.2.2.1 rfl (fun q hq => by cases hq)
  | .loop e b, ts, h, n, hn => by
    have hn : max e.ht (St.hts b) + 1 ≤ n := hn
    obtain ⟨m, rfl⟩ : ∃ m, n = m + 1 := ⟨n - 1, by omega⟩
    obtain ⟨u, v, rfl, hu, hv⟩ := h
    have q1 := lotE1 (ex_part e u hu m (by omega)).1
    have q2 := lotBl (sts_part b v hv m (by omega))
    refine part_mk (by decide +kernel) rfl rfl fun q hq => ?_
    have hq : q ∈ [(D.tup [e.d], ("one E" : Str)), (.tup (St.ds b), "a block")] := hq
    rcases List.mem_cons.mp hq with rfl | hq
    · exact q1
    · rw [List.mem_singleton.mp hq]
      exact q2
  | .iff e b o c, ts, h, n, hn => by
    have hn : max (max e.ht (St.hts b)) (St.hts c + 1) + 1 ≤ n := hn
    obtain ⟨m, rfl⟩ : ∃ m, n = m + 1 := ⟨n - 1, by omega⟩
    obtain ⟨u, v, z, rfl, hu, hv, hz⟩ := h
    have q1 := lotE1 (ex_part e u hu m (by omega)).1
    have q2 := lotBl (sts_part b v hv m (by omega))
    have q3 : lotS (partB m) "perhaps an else" (.tup (if o = true then [elseD (St.ds c)] else [])) = true := by
      rcases hz with ⟨rfl, rfl, rfl⟩ | ⟨rfl, z, rfl, hc⟩
      · exact lot_mk (Nat.zero_le _) rfl (fun d hd => by cases hd) (fun e => absurd e (by decide +kernel))
      · obtain ⟨m', rfl⟩ : ∃ m', m = m' + 1 := ⟨m - 1, by omega⟩
        refine lot_mk (Nat.zero_le _) rfl (fun d hd => ?_) (fun e => absurd e (by decide +kernel))
        rw [if_pos rfl] at hd
        rw [List.mem_singleton.mp hd]
        exact part_mk (by decide +kernel) rfl rfl (z1 (lotBl (sts_part c z hc m' (by omega))))
    refine part_mk (by decide +kernel) rfl rfl fun q hq => ?_
    have hq : q ∈ [(D.tup [e.d], ("one E" : Str)), (.tup (St.ds b), "a block"), (.tup (if o = true then [elseD (St.ds c)] else []), "perhaps an else")] := hq
    rcases List.mem_cons.mp hq with rfl | hq
    · exact q1
    · rcases List.mem_cons.mp hq with rfl | hq
      · exact q2
      · rw [List.mem_singleton.mp hq]
        exact q3
theorem sts_part : ∀ (ss : List St) (ts : List Str), St.tks ss ts → ∀ n, St.hts ss ≤ n → ∀ d ∈ St.ds ss, partB n kStmts d = true
  | [], ts, h, n, hn, d, hd => by cases hd
  | s :: ss, ts, h, n, hn, d, hd => by
    have hn : max s.ht (St.hts ss) ≤ n := hn
    obtain ⟨u, v, rfl, hu, hr⟩ := h
    rcases List.mem_cons.mp hd with rfl | hd
    · exact st_part s u hu n (by omega)
    · exact sts_part ss v hr n (by omega) d hd
end
end Mn

set_option Elab.async false
set_option linter.all false
set_option maxRecDepth 100000
set_option maxHeartbeats 4000000
/-! parts at paths of trees. No program here. -/
namespace Mn
open PySem PySem.Spec PyProof.Rows L2
/-- is_integer -/
def g_is_integer  : F := mDef 3 3 (sSeq (sIf (tOr (tNot (tVal (mIsi "int" (mVar 0)))) (tOr (tVal (mIsi "bool" (mVar 0))) (tVal (mBin fLt (mVar 0) (mVar 1))))) (sRet (mC (.bl false))) sNil)
  (sRet (mOr (mBin fIsN (mVar 2) (mC .non)) (mBin fLe (mVar 0) (mVar 2)))))
/-- check_tree -/
def g_check_tree (c_is_tree : F) : F := mDef 1 1 (sIf (tNot (tVal (mCB c_is_tree (aCons (mVar 0) aNil)))) sBad sNil)
/-- lot_at -/
def g_lot_at  : F := mDef 2 4 (sSeq (sSet 2 (mVar 0))
  (sSeq (sFor (iRange3 (aCons (mC (.int 0)) (aCons (mCB cLen (aCons (mVar 1) aNil)) (aCons (mC (.int 2)) aNil)))) (.nm 3) (sSet 2 (mBin fIx (mBin fIx (mBin fIx (mVar 2) (mBin fIx (mVar 1) (mVar 3))) (mC (.int 1))) (mBin fIx (mVar 1) (mBin fAdd (mVar 3) (mC (.int 1)))))))
  (sRet (mVar 2))))
/-- leads -/
def g_leads (c_is_integer : F) : F := mDef 2 7 (sSeq (sIf (tOr (tNot (tVal (mIsi "tuple" (mVar 1)))) (tVal (mBin fNe (mBin fMod (mCB cLen (aCons (mVar 1) aNil)) (mC (.int 2))) (mC (.int 1))))) (sRet (mC (.bl false))) sNil)
  (sSeq (sPar 2 3 (aCons (mVar 0) (aCons (mC .non) aNil)))
  (sSeq (sFor (iEnum2 (aCons (mVar 1) aNil)) (.tp [(.nm 4), (.nm 5)]) (sSeq (sSet 6 (mIf (tVal (mBin fEq (mBin fMod (mVar 4) (mC (.int 2))) (mC (.int 0)))) (mVar 2) (mBin fIx (mVar 3) (mC (.int 1)))))
  (sSeq (sIf (tNot (tVal (mCB c_is_integer (aCons (mVar 5) (aCons (mC (.int 0)) (aCons (mBin fSub (mCB cLen (aCons (mVar 6) aNil)) (mC (.int 1))) aNil)))))) (sRet (mC (.bl false))) sNil)
  (sIf (tVal (mBin fEq (mBin fMod (mVar 4) (mC (.int 2))) (mC (.int 0)))) (sSet 3 (mBin fIx (mVar 6) (mVar 5))) (sSet 2 (mBin fIx (mVar 6) (mVar 5)))))))
  (sRet (mC (.bl true))))))
/-- part_at -/
def g_part_at (c_check_tree : F) (c_leads : F) (c_lot_at : F) : F := mDef 2 2 (sSeq (sDrop (mCB c_check_tree (aCons (mVar 0) aNil)))
  (sSeq (sIf (tNot (tVal (mCB c_leads (aCons (mVar 0) (aCons (mVar 1) aNil))))) sBad sNil)
  (sRet (mBin fIx (mCB c_lot_at (aCons (mVar 0) (aCons (mSl (mVar 1) oNone (oSome (mUn fNeg (mC (.int 1))))) aNil))) (mBin fIx (mVar 1) (mUn fNeg (mC (.int 1))))))))
/-- _law_trails -/
def g_w_trails (c_w_trails : F) : F := mDef 2 7 (sSeq (sSet 2 (mLst aNil))
  (sSeq (sFor (iEnum2 (aCons (mVar 0) aNil)) (.tp [(.nm 3), (.nm 4)]) (sSeq (sDrop (mMt "list" fAppend (mVar 2) (aCons (mTup (aCons (mBin fAdd (mVar 1) (mTup (aCons (mVar 3) aNil))) (aCons (mVar 4) aNil))) aNil)))
  (sFor (iEnum2 (aCons (mBin fIx (mVar 4) (mC (.int 1))) aNil)) (.tp [(.nm 5), (.nm 6)]) (sDrop (mMt "list" fExtend (mVar 2) (aCons (mCB c_w_trails (aCons (mVar 6) (aCons (mBin fAdd (mVar 1) (mTup (aCons (mVar 3) (aCons (mVar 5) aNil)))) aNil))) aNil))))))
  (sRet (mVar 2))))

abbrev dN (n : Nat) : D := .int (n : Nat)
/-- the part at a path -/
def subP : List D → List Nat → Option D
  | _, [] => none
  | its, [n] => its[n]?
  | its, n :: k :: r => match its[n]? with
    | some (.tup [_, .tup lots]) => match lots[k]? with
      | some (.tup its2) => subP its2 r
      | _ => none
    | _ => none
theorem subP_two {its : List D} {n k : Nat} {r : List Nat} {d : D} (h : subP its (n :: k :: r) = some d) : ∃ lab lots its2, its[n]? = some (.tup [lab, .tup lots]) ∧ lots[k]? = some (.tup its2) ∧ subP its2 r = some d := by
  unfold subP at h
  split at h
  · rename_i lab lots e
    split at h
    · rename_i its2 e2
      exact ⟨lab, lots, its2, e, e2, h⟩
    · cases h
  · cases h
theorem subP_mk {its : List D} {n k : Nat} {r : List Nat} {lab : D} {lots its2 : List D} (h1 : its[n]? = some (.tup [lab, .tup lots])) (h2 : lots[k]? = some (.tup its2)) : subP its (n :: k :: r) = subP its2 r := by
  show (match its[n]? with
    | some (.tup [_, .tup lots]) => (match lots[k]? with
      | some (.tup its2) => subP its2 r
      | _ => none)
    | _ => none) = _
  rw [h1]
  show (match lots[k]? with
      | some (.tup its2) => subP its2 r
      | _ => none) = _
  rw [h2]
theorem subP_odd : ∀ {path : List Nat} {its : List D} {d : D}, subP its path = some d → path.length % 2 = 1
  | [], its, d, h => by cases h
  | [n], its, d, h => rfl
  | n :: k :: r, its, d, h => by
    obtain ⟨lab, lots, its2, h1, h2, h3⟩ := subP_two h
    have := subP_odd h3
    rw [List.length_cons, List.length_cons]
    omega
section
variable {S : Sto} {Q : D → Sto → Prop}
theorem integer_wp {n m : Nat} (h : n < m) (q : Q (.bl true) S) : (g_is_integer [.int (n : Nat), .int 0, .int ((m : Nat) - 1)] S).wp Q := by
  unfold g_is_integer
  refine w_def rfl ?_
  rw [s_seq, s_if]
  simp only [w_tor, w_tnot, w_val, w_isi, w_bin, w_var, w_c, s_ret, s_nil, w_or, List.map_cons, List.map_nil, List.length_cons, List.length_nil, List.cons_append, List.nil_append, List.getElem?_cons_zero, List.getElem?_cons_succ, List.reduceReplicate, Nat.reduceAdd, Nat.reduceSub]
  refine ⟨by show ¬ "int" = "?"; decide, _, rfl, ?_⟩
  rw [show (!(isB (kOf S (.int (n : Nat))) "int")) = false from rfl, if_neg Bool.false_ne_true]
  refine ⟨by show ¬ "int" = "?"; decide, _, rfl, ?_⟩
  rw [show isB (kOf S (.int (n : Nat))) "bool" = false from rfl, if_neg Bool.false_ne_true, w_fI]
  refine ⟨rfl, _, rfl, ?_⟩
  rw [if_neg (by rw [decide_eq_true_iff]; omega)]
  refine ⟨_, rfl, ?_⟩
  rw [if_neg (by rw [decide_eq_true_iff]; exact fun e => by cases e), w_fI]
  refine ⟨rfl, ?_⟩
  rw [decide_eq_true (by omega)]
  exact q
theorem kOf_tup {ds : List D} : kOf S (.tup ds) = "tuple" := rfl
theorem two_mod (j : Nat) : ((j : Int) % 2 = 0) ↔ (j % 2 = 0) := by omega
theorem leads_wp {its : List D} {path : List Nat} {d : D} (hp : path.length < 1000000) (h : subP its path = some d) (q : Q (.bl true) S) : (g_leads g_is_integer [.tup its, .tup (path.map dN)] S).wp Q := by
  have odd := subP_odd h
  unfold g_leads
  refine w_def rfl ?_
  rw [s_seq, s_if]
  simp only [w_tor, w_tnot, w_val, w_isi, w_bin, w_cb, w_cons, w_nil, w_var, w_c, List.map_cons, List.map_nil, List.length_cons, List.length_nil, List.cons_append, List.nil_append, List.getElem?_cons_zero, List.getElem?_cons_succ, List.reduceReplicate, Nat.reduceAdd, Nat.reduceSub]
  refine ⟨by show ¬ "tuple" = "?"; decide, _, rfl, ?_⟩
  rw [show (!(isB (kOf S (.tup (path.map dN))) "tuple")) = false from rfl, if_neg Bool.false_ne_true, w_lenT, w_fI, List.length_map]
  refine ⟨by decide, ?_⟩
  rw [w_ne eqN_int]
  refine ⟨_, rfl, ?_⟩
  rw [if_neg (by rw [show ((path.length : Int) % 2 == 1) = true by rw [beq_iff_eq]; omega]; decide), s_nil, s_seq, s_par]
  simp only [w_cons, w_nil, w_var, w_c, List.getElem?_cons_zero, List.getElem?_cons_succ]
  refine ⟨_, _, rfl, ?_⟩
  simp only [List.set_cons_zero, List.set_cons_succ]
  rw [s_seq, s_for]
  unfold iEnum2
  rw [wp_bind, w_cons, w_var]
  simp only [w_nil, List.getElem?_cons_zero, List.getElem?_cons_succ]
  show RS.wp (mLoop _ _ always (numD 0 (path.map dN)) _ _) _ _
  refine loop_wp (fun r ρ S' => S' = S ∧ ∃ (j : Nat) (lv pv a b c : Option D), r = numD j ((path.drop j).map dN) ∧ ρ = [some (.tup its), some (.tup (path.map dN)), lv, pv, a, b, c] ∧
    ((j % 2 = 0 ∧ ∃ it2, lv = some (.tup it2) ∧ subP it2 (path.drop j) = some d) ∨ (j % 2 = 1 ∧ (path.drop j = [] ∨ ∃ lab lots k r its2, path.drop j = k :: r ∧ pv = some (.tup [lab, .tup lots]) ∧ lots[k]? = some (.tup its2) ∧ subP its2 r = some d)))) (fun r ρ S' hI => rfl) (fun e r ρ S' hI => ?_) (fun ρ S' hI => ?_) _ _ _ ⟨rfl, 0, some (.tup its), some .non, none, none, none, rfl, rfl, .inl ⟨rfl, its, rfl, h⟩⟩
  · obtain ⟨rfl, j, lv, pv, a, b, c, h1, rfl, hc⟩ := hI
    obtain ⟨k, rest, hk⟩ : ∃ k rest, path.drop j = k :: rest := by
      cases hd : path.drop j with
      | nil => rw [hd] at h1; cases h1
      | cons k rest => exact ⟨k, rest, rfl⟩
    have hrest : path.drop (j + 1) = rest := by
      rw [← List.drop_drop, hk]
      rfl
    rw [hk] at h1
    have h1 : e :: r = D.tup [.int (j : Nat), dN k] :: numD (j + 1) (rest.map dN) := h1
    injection h1 with h1 h1'
    subst h1 h1'
    refine ⟨_, rfl, ?_⟩
    simp only [List.set_cons_zero, List.set_cons_succ]
    rw [s_seq, s_set, w_if, w_val]
    simp only [w_bin, w_var, w_c, List.getElem?_cons_zero, List.getElem?_cons_succ]
    rw [w_fI]
    refine ⟨by decide, ?_⟩
    rw [w_eq eqN_int]
    refine ⟨_, rfl, ?_⟩
    rcases hc with ⟨hj, it2, rfl, hs⟩ | ⟨hj, hs⟩
    · rw [if_pos (by rw [beq_iff_eq]; omega)]
      dsimp only
      rw [s_seq, s_if, w_tnot, w_val]
      simp only [w_cb, w_cons, w_nil, w_bin, w_var, w_c, List.getElem?_cons_zero, List.getElem?_cons_succ, List.set_cons_zero, List.set_cons_succ]
      rw [w_lenT, w_fI]
      refine ⟨rfl, ?_⟩
      rw [hk] at hs
      have hlt : k < it2.length := by
        cases rest with
        | nil => exact (List.getElem?_eq_some_iff.mp hs).1
        | cons k2 r2 =>
          obtain ⟨lab, lots, its2, g1, _, _⟩ := subP_two hs
          exact (List.getElem?_eq_some_iff.mp g1).1
      refine integer_wp hlt ⟨_, rfl, ?_⟩
      rw [if_neg (by decide), s_nil, s_if, w_val]
      simp only [w_bin, w_var, w_c, List.getElem?_cons_zero, List.getElem?_cons_succ]
      rw [w_fI]
      refine ⟨by decide, ?_⟩
      rw [w_eq eqN_int]
      refine ⟨_, rfl, ?_⟩
      rw [if_pos (by rw [beq_iff_eq]; omega), s_set]
      simp only [w_bin, w_var, List.getElem?_cons_zero, List.getElem?_cons_succ]
      rw [w_ixT]
      refine ⟨it2[k], atI_at (List.getElem?_eq_getElem hlt), rfl, j + 1, _, _, _, _, _, by rw [hrest], rfl, .inr ⟨by omega, ?_⟩⟩
      rw [hrest]
      cases rest with
      | nil => exact .inl rfl
      | cons k2 r2 =>
        obtain ⟨lab, lots, its2, g1, g2, g3⟩ := subP_two hs
        refine .inr ⟨lab, lots, k2, r2, its2, rfl, ?_, g2, g3⟩
        rw [List.getElem?_eq_getElem hlt] at g1
        exact g1
    · rw [if_neg (by rw [beq_iff_eq]; omega)]
      rcases hs with hs | ⟨lab, lots, k', r', its2, g1, rfl, g2, g3⟩
      · rw [hs] at hk
        cases hk
      · rw [hk] at g1
        injection g1 with g1 g1'
        subst g1 g1'
        dsimp only
        rw [w_ixT]
        refine ⟨.tup lots, atI_one _ _ _, ?_⟩
        rw [s_seq, s_if, w_tnot, w_val]
        simp only [w_cb, w_cons, w_nil, w_bin, w_var, w_c, List.getElem?_cons_zero, List.getElem?_cons_succ, List.set_cons_zero, List.set_cons_succ]
        rw [w_lenT, w_fI]
        refine ⟨rfl, ?_⟩
        have hlt := (List.getElem?_eq_some_iff.mp g2).1
        refine integer_wp hlt ⟨_, rfl, ?_⟩
        rw [if_neg (by decide), s_nil, s_if, w_val]
        simp only [w_bin, w_var, w_c, List.getElem?_cons_zero, List.getElem?_cons_succ]
        rw [w_fI]
        refine ⟨by decide, ?_⟩
        rw [w_eq eqN_int]
        refine ⟨_, rfl, ?_⟩
        rw [if_neg (by rw [beq_iff_eq]; omega), s_set]
        simp only [w_bin, w_var, List.getElem?_cons_zero, List.getElem?_cons_succ]
        rw [w_ixT]
        exact ⟨_, atI_at g2, rfl, j + 1, _, _, _, _, _, by rw [hrest], rfl, .inl ⟨by omega, its2, rfl, by rw [hrest]; exact g3⟩⟩
  · obtain ⟨rfl, _⟩ := hI
    rw [s_ret]
    exact q
end
end Mn

set_option Elab.async false
set_option linter.all false
set_option maxRecDepth 100000
set_option maxHeartbeats 4000000
/-! parts at paths; all parts. No program here. -/
namespace Mn
open PySem PySem.Spec PyProof.Rows L2
theorem range2 {m : Nat} (h : m < 1000000) : Builtin.Range.rangeSize 0 ((2 * m : Nat) : Int) 2 = m ∧ Builtin.Range.small 0 ((2 * m : Nat) : Int) 2 = true := by
  have e : Builtin.Range.rangeSize 0 ((2 * m : Nat) : Int) 2 = m := by
    unfold Builtin.Range.rangeSize
    rw [if_pos (by decide)]
    split
    · omega
    · omega
  have f : ∀ i : Int, 0 ≤ i → i < 10000000 → Builtin.Range.rangeFitsLong i = true := fun i h1 h2 => by
    unfold Builtin.Range.rangeFitsLong
    rw [decide_eq_true (by omega), decide_eq_true (by omega)]
    rfl
  refine ⟨e, ?_⟩
  unfold Builtin.Range.small
  rw [e, f 0 (by omega) (by omega), f _ (by omega) (by omega), f 2 (by omega) (by omega), f _ (by omega) (by omega), if_pos (by decide), f _ (by omega) (by omega), Bool.or_true]
  rfl
theorem range_drop (m i : Nat) (f : Nat → D) (h : i < m) : ((List.range m).map f).drop i = f i :: ((List.range m).map f).drop (i + 1) := by
  rw [List.drop_eq_getElem_cons (by rw [List.length_map, List.length_range]; exact h), List.getElem_map, List.getElem_range]
theorem i_range3 {ma : MA} {ρ : En} {S : Sto} {Q : It0 → Sto → Prop} : (iRange3 ma ρ S).wp Q ↔ (ma ρ S).wp fun ds S1 => ∃ i j c, ds = [.int i, .int j, .int c] ∧ rOk i j c = true ∧ Q ((List.range (Builtin.Range.rangeSize i j c).toNat).map fun k => .int (i + (k : Nat) * c), always) S1 := by
  unfold iRange3
  simp only [wp_bind]
  constructor <;> intro h <;> refine wp_mono h fun ds S h => ?_
  · split at h
    · rename_i i j c
      split at h
      · rename_i hj; exact ⟨i, j, c, rfl, hj, h⟩
      · exact h.elim
    · exact h.elim
  · obtain ⟨i, j, c, rfl, hj, h⟩ := h
    show Res.wp (if rOk i j c = true then _ else _) Q
    rw [if_pos hj]; exact h
section
variable {S : Sto} {Q : D → Sto → Prop}
theorem lot_at_wp0 {its : List D} {path : List Nat} {k m : Nat} {d : D} (hm : path.length = 2 * m) (r1 : Builtin.Range.rangeSize 0 ((2 * m : Nat) : Int) 2 = m) (r2 : Builtin.Range.small 0 ((2 * m : Nat) : Int) 2 = true) (h : subP its (path ++ [k]) = some d) (q : ∀ it2, it2[k]? = some d → Q (.tup it2) S) : (g_lot_at [.tup its, .tup (path.map dN)] S).wp Q := by
  unfold g_lot_at
  refine w_def rfl ?_
  rw [s_seq, s_set]
  simp only [w_var, List.map_cons, List.map_nil, List.length_cons, List.length_nil, List.cons_append, List.nil_append, List.getElem?_cons_zero, List.getElem?_cons_succ, List.reduceReplicate, Nat.reduceAdd, Nat.reduceSub, List.set_cons_zero, List.set_cons_succ]
  rw [s_seq, s_for]
  rw [i_range3]
  simp only [w_cb, w_cons, w_nil, w_var, w_c, List.getElem?_cons_zero, List.getElem?_cons_succ]
  rw [w_lenT, List.length_map, hm]
  refine ⟨_, _, _, rfl, rOk_iff.mpr ⟨by decide, by decide, r2, by rw [r1]; omega⟩, ?_⟩
  rw [r1, Int.toNat_natCast]
  show RS.wp (mLoop _ _ always _ _ _) _ _
  refine loop_wp (fun r ρ S' => S' = S ∧ ∃ (i : Nat) (it2 : List D) (v : Option D), i ≤ m ∧ r = ((List.range m).map fun k => D.int (0 + (k : Nat) * 2)).drop i ∧ ρ = [some (.tup its), some (.tup (path.map dN)), some (.tup it2), v] ∧ subP it2 ((path ++ [k]).drop (2 * i)) = some d) (fun r ρ S' hI => rfl) (fun e r ρ S' hI => ?_) (fun ρ S' hI => ?_) _ _ _ ⟨rfl, 0, its, none, Nat.zero_le _, rfl, rfl, h⟩
  · obtain ⟨rfl, i, it2, v, hi, h1, rfl, hs⟩ := hI
    have him : i < m := by
      have := congrArg List.length h1
      rw [List.length_drop, List.length_map, List.length_range, List.length_cons] at this
      omega
    rw [range_drop m i _ him] at h1
    injection h1 with h1 h1'
    subst h1 h1'
    refine ⟨_, rfl, ?_⟩
    simp only [List.set_cons_zero, List.set_cons_succ]
    obtain ⟨a, ha⟩ : ∃ a, path[2 * i]? = some a := ⟨_, List.getElem?_eq_getElem (by omega)⟩
    obtain ⟨b, hb⟩ : ∃ b, path[2 * i + 1]? = some b := ⟨_, List.getElem?_eq_getElem (by omega)⟩
    have hd : (path ++ [k]).drop (2 * i) = a :: b :: (path ++ [k]).drop (2 * (i + 1)) := by
      have e1 : (path ++ [k])[2 * i]? = some a := by rw [List.getElem?_append_left (by omega)]; exact ha
      have e2 : (path ++ [k])[2 * i + 1]? = some b := by rw [List.getElem?_append_left (by omega)]; exact hb
      have l1 := (List.getElem?_eq_some_iff.mp e1)
      have l2 := (List.getElem?_eq_some_iff.mp e2)
      rw [List.drop_eq_getElem_cons l1.1, List.drop_eq_getElem_cons l2.1, l1.2, l2.2]
      rw [show 2 * i + 1 + 1 = 2 * (i + 1) by omega]
    rw [hd] at hs
    obtain ⟨lab, lots, its2, g1, g2, g3⟩ := subP_two hs
    rw [s_set]
    simp only [w_bin, w_var, w_c, List.getElem?_cons_zero, List.getElem?_cons_succ]
    rw [w_ixT]
    have at1 : atI (path.map dN) (0 + (i : Nat) * 2) = some (dN a) := by
      rw [show (0 + ((i : Nat) : Int) * 2) = ((2 * i : Nat) : Int) by omega]
      refine atI_at ?_
      rw [List.getElem?_map, ha]
      rfl
    have at2 : atI (path.map dN) (0 + (i : Nat) * 2 + 1) = some (dN b) := by
      rw [show (0 + ((i : Nat) : Int) * 2 + 1) = ((2 * i + 1 : Nat) : Int) by omega]
      refine atI_at ?_
      rw [List.getElem?_map, hb]
      rfl
    refine ⟨_, at1, ?_⟩
    rw [w_ixT]
    refine ⟨_, atI_at g1, ?_⟩
    rw [w_ixT]
    refine ⟨_, atI_one _ _ _, ?_⟩
    rw [w_addI, w_ixT]
    refine ⟨_, at2, ?_⟩
    rw [w_ixT]
    exact ⟨_, atI_at g2, rfl, i + 1, its2, _, by omega, rfl, rfl, g3⟩
  · obtain ⟨rfl, i, it2, v, hi, h1, rfl, hs⟩ := hI
    have him : i = m := by
      have := congrArg List.length h1
      rw [List.length_drop, List.length_map, List.length_range, List.length_nil] at this
      omega
    subst him
    rw [s_ret]
    simp only [w_var, List.getElem?_cons_zero, List.getElem?_cons_succ]
    rw [← hm, List.drop_left] at hs
    exact q it2 hs
theorem lot_at_wp {its : List D} {path : List Nat} {k : Nat} {d : D} (hp : path.length < 1000000) (h : subP its (path ++ [k]) = some d) (q : ∀ it2, it2[k]? = some d → Q (.tup it2) S) : (g_lot_at [.tup its, .tup (path.map dN)] S).wp Q := by
  have odd := subP_odd h
  rw [List.length_append, List.length_singleton] at odd
  have r := range2 (m := path.length / 2) (by omega)
  exact lot_at_wp0 (m := path.length / 2) (by omega) r.1 r.2 h q
theorem w_slT {ds : List D} {lo hi : Option Int} : (fSl (.tup ds) lo hi S).wp Q ↔ Q (.tup (cutD ds lo hi)) S := Iff.rfl
theorem w_neg {i : Int} : (fNeg (.int i) S).wp Q ↔ Q (.int (-i)) S := Iff.rfl
theorem check_wp {it : F} {t : D} (h : ∀ Q : D → Sto → Prop, (∀ l, Q (.bl true) (S ++ l)) → (it [t] S).wp Q) (q : ∀ l, Q .non (S ++ l)) : (g_check_tree it [t] S).wp Q := by
  unfold g_check_tree
  refine w_def rfl ?_
  rw [s_if, w_tnot, w_val]
  simp only [w_cb, w_cons, w_nil, w_var, List.map_cons, List.map_nil, List.length_cons, List.length_nil, List.cons_append, List.nil_append, List.getElem?_cons_zero, List.getElem?_cons_succ, List.reduceReplicate, Nat.reduceAdd, Nat.reduceSub]
  refine h _ fun l => ⟨_, rfl, ?_⟩
  rw [if_neg (by decide), s_nil]
  exact q l
theorem part_at_wp {it : F} {its : List D} {path : List Nat} {d : D} (hit : ∀ Q : D → Sto → Prop, (∀ l, Q (.bl true) (S ++ l)) → (it [.tup its] S).wp Q) (hp : path.length < 1000000) (h : subP its path = some d) (q : ∀ l, Q d (S ++ l)) : (g_part_at (g_check_tree it) (g_leads g_is_integer) g_lot_at [.tup its, .tup (path.map dN)] S).wp Q := by
  have hne : path ≠ [] := fun e => by rw [e] at h; cases h
  have hpk := (List.dropLast_concat_getLast hne).symm
  generalize path.dropLast = p0 at hpk
  generalize path.getLast hne = k at hpk
  subst hpk
  rw [List.length_append, List.length_singleton] at hp
  unfold g_part_at
  refine w_def rfl ?_
  rw [s_seq, s_drop]
  simp only [w_cb, w_cons, w_nil, w_var, List.map_cons, List.map_nil, List.length_cons, List.length_nil, List.cons_append, List.nil_append, List.getElem?_cons_zero, List.getElem?_cons_succ, List.reduceReplicate, Nat.reduceAdd, Nat.reduceSub]
  refine check_wp hit fun l => ?_
  rw [s_seq, s_if, w_tnot, w_val]
  simp only [w_cb, w_cons, w_nil, w_var, List.getElem?_cons_zero, List.getElem?_cons_succ]
  refine leads_wp (by rw [List.length_append, List.length_singleton]; exact hp) h ⟨_, rfl, ?_⟩
  rw [if_neg (by decide), s_nil, s_ret]
  simp only [w_bin, w_cb, w_cons, w_nil, w_var, w_sl, w_onone, w_osome, w_un, w_c, List.getElem?_cons_zero, List.getElem?_cons_succ]
  rw [w_neg]
  refine ⟨-1, rfl, ?_⟩
  rw [w_slT]
  have ec : cutD ((p0 ++ [k]).map dN) none (some (-1)) = p0.map dN := by
    have lk : ((p0 ++ [k]).map dN).length = p0.length + 1 := by rw [List.length_map, List.length_append]; rfl
    unfold cutD
    rw [lk]
    have e1 : HT.sIx (p0.length + 1) 0 none = 0 := rfl
    have e2 : HT.sIx (p0.length + 1) (p0.length + 1) (some (-1)) = p0.length := by
      show (if (-1 : Int) < 0 then ((-1 : Int) + ((p0.length + 1 : Nat) : Int)).toNat else min (-1 : Int).toNat (p0.length + 1)) = _
      rw [if_pos (by decide)]
      omega
    rw [e1, e2, List.drop_zero, Nat.sub_zero, List.map_append]
    have := List.take_left (l₁ := p0.map dN) (l₂ := [k].map dN)
    rw [List.length_map] at this
    exact this
  rw [ec]
  refine lot_at_wp (by omega) h fun it2 h2 => ?_
  rw [w_neg, w_ixT]
  refine ⟨dN k, ?_, ?_⟩
  · unfold atI ixN
    rw [if_neg (by decide), List.length_map, List.length_append, List.length_singleton]
    rw [if_pos (by omega)]
    show ((p0 ++ [k]).map dN)[_]? = _
    rw [show (-1 + ((p0.length + 1 : Nat) : Int)).toNat = p0.length by omega, List.getElem?_map, List.getElem?_append_right (Nat.le_refl _), Nat.sub_self]
    rfl
  · rw [w_ixT]
    exact ⟨d, atI_at h2, q l⟩
end
/-! ### all parts -/
def TrailsOk (n : Nat) (f : F) : Prop := ∀ (its : List D) (ah : List Nat) (p w W h : Nat) (S : Sto) (Q : D → Sto → Prop), (∀ d ∈ its, Pt1 n d) → Vls p 0 w W h S its → its.length ≤ w → w < 1000000 → W < 1000000 → ah.length + 2 * n + 2 < 1000000 → (∀ xs l, xs.length ≤ W → (∀ x ∈ xs, ∃ (path : List Nat) (d : D), x = .tup [.tup ((ah ++ path).map dN), d] ∧ subP its path = some d ∧ path.length ≤ 2 * n + 1) → Q (.ref S.length) (S ++ (.lst xs :: l))) → (f [.tup its, .tup (ah.map dN)] S).wp Q
theorem w_extNew {xs ys : List D} {S : Sto} {l l2 : List Ob} {Q : D → Sto → Prop} (h : xs.length + ys.length ≤ sizeLine) (q : Q .non (S ++ (.lst (xs ++ ys) :: (l ++ (.lst ys :: l2))))) : (fExtend (.ref S.length) [.ref (S ++ (Ob.lst xs :: l)).length] ((S ++ (Ob.lst xs :: l)) ++ (.lst ys :: l2))).wp Q := by
  have h1 : ((S ++ (Ob.lst xs :: l)) ++ (Ob.lst ys :: l2))[S.length]? = some (.lst xs) := by
    rw [List.append_assoc, List.getElem?_append_right (Nat.le_refl _), Nat.sub_self]
    rfl
  have h2 : ((S ++ (Ob.lst xs :: l)) ++ (Ob.lst ys :: l2))[(S ++ (Ob.lst xs :: l)).length]? = some (.lst ys) := by
    rw [List.getElem?_append_right (Nat.le_refl _), Nat.sub_self]
    rfl
  rw [w_extend h1 h2]
  refine ⟨h, ?_⟩
  rw [List.append_assoc, List.set_append_right _ _ (Nat.le_refl _), Nat.sub_self]
  exact q
theorem trails_succ {n : Nat} {f : F} (hf : TrailsOk n f) : TrailsOk (n + 1) (g_w_trails f) := by
  intro its ah p w W h S Q hp hv hil hw hW hah q
  have big := sl6
  unfold g_w_trails
  refine w_def rfl ?_
  rw [s_seq, s_set]
  simp only [w_lst, w_nil, List.map_cons, List.map_nil, List.length_cons, List.length_nil, List.cons_append, List.nil_append, List.reduceReplicate, Nat.reduceAdd, Nat.reduceSub]
  refine ⟨by omega, ?_⟩
  simp only [List.set_cons_zero, List.set_cons_succ]
  rw [s_seq, s_for]
  unfold iEnum2
  rw [wp_bind, w_cons, w_var]
  simp only [w_nil, List.getElem?_cons_zero, List.getElem?_cons_succ]
  show RS.wp (mLoop _ _ always (numD 0 its) _ _) _ _
  have P0 : ∀ x ∈ ([] : List D), ∃ (path : List Nat) (d : D), x = .tup [.tup ((ah ++ path).map dN), d] ∧ subP its path = some d ∧ path.length ≤ 2 * (n + 1) + 1 := fun x hx => by cases hx
  refine loop_wp (fun r ρ S' => ∃ (done rest xs : List D) (l : List Ob) (W' : Nat) (a b c e : Option D), done ++ rest = its ∧ r = numD done.length rest ∧ ρ = [some (.tup its), some (.tup (ah.map dN)), some (.ref S.length), a, b, c, e] ∧ S' = S ++ (.lst xs :: l) ∧ Vls p 0 w W' h S rest ∧ xs.length + W' ≤ W ∧ (∀ x ∈ xs, ∃ (path : List Nat) (d : D), x = .tup [.tup ((ah ++ path).map dN), d] ∧ subP its path = some d ∧ path.length ≤ 2 * (n + 1) + 1)) (fun r ρ S' hI => rfl) (fun e r ρ S' hI => ?_) (fun ρ S' hI => ?_) _ _ _ ⟨[], its, [], [], W, none, none, none, none, rfl, rfl, rfl, rfl, hv, Nat.le_of_eq (Nat.zero_add _), P0⟩
  · obtain ⟨done, rest, xs, l, W', a, b, c, e', h1, h2, rfl, rfl, h5, h6, h7⟩ := hI
    cases rest with
    | nil => cases h2
    | cons d rest =>
      have h2 : e :: r = D.tup [.int (done.length : Nat), d] :: numD (done.length + 1) rest := h2
      injection h2 with h2 h2'
      subst h2 h2'
      refine ⟨_, rfl, ?_⟩
      simp only [List.set_cons_zero, List.set_cons_succ]
      have hdn : its[done.length]? = some d := by
        rw [← h1, List.getElem?_append_right (Nat.le_refl _), Nat.sub_self]
        rfl
      obtain ⟨W1, W2, hWW, v1, v2⟩ := h5.uncons
      obtain ⟨kinds, hk⟩ := hp d (by rw [← h1]; simp)
      obtain ⟨k, r', lots, rfl, hlots⟩ := part_lots hk
      -- the lots' weight
      obtain ⟨_, _, v3⟩ := v1.untup
      obtain ⟨Wa, Wb, hab, _, v4⟩ := v3.uncons
      obtain ⟨Wc, Wd, hcd, v5, _⟩ := v4.uncons
      obtain ⟨hll, _, v6⟩ := v5.untup
      rw [s_seq, s_drop, w_mt]
      simp only [w_cons, w_tup, w_bin, w_nil, w_var, List.getElem?_cons_zero, List.getElem?_cons_succ, List.length_cons, List.length_nil]
      have hn : (S ++ (Ob.lst xs :: l))[S.length]? = some (.lst xs) := by
        rw [List.getElem?_append_right (Nat.le_refl _), Nat.sub_self]
        rfl
      refine ⟨by show kOb _ = _; rw [hn]; rfl, by omega, ?_⟩
      rw [w_addT, List.length_map]
      refine ⟨by show ah.length + 1 ≤ _; omega, by omega, ?_⟩
      rw [w_app hn]
      refine ⟨by omega, ?_⟩
      rw [List.set_append_right _ _ (Nat.le_refl _), Nat.sub_self]
      rw [s_for, wp_bind, w_cons, w_bin, w_var]
      simp only [w_nil, w_c, List.getElem?_cons_zero, List.getElem?_cons_succ]
      rw [w_ixT]
      refine ⟨.tup lots, atI_one _ _ _, ?_⟩
      show RS.wp (mLoop _ _ always (numD 0 lots) _ _) _ _
      have hone : ∀ x ∈ xs ++ [D.tup [.tup (ah.map dN ++ [.int (done.length : Nat)]), .tup [.tup (.str k :: r'), .tup lots]]], ∃ (path : List Nat) (d : D), x = .tup [.tup ((ah ++ path).map dN), d] ∧ subP its path = some d ∧ path.length ≤ 2 * (n + 1) + 1 := fun x hx => by
        rcases List.mem_append.mp hx with hx | hx
        · exact h7 x hx
        · rw [List.mem_singleton.mp hx]
          exact ⟨[done.length], _, by rw [List.map_append]; rfl, hdn, by show 1 ≤ _; omega⟩
      refine loop_wp (fun r ρ S' => ∃ (dn rs xs : List D) (l : List Ob) (W3 : Nat) (c e : Option D), dn ++ rs = lots ∧ r = numD dn.length rs ∧ ρ = [some (.tup its), some (.tup (ah.map dN)), some (.ref S.length), some (.int (done.length : Nat)), some (.tup [.tup (.str k :: r'), .tup lots]), c, e] ∧ S' = S ++ (.lst xs :: l) ∧ Vls p 0 w W3 (h - 1 - 1) S rs ∧ xs.length + W3 + W2 ≤ W ∧ (∀ x ∈ xs, ∃ (path : List Nat) (d : D), x = .tup [.tup ((ah ++ path).map dN), d] ∧ subP its path = some d ∧ path.length ≤ 2 * (n + 1) + 1)) (fun r ρ S' hI => rfl) (fun e r ρ S' hI => ?_) (fun ρ S' hI => ?_) _ _ _ ⟨[], lots, _, _, Wc, _, _, rfl, rfl, rfl, rfl, v6, by rw [List.length_append, List.length_singleton]; omega, hone⟩
      · obtain ⟨dn, rs, xs, l, W3, c, e', g1, g2, rfl, rfl, g5, g6, g7⟩ := hI
        cases rs with
        | nil => cases g2
        | cons lt rs =>
          have g2 : e :: r = D.tup [.int (dn.length : Nat), lt] :: numD (dn.length + 1) rs := g2
          injection g2 with g2 g2'
          subst g2 g2'
          refine ⟨_, rfl, ?_⟩
          simp only [List.set_cons_zero, List.set_cons_succ]
          have hlt : lots[dn.length]? = some lt := by
            rw [← g1, List.getElem?_append_right (Nat.le_refl _), Nat.sub_self]
            rfl
          obtain ⟨it2, rfl, hit2⟩ := hlots lt (by rw [← g1]; simp)
          obtain ⟨W4, W5, hW5, u1, u2⟩ := g5.uncons
          obtain ⟨u3, _, u4⟩ := u1.untup
          have hn : (S ++ (Ob.lst xs :: l))[S.length]? = some (.lst xs) := by
            rw [List.getElem?_append_right (Nat.le_refl _), Nat.sub_self]
            rfl
          rw [s_drop, w_mt]
          simp only [w_cons, w_cb, w_tup, w_bin, w_nil, w_var, List.getElem?_cons_zero, List.getElem?_cons_succ, List.length_cons, List.length_nil]
          refine ⟨by show kOb _ = _; rw [hn]; rfl, by omega, ?_⟩
          rw [w_addT, List.length_map]
          refine ⟨by show ah.length + 2 ≤ _; omega, ?_⟩
          have ea : ah.map dN ++ [D.int (done.length : Nat), .int (dn.length : Nat)] = (ah ++ [done.length, dn.length]).map dN := by
            rw [List.map_append]
            rfl
          rw [ea]
          refine hf it2 (ah ++ [done.length, dn.length]) p w W4 _ _ _ hit2 (u4.ext ((Ext.refl p S).app _)) u3 hw (by omega) (by rw [List.length_append]; show ah.length + 2 + 2 * n + 2 < _; omega) fun ys l2 y1 y2 => ?_
          refine w_extNew (by omega) ?_
          refine ⟨dn ++ [.tup it2], rs, xs ++ ys, l ++ (.lst ys :: l2), W5, _, _, by rw [List.append_assoc]; exact g1, by rw [List.length_append]; rfl, rfl, rfl, u2, by rw [List.length_append]; omega, fun x hx => ?_⟩
          rcases List.mem_append.mp hx with hx | hx
          · exact g7 x hx
          · obtain ⟨path, dd, e1, e2, e3⟩ := y2 x hx
            refine ⟨done.length :: dn.length :: path, dd, ?_, ?_, by rw [List.length_cons, List.length_cons]; omega⟩
            · rw [e1, List.append_assoc]
              rfl
            · rw [subP_mk hdn hlt]
              exact e2
      · obtain ⟨dn, rs, xs, l, W3, c, e', g1, g2, rfl, rfl, g5, g6, g7⟩ := hI
        refine ⟨done ++ [.tup [.tup (.str k :: r'), .tup lots]], rest, xs, l, W2, _, _, _, _, by rw [List.append_assoc]; exact h1, by rw [List.length_append]; rfl, rfl, rfl, v2, by omega, g7⟩
  · obtain ⟨done, rest, xs, l, W', a, b, c, e', h1, h2, rfl, rfl, h5, h6, h7⟩ := hI
    rw [s_ret]
    simp only [w_var, List.getElem?_cons_zero, List.getElem?_cons_succ]
    exact q xs l (by omega) h7
theorem trails_zero {f : F} : TrailsOk 0 (g_w_trails f) := by
  intro its ah p w W h S Q hp hv hil hw hW hah q
  have big := sl6
  have hnil : its = [] := by
    cases its with
    | nil => rfl
    | cons d r =>
      obtain ⟨kinds, hk⟩ := hp d List.mem_cons_self
      cases hk
  unfold g_w_trails
  refine w_def rfl ?_
  rw [s_seq, s_set]
  simp only [w_lst, w_nil, List.map_cons, List.map_nil, List.length_cons, List.length_nil, List.cons_append, List.nil_append, List.reduceReplicate, Nat.reduceAdd, Nat.reduceSub]
  refine ⟨by omega, ?_⟩
  simp only [List.set_cons_zero, List.set_cons_succ]
  rw [s_seq, s_for]
  unfold iEnum2
  rw [wp_bind, w_cons, w_var]
  simp only [w_nil, List.getElem?_cons_zero, List.getElem?_cons_succ]
  show RS.wp (mLoop _ _ always (numD 0 its) _ _) _ _
  refine loop_wp (fun r ρ S' => r = [] ∧ ρ = [some (.tup its), some (.tup (ah.map dN)), some (.ref S.length), none, none, none, none] ∧ S' = S ++ [.lst []]) (fun r ρ S' hI => rfl) (fun e r ρ S' hI => by cases hI.1) (fun ρ S' hI => ?_) _ _ _ ⟨by rw [hnil]; rfl, rfl, rfl⟩
  obtain ⟨_, rfl, rfl⟩ := hI
  rw [s_ret]
  simp only [w_var, List.getElem?_cons_zero, List.getElem?_cons_succ]
  exact q [] [] (Nat.zero_le _) fun x hx => by cases hx
theorem trails_all {T : Nat → F} (h : ∀ k, T (k + 1) = g_w_trails (T k)) : ∀ n k, n + 1 ≤ k → TrailsOk n (T k)
  | 0, k, hk => by
    obtain ⟨m, rfl⟩ : ∃ m, k = m + 1 := ⟨k - 1, by omega⟩
    rw [h]
    exact trails_zero
  | n + 1, k, hk => by
    obtain ⟨m, rfl⟩ : ∃ m, k = m + 1 := ⟨k - 1, by omega⟩
    rw [h]
    exact trails_succ (trails_all h n m (by omega))
end Mn

set_option Elab.async false
set_option linter.all false
set_option maxRecDepth 100000
set_option maxHeartbeats 4000000
/-! what is read is a tree; texts by pieces. No program here. -/
namespace Mn
open PySem PySem.Spec PyProof.Rows L2
theorem partz {p r w W : Nat} {cl c : F} : PartOk 0 0 p r w W (g_is_part cl c) := by
  intro kinds S d Q hk v q
  have q0 := q []
  rw [List.append_nil] at q0
  have sv := v.sv
  unfold g_is_part
  refine w_def rfl ?_
  rw [s_seq, s_if]
  simp only [w_tor, w_tnot, w_val, w_isi, w_bin, w_cb, w_cons, w_nil, w_var, w_c, s_ret, s_nil, List.map_cons, List.map_nil, List.length_cons, List.length_nil, List.cons_append, List.nil_append, List.getElem?_cons_zero, List.getElem?_cons_succ, List.reduceReplicate, Nat.reduceAdd, Nat.reduceSub]
  refine ⟨sv.k, _, rfl, ?_⟩
  rw [sv.isT]
  cases d with
  | tup items => obtain ⟨_, h1, _⟩ := v.untup; omega
  | _ =>
    simp only [Bool.not_false, Bool.not_true, Bool.false_eq_true, if_true, if_false, Bool.and_true, Bool.true_and, Bool.false_and, Bool.and_false, Bool.or_true, Bool.true_or, Bool.or_false, Bool.false_or]
    exact q0
/-- the program's look at parts, so many calls deep -/
theorem parts_look {lab pt lt : Nat → F} (e1 : ∀ k, 3 ≤ k → lab k = fLab) (e2 : ∀ k, pt (k + 1) = g_is_part (lab k) (lt k)) (e3 : ∀ k, lt (k + 1) = g_is_lot (pt k)) {p r w W : Nat} (hw : w < sizeLine) (hW : W < sizeLine) : ∀ n k, 2 * n + 4 ≤ k → PartOk n (3 * n) p r w W (pt k)
  | 0, k, hk => by
    obtain ⟨k', rfl⟩ : ∃ k', k = k' + 1 := ⟨k - 1, by omega⟩
    rw [e2]
    exact partz
  | n + 1, k, hk => by
    obtain ⟨k', rfl⟩ : ∃ k', k = k' + 1 + 1 := ⟨k - 2, by omega⟩
    rw [e2, e1 _ (by omega), e3]
    exact part_of hw hW (lot_of hw hW (parts_look e1 e2 e3 hw hW n k' (by omega)))
theorem repr_ext {p r w W h : Nat} {S S' : Sto} {d : D} (v : Vl p r w W h S d) (x : Ext p S S') (hr : r ≤ 40) : pyD S' d = pyD S d := by
  obtain ⟨q, e, g⟩ := v
  have e1 : pyD S d = some q := pyG_mono (fun n y z => pyF_le hr n y (pvF_pyF r n y z)) e
  have e2 : pyD S' d = some q := pyG_mono (fun n y z => pyF_le hr n y (pvF_pyF r n y z)) (pyG_mono (pvF_ext x r) e)
  rw [e1, e2]
/-- is_tree of what is read -/
theorem tree_true {n : Nat} {pt : F} (P : ∀ p w W, w < sizeLine → W < sizeLine → PartOk n (3 * n) p 0 w W pt) {ss : List St} {ts : List Str} (ht : St.tks ss ts) (hn : St.hts ss ≤ n) (hl : ts.length ≤ 20000) {S : Sto} (Q : D → Sto → Prop) (q : ∀ l, Q (.bl true) (S ++ l)) : (g_is_tree (g_is_lot pt) [.tup (St.ds ss)] S).wp Q := by
  have big : 2000000 < sizeLine := by rw [sizeLine_eq]; decide
  unfold g_is_tree
  refine w_def rfl ?_
  rw [s_ret, w_cb]
  simp only [w_cons, w_nil, w_var, w_c, List.map_cons, List.map_nil, List.length_cons, List.length_nil, List.cons_append, List.nil_append, List.getElem?_cons_zero, List.getElem?_cons_succ, List.reduceReplicate, Nat.reduceAdd, Nat.reduceSub]
  have v : Vl 0 0 20000 1200000 (3 * n + 1) S (.tup (St.ds ss)) := by
    have v := sts_vl (p := 0) (w := 20000) (S := S) (by decide) ss ts ht hl
    refine (v.tup (by rw [stds_len]; have := stks_len ht; omega)).le (Nat.le_refl _) (Nat.le_refl _) (by omega) (by omega)
  have L := lot_of (by omega) (by omega) (P 0 20000 1200000 (by omega) (by omega))
  refine L "a block" S _ Q (by decide +kernel) v ?_
  have e : lotB n "a block" (.tup (St.ds ss)) = true := lotBl (sts_part ss ts ht n hn)
  rw [e]
  exact q
/-! ### bounds for the reader -/
theorem sorts3 (k : Str) : (sortsOf k).length ≤ 3 := by
  have h : (lotsL.all fun q => decide (q.2.length ≤ 3)) = true := by decide +kernel
  unfold sortsOf
  cases e : lotsL.find? fun q => decide (q.1 = k) with
  | none => exact Nat.zero_le _
  | some q => exact of_decide_eq_true (List.all_eq_true.mp h q (List.mem_of_find?_eq_some e))
theorem wd_of {p w : Nat} {S : Sto} (hw : w < 1000000) : ∀ (n m : Nat) (W h : Nat) (kinds : List Str) (d : D), partB m kinds d = true → Vl p 0 w W h S d → wd n d = true
  | 0, _, _, _, _, _, _, _ => rfl
  | n + 1, 0, _, _, _, _, h, _ => by cases h
  | n + 1, m + 1, W, h, kinds, d, hp, v => by
    obtain ⟨k, r, lots, rfl, hlots⟩ := part_lots hp
    have h3 : lots.length ≤ 3 := by
      unfold partB at hp
      rw [Bool.and_eq_true, Bool.and_eq_true, Bool.and_eq_true] at hp
      have := of_decide_eq_true hp.2.2.1
      have := sorts3 k
      omega
    obtain ⟨_, _, v1⟩ := v.untup
    obtain ⟨_, _, _, _, v2⟩ := v1.uncons
    obtain ⟨_, _, _, v3, _⟩ := v2.uncons
    obtain ⟨_, _, v4⟩ := v3.untup
    show (decide (lots.length ≤ 3) && lots.all fun l => match l with
    | .tup es => decide (es.length < 1000000) && es.all (wd n)
    | _ => false) = true
    rw [decide_eq_true h3, Bool.true_and, List.all_eq_true]
    intro l hl
    obtain ⟨items, rfl, hi⟩ := hlots l hl
    have v5 := v4.mem hl
    obtain ⟨hil, _, v6⟩ := v5.untup
    show (decide (items.length < 1000000) && items.all (wd n)) = true
    rw [decide_eq_true (by omega), Bool.true_and, List.all_eq_true]
    intro x hx
    obtain ⟨kk, hk⟩ := hi x hx
    exact wd_of hw n m _ _ kk x hk (v6.mem hx)
theorem sts_wd {ss : List St} {ts : List Str} (ht : St.tks ss ts) (hl : ts.length ≤ 20000) (n : Nat) : (St.ds ss).all (wd n) = true := by
  have v := sts_vl (p := 0) (w := 20000) (S := []) (by decide) ss ts ht hl
  rw [List.all_eq_true]
  intro d hd
  exact wd_of (by decide) n _ _ _ _ d (sts_part ss ts ht _ (Nat.le_refl _) d hd) (v.mem hd)
/-! ### texts by rows -/
theorem split_rows {x : Str} {rows : List (List Nat)} (h : x.cps.toList = TL.joinL [10] rows) (hne : rows ≠ []) (hf : ∀ r ∈ rows, 10 ∉ r) : Txt.split x "\n" = rows.map fun r => (⟨r.toArray⟩ : Str) := by
  have e : x = ⟨(TL.joinL [10] rows).toArray⟩ := str_ext (by rw [h])
  rw [e]
  have s := TL.split_spl (⟨(TL.joinL [10] rows).toArray⟩ : Str) ("\n" : Str) (by decide +kernel) (TL.kind_ok (by decide +kernel))
  have s : (Txt.split (⟨(TL.joinL [10] rows).toArray⟩ : Str) "\n").map TL.tl = TL.spl [10] 0 [] (TL.joinL [10] rows) := s
  rw [TL.spl_join hne hf] at s
  have back : ∀ l : List Str, l = (l.map TL.tl).map fun r => (⟨r.toArray⟩ : Str) := fun l => by
    rw [List.map_map]
    exact (List.map_id' l).symm
  rw [back (Txt.split _ _), s]
/-- rows: signs with words -/
def RowsOk (rows : List (List Nat × List Str)) : Prop := ∀ p ∈ rows, Lx p.1 p.2 ∧ p.1.length < 1000000 ∧ 10 ∉ p.1
theorem txw_mk {x : Str} {rows : List (List Nat × List Str)} (h : x.cps.toList = TL.joinL [10] (rows.map (·.1))) (hne : rows ≠ []) (hr : RowsOk rows) (hx : x.length < 1000000) (hW : ((rows.map (·.2)).flatten).length < 1000000) : TxW x (rows.map (·.2)).flatten := by
  refine ⟨hx, hW, rows.map fun p => ((⟨p.1.toArray⟩ : Str), p.2), ?_, fun p hp => ?_, ?_⟩
  · rw [split_rows h (by intro e; exact hne (List.map_eq_nil_iff.mp e)) (fun r hr2 => by
      obtain ⟨p, hp, rfl⟩ := List.mem_map.mp hr2
      exact (hr p hp).2.2)]
    rw [List.map_map, List.map_map]
    rfl
  · obtain ⟨q, hq, rfl⟩ := List.mem_map.mp hp
    refine ⟨(hr q hq).1, ?_⟩
    show q.1.toArray.size < _
    rw [List.size_toArray]
    exact (hr q hq).2.1
  · rw [List.map_map]
    rfl
/-! ### rows by pieces -/
def runB (x : Str) : Bool := !x.cps.toList.isEmpty && x.cps.toList.all anB
def sgB (x : Str) : Bool := match x.cps.toList with
  | [c] => !anB c && (decide (c ≠ 32) && (decide (c ≠ 35) && decide (c ≠ 10)))
  | _ => false
theorem sgB_of {x : Str} (h : sgB x = true) : ∃ c, x.cps.toList = [c] ∧ anB c = false ∧ c ≠ 32 ∧ c ≠ 35 ∧ c ≠ 10 := by
  unfold sgB at h
  split at h
  · rename_i c e
    rw [Bool.and_eq_true, Bool.and_eq_true, Bool.and_eq_true, Bool.not_eq_true'] at h
    exact ⟨c, e, h.1, of_decide_eq_true h.2.1, of_decide_eq_true h.2.2.1, of_decide_eq_true h.2.2.2⟩
  · cases h
/-- a piece: 0 a blank, 1 letters and digits, 2 one sign -/
def kdB : Nat → Str → Bool
  | 0, x => decide (x = " ")
  | 1, x => runB x
  | _ + 2, x => sgB x
def okK : List (Nat × Str) → Bool
  | [] => true
  | [_] => true
  | p :: q :: r => !(p.1 == 1 && q.1 == 1) && okK (q :: r)
def flat : List (Nat × Str) → List Nat
  | [] => []
  | p :: r => p.2.cps.toList ++ flat r
def words : List (Nat × Str) → List Str
  | [] => []
  | p :: r => if p.1 = 0 then words r else p.2 :: words r
theorem kd_head {k : Nat} {x : Str} (h : kdB k x = true) (hk : k ≠ 1) : ∃ c r, x.cps.toList = c :: r ∧ anB c = false := by
  match k, hk with
  | 0, _ =>
    have h : decide (x = " ") = true := h
    rw [of_decide_eq_true h]
    exact ⟨32, [], rfl, by decide +kernel⟩
  | k + 2, _ =>
    obtain ⟨c, e, h1, _⟩ := sgB_of h
    exact ⟨c, [], e, h1⟩
theorem lx_pieces {tl : List Nat} {tw : List Str} (ht : Lx tl tw) (hh : ∀ d, tl.head? = some d → anB d = false) : ∀ ps : List (Nat × Str), (ps.all fun p => kdB p.1 p.2) = true → okK ps = true → Lx (flat ps ++ tl) (words ps ++ tw)
  | [], _, _ => ht
  | p :: r, h, ok => by
    rw [List.all_cons, Bool.and_eq_true] at h
    have okr : okK r = true := by
      cases r with
      | nil => rfl
      | cons q r =>
        have ok : (!(p.1 == 1 && q.1 == 1) && okK (q :: r)) = true := ok
        rw [Bool.and_eq_true] at ok
        exact ok.2
    have ih := lx_pieces ht hh r h.2 okr
    have hp := h.1
    obtain ⟨k, x⟩ := p
    match k with
    | 0 =>
      have hp : decide (x = " ") = true := hp
      rw [of_decide_eq_true hp]
      exact Lx.blank ih
    | 1 =>
      have hp : (!x.cps.toList.isEmpty && x.cps.toList.all anB) = true := hp
      rw [Bool.and_eq_true] at hp
      cases hx : x.cps.toList with
      | nil => rw [hx] at hp; cases hp.1
      | cons c u =>
        rw [hx, List.all_cons, Bool.and_eq_true] at hp
        have nh : ∀ d, (flat r ++ tl).head? = some d → anB d = false := by
          cases r with
          | nil => exact hh
          | cons q r =>
            have hq : kdB q.1 q.2 = true := by
              have := h.2
              rw [List.all_cons, Bool.and_eq_true] at this
              exact this.1
            have ok : (!((1 : Nat) == 1 && q.1 == 1) && okK (q :: r)) = true := ok
            rw [Bool.and_eq_true, Bool.not_eq_true'] at ok
            have hne : q.1 ≠ 1 := by
              intro e
              rw [e] at ok
              cases ok.1
            obtain ⟨c', r', e, hc⟩ := kd_head hq hne
            intro d hd
            have hd : (q.2.cps.toList ++ flat r ++ tl).head? = some d := hd
            rw [e] at hd
            injection hd with hd
            rw [← hd]
            exact hc
        have ex : x = ⟨(c :: u).toArray⟩ := str_ext (by rw [hx])
        have eu : flat ((1, x) :: r) ++ tl = c :: (u ++ (flat r ++ tl)) := by
          show x.cps.toList ++ flat r ++ tl = _
          rw [hx, List.append_assoc]
          rfl
        rw [eu]
        show Lx _ (x :: (words r ++ tw))
        rw [ex]
        exact Lx.run hp.2.1 (fun d hd => List.all_eq_true.mp hp.2.2 d hd) nh ih
    | k + 2 =>
      obtain ⟨c, e, h1, h2, h3, h4⟩ := sgB_of hp
      have ex : x = ⟨#[c]⟩ := str_ext (by rw [e])
      have eu : flat ((k + 2, x) :: r) ++ tl = c :: (flat r ++ tl) := by
        show x.cps.toList ++ flat r ++ tl = _
        rw [e]
        rfl
      rw [eu]
      show Lx _ (x :: (words r ++ tw))
      rw [ex]
      exact Lx.sign h1 h2 h3 ih
theorem pieces_free : ∀ ps : List (Nat × Str), (ps.all fun p => kdB p.1 p.2) = true → 10 ∉ flat ps
  | [], _ => fun h => by cases h
  | (k, x) :: r, h => by
    rw [List.all_cons, Bool.and_eq_true] at h
    intro hm
    have hm : 10 ∈ x.cps.toList ++ flat r := hm
    rcases List.mem_append.mp hm with hx | hr
    · have hp := h.1
      match k with
      | 0 =>
        have hp : decide (x = " ") = true := hp
        rw [of_decide_eq_true hp] at hx
        have hx : 10 ∈ [32] := hx
        rw [List.mem_singleton] at hx
        omega
      | 1 =>
        have hp : (!x.cps.toList.isEmpty && x.cps.toList.all anB) = true := hp
        rw [Bool.and_eq_true] at hp
        exact absurd (List.all_eq_true.mp hp.2 10 hx) (by decide +kernel)
      | k + 2 =>
        obtain ⟨c, e, h1, h2, h3, h4⟩ := sgB_of hp
        rw [e] at hx
        exact h4 (List.mem_singleton.mp hx).symm
    · exact pieces_free r h.2 hr
end Mn

set_option Elab.async false
set_option linter.all false
set_option maxRecDepth 100000
set_option maxHeartbeats 4000000
/-! names, numbers, notes as texts. No program here. -/
namespace Mn
open PySem PySem.Spec PyProof.Rows L2
def Ends (n : List Nat) : Prop := (∀ c, n.head? = some c → c ≠ 32) ∧ (∀ c, n.reverse.head? = some c → c ≠ 32)
theorem blank_all {b : List Nat} (h : ∀ c ∈ b, c = 32) : ∀ c ∈ b, (" " : Str).cps.contains c = true := fun c hc => by rw [bl_goes]; exact decide_eq_true (h c hc)
theorem not_bl {c : Nat} (h : c ≠ 32) : (" " : Str).cps.contains c = false := by rw [bl_goes]; exact decide_eq_false h
theorem strip_is {y : Str} {a n b : List Nat} (e : y.cps.toList = a ++ (n ++ b)) (ha : ∀ c ∈ a, c = 32) (hb : ∀ c ∈ b, c = 32) (hn : Ends n) : (Txt.stripChars y " ").cps.toList = n :=
  strip_mid e (blank_all ha) (blank_all hb) (fun c h => not_bl (hn.1 c h)) (fun c h => not_bl (hn.2 c h))
theorem dec_left : ∀ l : List Nat, ∃ a m, l = a ++ m ∧ (∀ c ∈ a, c = 32) ∧ (∀ c, m.head? = some c → c ≠ 32)
  | [] => ⟨[], [], rfl, (fun _ h => by cases h), (fun _ h => by cases h)⟩
  | c :: l => by
    by_cases h : c = 32
    · obtain ⟨a, m, e, h1, h2⟩ := dec_left l
      refine ⟨c :: a, m, by rw [e]; rfl, fun d hd => ?_, h2⟩
      rcases List.mem_cons.mp hd with rfl | hd
      · exact h
      · exact h1 d hd
    · refine ⟨[], c :: l, rfl, (fun _ h => by cases h), fun d hd => ?_⟩
      injection hd with hd
      rw [← hd]
      exact h
theorem dec_both (l : List Nat) : ∃ a n b, l = a ++ (n ++ b) ∧ (∀ c ∈ a, c = 32) ∧ (∀ c ∈ b, c = 32) ∧ Ends n := by
  obtain ⟨a, m, rfl, h1, h2⟩ := dec_left l
  obtain ⟨b, n, e, h3, h4⟩ := dec_left m.reverse
  have em : m = n.reverse ++ b.reverse := by rw [← List.reverse_append, ← e, List.reverse_reverse]
  refine ⟨a, n.reverse, b.reverse, by rw [em], h1, fun c hc => h3 c (List.mem_reverse.mp hc), fun c hc => ?_, fun c hc => h4 c (by rw [List.reverse_reverse] at hc; exact hc)⟩
  refine h2 c ?_
  rw [em]
  cases hn : n.reverse with
  | nil => rw [hn] at hc; cases hc
  | cons x r => rw [hn] at hc; exact hc
theorem strip_ends (y : Str) : Ends (Txt.stripChars y " ").cps.toList ∧ (∀ c ∈ (Txt.stripChars y " ").cps.toList, c ∈ y.cps.toList) ∧ (Txt.stripChars y " ").length ≤ y.length := by
  obtain ⟨a, n, b, e, h1, h2, h3⟩ := dec_both y.cps.toList
  have hs := strip_is e h1 h2 h3
  refine ⟨by rw [hs]; exact h3, fun c hc => ?_, ?_⟩
  · rw [hs] at hc
    rw [e]
    exact List.mem_append_right _ (List.mem_append_left _ hc)
  · show (Txt.stripChars y " ").cps.size ≤ y.cps.size
    rw [← Array.length_toList, ← Array.length_toList, hs, e, List.length_append, List.length_append]
    omega
abbrev noteA : Str := "abcdefghijklmnopqrstuvwxyz0123456789 "
theorem note_of_ends {z : Str} (h : Ends z.cps.toList) (hl : z.length ≤ 40) (hs : sgn z noteA = true) : noteB z = true := by
  unfold noteB
  have e : z = Txt.stripChars z " " := (str_ext (strip_is (y := z) (a := []) (b := []) (by rw [List.append_nil]; rfl) (fun _ h => by cases h) (fun _ h => by cases h) h)).symm
  rw [decide_eq_true hl, hs, decide_eq_true e]
  rfl
/-- a # with blanks around a note -/
theorem note_word {z w : Str} {a b : List Nat} (h : Ends z.cps.toList) (hz : noteB z = true) (ha : ∀ c ∈ a, c = 32) (hb : ∀ c ∈ b, c = 32) (hla : a.length ≤ 100) (hlb : b.length ≤ 100) (hw : Txt.rstripChars ⟨(35 :: (a ++ (z.cps.toList ++ b))).toArray⟩ " " = w) : NoteW w z := by
  have zl := (note_fact hz).1
  have zs : z.cps.toList.length = z.length := by rw [Array.length_toList]; rfl
  have key : ∃ a2, (∀ c ∈ a2, c = 32) ∧ a2.length ≤ 100 ∧ w.cps.toList = 35 :: (a2 ++ z.cps.toList) := by
    by_cases hn : z.cps.toList = []
    · refine ⟨[], fun _ h => (by cases h), Nat.zero_le _, ?_⟩
      rw [← hw, hn]
      exact rstrip_mid (n := [35]) (b := a ++ b) rfl (blank_all fun c hc => (List.mem_append.mp hc).elim (ha c) (hb c)) (fun c hc => by
        have hc : some 35 = some c := hc
        injection hc with hc
        rw [← hc]
        exact not_bl (by decide))
    · refine ⟨a, ha, hla, ?_⟩
      rw [← hw]
      refine rstrip_mid (n := 35 :: (a ++ z.cps.toList)) (b := b) ?_ (blank_all hb) (fun c hc => not_bl (h.2 c ?_))
      · show 35 :: (a ++ (z.cps.toList ++ b)) = _
        rw [List.cons_append, List.append_assoc]
      · rw [List.reverse_cons, List.reverse_append] at hc
        cases hr : z.cps.toList.reverse with
        | nil => exact absurd (List.reverse_eq_nil_iff.mp hr) hn
        | cons x r =>
          rw [hr] at hc
          exact hc
  obtain ⟨a2, h1, h2, h3⟩ := key
  have wl : w.length = 1 + (a2.length + z.length) := by
    have := congrArg List.length h3
    rw [Array.length_toList, List.length_cons, List.length_append, zs] at this
    show w.cps.size = _
    omega
  refine ⟨⟨_, h3⟩, ?_, hz, by omega⟩
  refine str_ext (strip_is (a := a2) (n := z.cps.toList) (b := []) ?_ h1 (fun _ h => by cases h) h)
  unfold L2.cutS
  show List.take _ (List.drop (HT.sIx w.length 0 (some ((1 : Nat) : Int))) w.cps.toList) = _
  rw [HT.sIx_nat, h3, Nat.min_eq_left (by omega), List.append_nil]
  refine List.take_of_length_le ?_
  show (a2 ++ z.cps.toList).length ≤ w.length - HT.sIx w.length 0 (some ((1 : Nat) : Int))
  rw [HT.sIx_nat, Nat.min_eq_left (by omega), List.length_append, zs]
  omega
/-- the row of a note -/
theorem note_row {z : Str} {a b : List Nat} (h : Ends z.cps.toList) (hz : noteB z = true) (ha : ∀ c ∈ a, c = 32) (hb : ∀ c ∈ b, c = 32) (hla : a.length ≤ 100) (hlb : b.length ≤ 100) : ∃ w, NoteW w z ∧ Lx (35 :: (a ++ (z.cps.toList ++ b))) [w] ∧ 10 ∉ 35 :: (a ++ (z.cps.toList ++ b)) ∧ (35 :: (a ++ (z.cps.toList ++ b))).length ≤ 300 := by
  refine ⟨_, note_word h hz ha hb hla hlb rfl, Lx.note rfl, fun hm => ?_, ?_⟩
  · rcases List.mem_cons.mp hm with e | hm
    · omega
    · rcases List.mem_append.mp hm with hm | hm
      · have := ha 10 hm
        omega
      · rcases List.mem_append.mp hm with hm | hm
        · unfold noteB at hz
          rw [Bool.and_eq_true, Bool.and_eq_true] at hz
          exact absurd (List.all_eq_true.mp hz.2.1 10 hm) (by decide +kernel)
        · have := hb 10 hm
          omega
  · have zl := (note_fact hz).1
    have zs : z.cps.toList.length = z.length := by rw [Array.length_toList]; rfl
    rw [List.length_cons, List.length_append, List.length_append]
    omega
/-! ### names, numbers -/
abbrev abcA : Str := "abcdefghijklmnopqrstuvwxyz"
theorem name_mk {x : Str} {u : List Nat} {e : Nat} (hx : x.cps.toList = u ++ [e]) (hu : ∀ c ∈ u, c ∈ abcA.cps.toList) (he : e ∈ ("xyzw" : Str).cps.toList) (hl : u.length ≤ 7) : nameB x = true := by
  have xl : x.length = u.length + 1 := by
    have := congrArg List.length hx
    rw [Array.length_toList, List.length_append] at this
    exact this
  have hea : e ∈ abcA.cps.toList := by
    have key : (("xyzw" : Str).cps.toList.all fun e => decide (e ∈ abcA.cps.toList)) = true := by decide +kernel
    exact of_decide_eq_true (List.all_eq_true.mp key e he)
  have hs : sgn x abcA = true := List.all_eq_true.mpr fun c hc => decide_eq_true (by
    rw [hx] at hc
    rcases List.mem_append.mp hc with hc | hc
    · exact hu c hc
    · rw [List.mem_singleton.mp hc]
      exact hea)
  have hin : isIn (.str x) ["if", "else", "loop", "give"] = false := eq_false_of_ne_true fun h => by
    obtain ⟨k, hk, ek⟩ := isIn_str h
    injection ek with ek
    subst ek
    have key : ((["if", "else", "loop", "give"] : List Str).all fun k => match k.cps.toList.reverse with | c :: _ => !(decide (c ∈ ("xyzw" : Str).cps.toList)) | [] => true) = true := by decide +kernel
    have := List.all_eq_true.mp key x hk
    rw [hx, List.reverse_append] at this
    have this : (!(decide (e ∈ ("xyzw" : Str).cps.toList))) = true := this
    rw [decide_eq_true he] at this
    cases this
  unfold nameB
  rw [decide_eq_true (by omega), decide_eq_true (by omega), hin]
  show (true && (true && (sgn x abcA && !false))) = true
  rw [hs]
  rfl
theorem sgn_run {x : Str} {z : Str} (hz : z.cps.toList.all anB = true) (h1 : 1 ≤ x.length) (h : sgn x z = true) : runB x = true := by
  unfold runB
  have he : x.cps.toList.isEmpty = false := by
    cases hx : x.cps.toList with
    | nil =>
      have := congrArg List.length hx
      rw [Array.length_toList] at this
      have h1 : 1 ≤ x.cps.size := h1
      rw [List.length_nil] at this
      omega
    | cons c r => rfl
  rw [he]
  refine List.all_eq_true.mpr fun c hc => List.all_eq_true.mp hz c (of_decide_eq_true (List.all_eq_true.mp h c hc))
theorem name_run {x : Str} (h : nameB x = true) : runB x = true := by
  unfold nameB at h
  rw [Bool.and_eq_true, Bool.and_eq_true, Bool.and_eq_true] at h
  exact sgn_run (by decide +kernel) (of_decide_eq_true h.1) h.2.2.1
theorem num_run {x : Str} (h : numB x = true) : runB x = true := by
  unfold numB at h
  rw [Bool.and_eq_true, Bool.and_eq_true, Bool.and_eq_true] at h
  exact sgn_run (by decide +kernel) (of_decide_eq_true h.1) h.2.2.1
theorem num_mk {x : Str} (h : x.cps.toList.head? ≠ some 48) (h1 : 1 ≤ x.length) (h2 : x.length ≤ 6) (h3 : ∀ c ∈ x.cps.toList, 48 ≤ c ∧ c ≤ 57) : numB x = true := by
  unfold numB
  rw [decide_eq_true h1, decide_eq_true h2]
  have hs : sgn x "0123456789" = true := List.all_eq_true.mpr fun c hc => decide_eq_true (by
    obtain ⟨a, b⟩ := h3 c hc
    show c ∈ [48, 49, 50, 51, 52, 53, 54, 55, 56, 57]
    have : c = 48 ∨ c = 49 ∨ c = 50 ∨ c = 51 ∨ c = 52 ∨ c = 53 ∨ c = 54 ∨ c = 55 ∨ c = 56 ∨ c = 57 := by omega
    simp only [List.mem_cons, List.not_mem_nil, or_false]
    exact this)
  rw [hs, decide_eq_false h, Bool.not_false, Bool.or_true]
  rfl
theorem numL_head : ∀ n : Nat, 1 ≤ n → (TL.numL n).head? ≠ some 48 := fun n => by
  induction n using Nat.strongRecOn with
  | _ n ih =>
    intro hn
    by_cases h : n < 10
    · rw [TL.numL_lt h]
      intro e
      injection e with e
      omega
    · rw [TL.numL_step (by omega)]
      have := ih (n / 10) (by omega) (by omega)
      cases hx : TL.numL (n / 10) with
      | nil => exact absurd hx (TL.numL_ne _)
      | cons c r =>
        rw [hx] at this
        exact this
theorem num_str {n : Nat} (h : 1 ≤ n) (h2 : n < 1000000) : numB (Str.ofString (toString ((n : Nat) : Int))) = true := by
  have e : (Str.ofString (toString ((n : Nat) : Int))).cps.toList = TL.numL n := TL.tl_num n
  have l : (Str.ofString (toString ((n : Nat) : Int))).length = (TL.numL n).length := by
    rw [← e, Array.length_toList]
    rfl
  refine num_mk (by rw [e]; exact numL_head n h) ?_ ?_ ?_
  · rw [l]
    exact List.length_pos_iff.mpr (TL.numL_ne n)
  · rw [l]
    exact TL.numL_len (by decide) h2
  · rw [e]
    exact fun c hc => TL.numL_digits n c hc
theorem num_ones {i : Int} (h0 : 0 ≤ i) (h : i < 6) : numB (Txt.mul ("1" : Str) (1 + i)) = true := by
  have : i = 0 ∨ i = 1 ∨ i = 2 ∨ i = 3 ∨ i = 4 ∨ i = 5 := by omega
  rcases this with rfl | rfl | rfl | rfl | rfl | rfl <;> decide +kernel
end Mn

set_option Elab.async false
set_option linter.all false
set_option maxRecDepth 100000
set_option maxHeartbeats 4000000
/-! the twelve texts and trees of k07. No program here. -/
namespace Mn
open PySem PySem.Spec PyProof.Rows L2
def pcB (p : Nat × Str) : Bool := kdB p.1 p.2 && decide (p.2.length ≤ 50)
theorem pc_kd {ps : List (Nat × Str)} (h : ps.all pcB = true) : (ps.all fun p => kdB p.1 p.2) = true := List.all_eq_true.mpr fun p hp => by
  have := List.all_eq_true.mp h p hp
  unfold pcB at this
  rw [Bool.and_eq_true] at this
  exact this.1
theorem flat_len : ∀ {ps : List (Nat × Str)}, ps.all pcB = true → (flat ps).length ≤ 50 * ps.length
  | [], _ => Nat.le_refl _
  | p :: r, h => by
    rw [List.all_cons, Bool.and_eq_true] at h
    have ih := flat_len h.2
    have h1 := h.1
    unfold pcB at h1
    rw [Bool.and_eq_true] at h1
    have h2 := of_decide_eq_true h1.2
    show (p.2.cps.toList ++ flat r).length ≤ 50 * (r.length + 1)
    rw [List.length_append, Array.length_toList]
    have h2 : p.2.cps.size ≤ 50 := h2
    omega
theorem words_len : ∀ ps : List (Nat × Str), (words ps).length ≤ ps.length
  | [] => Nat.le_refl _
  | p :: r => by
    have ih := words_len r
    show (if p.1 = 0 then words r else p.2 :: words r).length ≤ r.length + 1
    split
    · omega
    · rw [List.length_cons]
      omega
theorem app_tl (x y : Str) : (x ++ y).cps.toList = x.cps.toList ++ y.cps.toList := by
  show (x.cps ++ y.cps).toList = _
  rw [Array.toList_append]
/-- a text with the statement that it is -/
def RowP (x : Str) (s : St) : Prop := ∃ rows : List (List Nat × List Str), x.cps.toList = TL.joinL [10] (rows.map (·.1)) ∧ rows ≠ [] ∧ RowsOk rows ∧ s.tk (rows.map (·.2)).flatten ∧ ((rows.map (·.2)).flatten).length ≤ 100 ∧ x.length ≤ 3000 ∧ s.ht ≤ 8
theorem row1 {x : Str} {s : St} {ps : List (Nat × Str)} (h : x.cps.toList = flat ps) (h1 : ps.all pcB = true) (h2 : okK ps = true) (h3 : s.tk (words ps)) (h4 : ps.length ≤ 40) (h5 : s.ht ≤ 8) : RowP x s := by
  have fl := flat_len h1
  have wl := words_len ps
  refine ⟨[(flat ps, words ps)], h, by simp, fun p hp => ?_, ?_, ?_, ?_, h5⟩
  · rw [List.mem_singleton.mp hp]
    have := lx_pieces Lx.nil (fun d hd => by cases hd) ps (pc_kd h1) h2
    rw [List.append_nil, List.append_nil] at this
    refine ⟨this, ?_, pieces_free ps (pc_kd h1)⟩
    show (flat ps).length < 1000000
    omega
  · show s.tk ([words ps].flatten)
    rw [List.flatten_singleton]
    exact h3
  · show ([words ps].flatten).length ≤ 100
    rw [List.flatten_singleton]
    omega
  · have : x.length = (flat ps).length := by rw [← h, Array.length_toList]; rfl
    omega
theorem joinL_app : ∀ {a b : List (List Nat)}, a ≠ [] → b ≠ [] → TL.joinL [10] (a ++ b) = TL.joinL [10] a ++ ([10] ++ TL.joinL [10] b)
  | [], _, h, _ => absurd rfl h
  | [p], b, _, h => by
    cases b with
    | nil => exact absurd rfl h
    | cons q r => rfl
  | p :: q :: r, b, _, h => by
    show p ++ ([10] ++ TL.joinL [10] (q :: r ++ b)) = p ++ ([10] ++ TL.joinL [10] (q :: r)) ++ _
    rw [joinL_app (a := q :: r) (by simp) h, List.append_assoc, List.append_assoc]
/-- many texts -/
inductive RowsP : List Str → List St → Prop
  | nil : RowsP [] []
  | cons {x s xs ss} : RowP x s → RowsP xs ss → RowsP (x :: xs) (s :: ss)
theorem rows_join : ∀ {xs : List Str} {ss : List St}, RowsP xs ss → xs ≠ [] → ∃ rows : List (List Nat × List Str), TL.joinL [10] (xs.map TL.tl) = TL.joinL [10] (rows.map (·.1)) ∧ rows ≠ [] ∧ RowsOk rows ∧ St.tks ss (rows.map (·.2)).flatten ∧ ((rows.map (·.2)).flatten).length ≤ 100 * xs.length ∧ St.hts ss ≤ 8 ∧ (TL.joinL [10] (xs.map TL.tl)).length ≤ 3001 * xs.length
  | _, _, .nil, h => absurd rfl h
  | _, _, .cons (x := x) (s := s) (xs := xs) (ss := ss) ⟨rows, r1, r2, r3, r4, r5, r6, r7⟩ hr, _ => by
    have xl : x.cps.toList.length = x.length := by rw [Array.length_toList]; rfl
    cases hr with
    | nil =>
      refine ⟨rows, r1, r2, r3, ⟨_, [], by rw [List.append_nil], r4, rfl⟩, by rw [List.length_singleton]; omega, by show max s.ht 0 ≤ 8; omega, ?_⟩
      show x.cps.toList.length ≤ 3001 * 1
      omega
    | cons h2 hr2 =>
      obtain ⟨rows2, q1, q2, q3, q4, q5, q6, q7⟩ := rows_join (.cons h2 hr2) (by simp)
      refine ⟨rows ++ rows2, ?_, by intro e; exact r2 (List.append_eq_nil_iff.mp e).1, fun p hp => ?_, ?_, ?_, ?_, ?_⟩
      · rw [List.map_append, joinL_app (by intro e; exact r2 (List.map_eq_nil_iff.mp e)) (by intro e; exact q2 (List.map_eq_nil_iff.mp e)), ← q1, ← r1]
        rfl
      · rcases List.mem_append.mp hp with hp | hp
        · exact r3 p hp
        · exact q3 p hp
      · rw [List.map_append, List.flatten_append]
        exact ⟨_, _, rfl, r4, q4⟩
      · rw [List.map_append, List.flatten_append, List.length_append, List.length_cons]
        omega
      · show max s.ht (St.hts _) ≤ 8
        omega
      · show (x.cps.toList ++ ([10] ++ TL.joinL [10] _)).length ≤ 3001 * (_ + 1)
        rw [List.length_append, List.length_append, List.length_singleton]
        have := q7
        rw [List.map_cons] at this
        omega
theorem row_txw {x : Str} {s : St} (h : RowP x s) : ∃ W, TxW x W ∧ St.tks [s] W ∧ W.length ≤ 15000 := by
  obtain ⟨rows, r1, r2, r3, r4, r5, r6, r7⟩ := h
  exact ⟨_, txw_mk r1 r2 r3 (by omega) (by omega), ⟨_, [], by rw [List.append_nil], r4, rfl⟩, by omega⟩
theorem rows_txw {xs : List Str} {ss : List St} (h : RowsP xs ss) (hne : xs ≠ []) (hl : xs.length ≤ 20) : ∃ W, TxW (Txt.join "\n" xs) W ∧ St.tks ss W ∧ W.length ≤ 15000 ∧ St.hts ss ≤ 8 := by
  obtain ⟨rows, q1, q2, q3, q4, q5, q6, q7⟩ := rows_join h hne
  have e : (Txt.join "\n" xs).cps.toList = TL.joinL [10] (xs.map TL.tl) := by
    rw [TL.join_eq]
    exact TL.tl_join "\n" xs
  have l : (Txt.join "\n" xs).length = (TL.joinL [10] (xs.map TL.tl)).length := by rw [← e, Array.length_toList]; rfl
  exact ⟨_, txw_mk (e.trans q1) q2 q3 (by omega) (by omega), q4, by omega, q6⟩
/-! ### the twelve -/
theorem pc_bl : pcB (0, " ") = true := by decide +kernel
theorem pc_eq : pcB (2, "=") = true := by decide +kernel
theorem pc_sc : pcB (2, ";") = true := by decide +kernel
theorem pc_po : pcB (2, "(") = true := by decide +kernel
theorem pc_pc : pcB (2, ")") = true := by decide +kernel
theorem pc_co : pcB (2, ",") = true := by decide +kernel
theorem pc_mi : pcB (2, "-") = true := by decide +kernel
theorem pc_pl : pcB (2, "+") = true := by decide +kernel
theorem pc_bo : pcB (2, "[") = true := by decide +kernel
theorem pc_bc : pcB (2, "]") = true := by decide +kernel
theorem pc_co1 : pcB (2, "{") = true := by decide +kernel
theorem pc_cc1 : pcB (2, "}") = true := by decide +kernel
theorem pc_give : pcB (1, "give") = true := by decide +kernel
theorem pc_loop : pcB (1, "loop") = true := by decide +kernel
theorem pc_if : pcB (1, "if") = true := by decide +kernel
theorem pc_else : pcB (1, "else") = true := by decide +kernel
theorem pc_run {x : Str} (h : runB x = true) (hl : x.length ≤ 8) : pcB (1, x) = true := by
  unfold pcB
  have h : kdB 1 x = true := h
  rw [h, decide_eq_true (show x.length ≤ 50 by omega)]
  rfl
structure Ws (a b c d g z : Str) : Prop where
  ha : nameB a = true
  hb : nameB b = true
  hc : nameB c = true
  hd : nameB d = true
  hg : numB g = true
  hz : noteB z = true
  he : Ends z.cps.toList
section
variable (a b c d g z : Str)
def eBoth : Ex := .sum (.nam b) [false, true] [.num g, .nam c]
def eMore : Ex := .sum (.call d [.nam b, .num g]) [false, false] [.inn (eBoth b c g), .lst [.nam c]]
def theRows : List (Str × St) := [
  (a ++ " = " ++ b ++ ";", .set a (.nam b)),
  ((("give " : Str) ++ g) ++ ";", .give (.num g)),
  (a ++ "();", .run a []),
  (a ++ "(" ++ b ++ ", " ++ g ++ ",);", .run a [.nam b, .num g]),
  (a ++ "=" ++ b ++ "-" ++ g ++ "+" ++ c ++ ";", .set a (eBoth b c g)),
  (("give(" : Str) ++ b ++ " - " ++ g ++ " + " ++ c ++ ");", .give (.inn (eBoth b c g))),
  (("give " : Str) ++ (d ++ "(" ++ b ++ "," ++ g ++ ")") ++ "-(" ++ b ++ "-" ++ g ++ "+" ++ c ++ ")-[" ++ c ++ "];", .give (eMore b c d g)),
  (("loop " : Str) ++ a ++ "() { }", .loop (.call a []) []),
  ("if [] {}", .iff (.lst []) [] false []),
  (("if " : Str) ++ b ++ " {" ++ a ++ "();} else {#" ++ z ++ " \ngive " ++ g ++ ";}", .iff (.nam b) [.run a []] true [.note z, .give (.num g)]),
  (("if " : Str) ++ b ++ " { if " ++ c ++ " {} else {} }", .iff (.nam b) [.iff (.nam c) [] true []] false []),
  (("# " : Str) ++ z, .note z)]
end
section
variable {a b c d g z : Str}
theorem both_tk (h : Ws a b c d g z) : (eBoth b c g).tk [b, "-", g, "+", c] :=
  ⟨rfl, by simp, [b], ["-", g, "+", c], rfl, ⟨rfl, h.hb⟩, rfl, [g], ["+", c], rfl, ⟨rfl, h.hg⟩, rfl, [c], [], rfl, ⟨rfl, h.hc⟩, rfl, rfl⟩
theorem two_tk (h : Ws a b c d g z) : Ex.tks [.nam b, .num g] [b, ",", g] :=
  ⟨[b], [",", g], rfl, ⟨rfl, h.hb⟩, .inr ⟨by simp, [g], rfl, [g], [], rfl, ⟨rfl, h.hg⟩, .inl ⟨rfl, .inl rfl⟩⟩⟩
theorem two_tk2 (h : Ws a b c d g z) : Ex.tks [.nam b, .num g] [b, ",", g, ","] :=
  ⟨[b], [",", g, ","], rfl, ⟨rfl, h.hb⟩, .inr ⟨by simp, [g, ","], rfl, [g], [","], rfl, ⟨rfl, h.hg⟩, .inl ⟨rfl, .inr rfl⟩⟩⟩
theorem call_tk (h : Ws a b c d g z) : (Ex.call d [.nam b, .num g]).tk [d, "(", b, ",", g, ")"] := ⟨h.hd, [b, ",", g], rfl, two_tk h⟩
theorem inn_tk (h : Ws a b c d g z) : (Ex.inn (eBoth b c g)).tk ["(", b, "-", g, "+", c, ")"] := ⟨[b, "-", g, "+", c], rfl, both_tk h⟩
theorem lst_tk (h : Ws a b c d g z) : (Ex.lst [.nam c]).tk ["[", c, "]"] := ⟨[c], rfl, [c], [], rfl, ⟨rfl, h.hc⟩, .inl ⟨rfl, .inl rfl⟩⟩
theorem more_tk (h : Ws a b c d g z) : (eMore b c d g).tk [d, "(", b, ",", g, ")", "-", "(", b, "-", g, "+", c, ")", "-", "[", c, "]"] :=
  ⟨rfl, by simp, [d, "(", b, ",", g, ")"], ["-", "(", b, "-", g, "+", c, ")", "-", "[", c, "]"], rfl, call_tk h, rfl, ["(", b, "-", g, "+", c, ")"], ["-", "[", c, "]"], rfl, inn_tk h, rfl, ["[", c, "]"], [], rfl, lst_tk h, rfl, rfl⟩
theorem pcs (h : Ws a b c d g z) : pcB (1, a) = true ∧ pcB (1, b) = true ∧ pcB (1, c) = true ∧ pcB (1, d) = true ∧ pcB (1, g) = true :=
  ⟨pc_run (name_run h.ha) (name_fact h.ha).1, pc_run (name_run h.hb) (name_fact h.hb).1, pc_run (name_run h.hc) (name_fact h.hc).1, pc_run (name_run h.hd) (name_fact h.hd).1, pc_run (num_run h.hg) (by have := (num_fact h.hg).1; omega)⟩
theorem row_1 (h : Ws a b c d g z) : RowP (a ++ " = " ++ b ++ ";") (.set a (.nam b)) := by
  obtain ⟨ka, kb, kc, kd, kg⟩ := pcs h
  refine row1 (ps := [(1, a), (0, " "), (2, "="), (0, " "), (1, b), (2, ";")]) ?_ ?_ rfl ?_ (by show 6 ≤ 40; decide) (by show 2 ≤ 8; decide)
  · simp only [app_tl, List.append_assoc]
    rfl
  · simp only [List.all_cons, List.all_nil, ka, kb, kc, kd, kg, pc_bl, pc_eq, pc_sc, pc_po, pc_pc, pc_co, pc_mi, pc_pl, pc_bo, pc_bc, pc_co1, pc_cc1, pc_give, pc_loop, pc_if, pc_else, Bool.and_self, Bool.true_and, Bool.and_true]
  · exact ⟨h.ha, [b], rfl, rfl, h.hb⟩
theorem row_2 (h : Ws a b c d g z) : RowP ((("give " : Str) ++ g) ++ ";") (.give (.num g)) := by
  obtain ⟨ka, kb, kc, kd, kg⟩ := pcs h
  refine row1 (ps := [(1, "give"), (0, " "), (1, g), (2, ";")]) ?_ ?_ rfl ?_ (by show 4 ≤ 40; decide) (by show 2 ≤ 8; decide)
  · simp only [app_tl, List.append_assoc]
    rfl
  · simp only [List.all_cons, List.all_nil, ka, kb, kc, kd, kg, pc_bl, pc_eq, pc_sc, pc_po, pc_pc, pc_co, pc_mi, pc_pl, pc_bo, pc_bc, pc_co1, pc_cc1, pc_give, pc_loop, pc_if, pc_else, Bool.and_self, Bool.true_and, Bool.and_true]
  · exact ⟨[g], rfl, rfl, h.hg⟩
theorem row_3 (h : Ws a b c d g z) : RowP (a ++ "();") (.run a []) := by
  obtain ⟨ka, kb, kc, kd, kg⟩ := pcs h
  refine row1 (ps := [(1, a), (2, "("), (2, ")"), (2, ";")]) ?_ ?_ rfl ?_ (by show 4 ≤ 40; decide) (by show 1 ≤ 8; decide)
  · simp only [app_tl, List.append_assoc]
    rfl
  · simp only [List.all_cons, List.all_nil, ka, kb, kc, kd, kg, pc_bl, pc_eq, pc_sc, pc_po, pc_pc, pc_co, pc_mi, pc_pl, pc_bo, pc_bc, pc_co1, pc_cc1, pc_give, pc_loop, pc_if, pc_else, Bool.and_self, Bool.true_and, Bool.and_true]
  · exact ⟨h.ha, [], rfl, rfl⟩
theorem row_4 (h : Ws a b c d g z) : RowP (a ++ "(" ++ b ++ ", " ++ g ++ ",);") (.run a [.nam b, .num g]) := by
  obtain ⟨ka, kb, kc, kd, kg⟩ := pcs h
  refine row1 (ps := [(1, a), (2, "("), (1, b), (2, ","), (0, " "), (1, g), (2, ","), (2, ")"), (2, ";")]) ?_ ?_ rfl ?_ (by show 9 ≤ 40; decide) (by show 2 ≤ 8; decide)
  · simp only [app_tl, List.append_assoc]
    rfl
  · simp only [List.all_cons, List.all_nil, ka, kb, kc, kd, kg, pc_bl, pc_eq, pc_sc, pc_po, pc_pc, pc_co, pc_mi, pc_pl, pc_bo, pc_bc, pc_co1, pc_cc1, pc_give, pc_loop, pc_if, pc_else, Bool.and_self, Bool.true_and, Bool.and_true]
  · exact ⟨h.ha, [b, ",", g, ","], rfl, two_tk2 h⟩
theorem row_5 (h : Ws a b c d g z) : RowP (a ++ "=" ++ b ++ "-" ++ g ++ "+" ++ c ++ ";") (.set a (eBoth b c g)) := by
  obtain ⟨ka, kb, kc, kd, kg⟩ := pcs h
  refine row1 (ps := [(1, a), (2, "="), (1, b), (2, "-"), (1, g), (2, "+"), (1, c), (2, ";")]) ?_ ?_ rfl ?_ (by show 8 ≤ 40; decide) (by show 4 ≤ 8; decide)
  · simp only [app_tl, List.append_assoc]
    rfl
  · simp only [List.all_cons, List.all_nil, ka, kb, kc, kd, kg, pc_bl, pc_eq, pc_sc, pc_po, pc_pc, pc_co, pc_mi, pc_pl, pc_bo, pc_bc, pc_co1, pc_cc1, pc_give, pc_loop, pc_if, pc_else, Bool.and_self, Bool.true_and, Bool.and_true]
  · exact ⟨h.ha, [b, "-", g, "+", c], rfl, both_tk h⟩
theorem row_6 (h : Ws a b c d g z) : RowP (("give(" : Str) ++ b ++ " - " ++ g ++ " + " ++ c ++ ");") (.give (.inn (eBoth b c g))) := by
  obtain ⟨ka, kb, kc, kd, kg⟩ := pcs h
  refine row1 (ps := [(1, "give"), (2, "("), (1, b), (0, " "), (2, "-"), (0, " "), (1, g), (0, " "), (2, "+"), (0, " "), (1, c), (2, ")"), (2, ";")]) ?_ ?_ rfl ?_ (by show 13 ≤ 40; decide) (by show 5 ≤ 8; decide)
  · simp only [app_tl, List.append_assoc]
    rfl
  · simp only [List.all_cons, List.all_nil, ka, kb, kc, kd, kg, pc_bl, pc_eq, pc_sc, pc_po, pc_pc, pc_co, pc_mi, pc_pl, pc_bo, pc_bc, pc_co1, pc_cc1, pc_give, pc_loop, pc_if, pc_else, Bool.and_self, Bool.true_and, Bool.and_true]
  · exact ⟨["(", b, "-", g, "+", c, ")"], rfl, inn_tk h⟩
theorem row_7 (h : Ws a b c d g z) : RowP (("give " : Str) ++ (d ++ "(" ++ b ++ "," ++ g ++ ")") ++ "-(" ++ b ++ "-" ++ g ++ "+" ++ c ++ ")-[" ++ c ++ "];") (.give (eMore b c d g)) := by
  obtain ⟨ka, kb, kc, kd, kg⟩ := pcs h
  refine row1 (ps := [(1, "give"), (0, " "), (1, d), (2, "("), (1, b), (2, ","), (1, g), (2, ")"), (2, "-"), (2, "("), (1, b), (2, "-"), (1, g), (2, "+"), (1, c), (2, ")"), (2, "-"), (2, "["), (1, c), (2, "]"), (2, ";")]) ?_ ?_ rfl ?_ (by show 21 ≤ 40; decide) (by show 7 ≤ 8; decide)
  · simp only [app_tl, List.append_assoc]
    rfl
  · simp only [List.all_cons, List.all_nil, ka, kb, kc, kd, kg, pc_bl, pc_eq, pc_sc, pc_po, pc_pc, pc_co, pc_mi, pc_pl, pc_bo, pc_bc, pc_co1, pc_cc1, pc_give, pc_loop, pc_if, pc_else, Bool.and_self, Bool.true_and, Bool.and_true]
  · exact ⟨[d, "(", b, ",", g, ")", "-", "(", b, "-", g, "+", c, ")", "-", "[", c, "]"], rfl, more_tk h⟩
theorem row_8 (h : Ws a b c d g z) : RowP (("loop " : Str) ++ a ++ "() { }") (.loop (.call a []) []) := by
  obtain ⟨ka, kb, kc, kd, kg⟩ := pcs h
  refine row1 (ps := [(1, "loop"), (0, " "), (1, a), (2, "("), (2, ")"), (0, " "), (2, "{"), (0, " "), (2, "}")]) ?_ ?_ rfl ?_ (by show 9 ≤ 40; decide) (by show 2 ≤ 8; decide)
  · simp only [app_tl, List.append_assoc]
    rfl
  · simp only [List.all_cons, List.all_nil, ka, kb, kc, kd, kg, pc_bl, pc_eq, pc_sc, pc_po, pc_pc, pc_co, pc_mi, pc_pl, pc_bo, pc_bc, pc_co1, pc_cc1, pc_give, pc_loop, pc_if, pc_else, Bool.and_self, Bool.true_and, Bool.and_true]
  · exact ⟨[a, "(", ")"], [], rfl, ⟨h.ha, [], rfl, rfl⟩, rfl⟩
theorem row_9 (h : Ws a b c d g z) : RowP (("if [] {}" : Str)) (.iff (.lst []) [] false []) := by
  obtain ⟨ka, kb, kc, kd, kg⟩ := pcs h
  refine row1 (ps := [(1, "if"), (0, " "), (2, "["), (2, "]"), (0, " "), (2, "{"), (2, "}")]) ?_ ?_ rfl ?_ (by show 7 ≤ 40; decide) (by show 2 ≤ 8; decide)
  · rfl
  · simp only [List.all_cons, List.all_nil, ka, kb, kc, kd, kg, pc_bl, pc_eq, pc_sc, pc_po, pc_pc, pc_co, pc_mi, pc_pl, pc_bo, pc_bc, pc_co1, pc_cc1, pc_give, pc_loop, pc_if, pc_else, Bool.and_self, Bool.true_and, Bool.and_true]
  · exact ⟨["[", "]"], [], [], rfl, ⟨[], rfl, rfl⟩, rfl, .inl ⟨rfl, rfl, rfl⟩⟩
theorem row_11 (h : Ws a b c d g z) : RowP (("if " : Str) ++ b ++ " { if " ++ c ++ " {} else {} }") (.iff (.nam b) [.iff (.nam c) [] true []] false []) := by
  obtain ⟨ka, kb, kc, kd, kg⟩ := pcs h
  refine row1 (ps := [(1, "if"), (0, " "), (1, b), (0, " "), (2, "{"), (0, " "), (1, "if"), (0, " "), (1, c), (0, " "), (2, "{"), (2, "}"), (0, " "), (1, "else"), (0, " "), (2, "{"), (2, "}"), (0, " "), (2, "}")]) ?_ ?_ rfl ?_ (by show 19 ≤ 40; decide) (by show 3 ≤ 8; decide)
  · simp only [app_tl, List.append_assoc]
    rfl
  · simp only [List.all_cons, List.all_nil, ka, kb, kc, kd, kg, pc_bl, pc_eq, pc_sc, pc_po, pc_pc, pc_co, pc_mi, pc_pl, pc_bo, pc_bc, pc_co1, pc_cc1, pc_give, pc_loop, pc_if, pc_else, Bool.and_self, Bool.true_and, Bool.and_true]
  · exact ⟨[b], ["if", c, "{", "}", "else", "{", "}"], [], rfl, ⟨rfl, h.hb⟩, ⟨["if", c, "{", "}", "else", "{", "}"], [], rfl, ⟨[c], [], ["else", "{", "}"], rfl, ⟨rfl, h.hc⟩, rfl, .inr ⟨rfl, [], rfl, rfl⟩⟩, rfl⟩, .inl ⟨rfl, rfl, rfl⟩⟩
theorem row_12 (h : Ws a b c d g z) : RowP (("# " : Str) ++ z) (.note z) := by
  obtain ⟨w, n1, n2, n3, n4⟩ := note_row (a := [32]) (b := []) h.he h.hz (fun c hc => List.mem_singleton.mp hc) (fun _ h => by cases h) (by show 1 ≤ 100; decide) (Nat.zero_le _)
  have e : (("# " : Str) ++ z).cps.toList = 35 :: ([32] ++ (z.cps.toList ++ [])) := by
    rw [app_tl, List.append_nil]
    rfl
  refine ⟨[(_, [w])], e, by simp, fun p hp => ?_, ⟨w, rfl, n1⟩, by show 1 ≤ 100; decide, ?_, by show 1 ≤ 8; decide⟩
  · rw [List.mem_singleton.mp hp]
    exact ⟨n2, Nat.lt_of_le_of_lt n4 (by decide), n3⟩
  · have : (("# " : Str) ++ z).length = (35 :: ([32] ++ (z.cps.toList ++ []))).length := by rw [← e, Array.length_toList]; rfl
    omega
theorem row_10 (h : Ws a b c d g z) : RowP (("if " : Str) ++ b ++ " {" ++ a ++ "();} else {#" ++ z ++ " \ngive " ++ g ++ ";}") (.iff (.nam b) [.run a []] true [.note z, .give (.num g)]) := by
  obtain ⟨ka, kb, kc, kd, kg⟩ := pcs h
  obtain ⟨w, n1, n2, n3, n4⟩ := note_row (a := []) (b := [32]) h.he h.hz (fun _ h => by cases h) (fun c hc => List.mem_singleton.mp hc) (Nat.zero_le _) (by show 1 ≤ 100; decide)
  have e : (("if " : Str) ++ b ++ " {" ++ a ++ "();} else {#" ++ z ++ " \ngive " ++ g ++ ";}").cps.toList = (flat [(1, "if"), (0, " "), (1, b), (0, " "), (2, "{"), (1, a), (2, "("), (2, ")"), (2, ";"), (2, "}"), (0, " "), (1, "else"), (0, " "), (2, "{")] ++ (35 :: ([] ++ (z.cps.toList ++ [32])))) ++ ([10] ++ flat [(1, "give"), (0, " "), (1, g), (2, ";"), (2, "}")]) := by
    simp only [app_tl, flat, List.append_assoc, List.cons_append, List.nil_append]
    rfl
  have p1 : ([(1, "if"), (0, " "), (1, b), (0, " "), (2, "{"), (1, a), (2, "("), (2, ")"), (2, ";"), (2, "}"), (0, " "), (1, "else"), (0, " "), (2, "{")] : List (Nat × Str)).all pcB = true := by
    simp only [List.all_cons, List.all_nil, ka, kb, kc, kd, kg, pc_bl, pc_eq, pc_sc, pc_po, pc_pc, pc_co, pc_mi, pc_pl, pc_bo, pc_bc, pc_co1, pc_cc1, pc_give, pc_loop, pc_if, pc_else, Bool.and_self, Bool.true_and, Bool.and_true]
  have p2 : ([(1, "give"), (0, " "), (1, g), (2, ";"), (2, "}")] : List (Nat × Str)).all pcB = true := by
    simp only [List.all_cons, List.all_nil, ka, kb, kc, kd, kg, pc_bl, pc_eq, pc_sc, pc_po, pc_pc, pc_co, pc_mi, pc_pl, pc_bo, pc_bc, pc_co1, pc_cc1, pc_give, pc_loop, pc_if, pc_else, Bool.and_self, Bool.true_and, Bool.and_true]
  have f1 := flat_len p1
  have f2 := flat_len p2
  have f1 : _ ≤ 50 * 14 := f1
  have f2 : _ ≤ 50 * 5 := f2
  have l1 := lx_pieces n2 (fun d hd => by
    have hd : some 35 = some d := hd
    injection hd with hd
    rw [← hd]
    decide +kernel) _ (pc_kd p1) rfl
  have l2 := lx_pieces Lx.nil (fun d hd => by cases hd) _ (pc_kd p2) rfl
  rw [List.append_nil, List.append_nil] at l2
  refine ⟨[(_, (["if", b, "{", a, "(", ")", ";", "}", "else", "{"] : List Str) ++ [w]), (_, (["give", g, ";", "}"] : List Str))], e, by simp, fun p hp => ?_, ?_, by show 15 ≤ 100; decide, ?_, by show 4 ≤ 8; decide⟩
  · rcases List.mem_cons.mp hp with rfl | hp
    · refine ⟨l1, ?_, fun hm => ?_⟩
      · show List.length (_ ++ _) < _
        rw [List.length_append]
        omega
      · rcases List.mem_append.mp hm with hm | hm
        · exact pieces_free _ (pc_kd p1) hm
        · exact n3 hm
    · rw [List.mem_singleton.mp hp]
      exact ⟨l2, Nat.lt_of_le_of_lt f2 (by decide), pieces_free _ (pc_kd p2)⟩
  · exact ⟨[b], [a, "(", ")", ";"], ["else", "{", w, "give", g, ";", "}"], rfl, ⟨rfl, h.hb⟩, ⟨[a, "(", ")", ";"], [], rfl, ⟨h.ha, [], rfl, rfl⟩, rfl⟩, .inr ⟨rfl, [w, "give", g, ";"], rfl, [w], ["give", g, ";"], rfl, ⟨w, rfl, n1⟩, ["give", g, ";"], [], rfl, ⟨[g], rfl, rfl, h.hg⟩, rfl⟩⟩
  · have := congrArg List.length e
    rw [Array.length_toList, List.length_append, List.length_append, List.length_append, List.length_singleton] at this
    have this : (("if " : Str) ++ b ++ " {" ++ a ++ "();} else {#" ++ z ++ " \ngive " ++ g ++ ";}").length = _ := this
    omega
theorem all_rows (h : Ws a b c d g z) : RowsP ((theRows a b c d g z).map (·.1)) ((theRows a b c d g z).map (·.2)) :=
  .cons (row_1 h) (.cons (row_2 h) (.cons (row_3 h) (.cons (row_4 h) (.cons (row_5 h) (.cons (row_6 h) (.cons (row_7 h) (.cons (row_8 h) (.cons (row_9 h) (.cons (row_10 h) (.cons (row_11 h) (.cons (row_12 h) .nil)))))))))))
end
end Mn

set_option Elab.async false
set_option linter.all false
set_option maxRecDepth 100000
set_option maxHeartbeats 4000000
/-! k07: names, the number, the note, the rows. -/
namespace Mn
open PySem PySem.Spec PyProof.Rows L2
/-- _law_letters -/
def g_w_letters (c_w_take : F) (c_w_of : F) : F := mDef 2 4 (sSeq (sSet 2 (mC (.str "abcdefghijklmnopqrstuvwxyz")))
  (sRet (mBin fAdd (mMt "str" fJoin (mC (.str "")) (aCons (mComp (iRange1 (aCons (mCB c_w_take (aCons (mVar 0) (aCons (mC (.int 7)) aNil))) aNil)) (.nm 3) tYesM (mCB c_w_of (aCons (mVar 0) (aCons (mVar 2) aNil))) [3]) aNil)) (mVar 1))))
/-- _law_rows -/
def g_w_rows  : F := mDef 3 21 (sSeq (sAsg (.tp [(.nm 11), (.nm 12), (.nm 13), (.nm 14)]) (mVar 0))
  (sSeq (sPar3 15 16 17 (aCons (mTup (aCons (mTup (aCons (mC (.str "name")) (aCons (mVar 12) aNil))) (aCons (mTup aNil) aNil))) (aCons (mTup (aCons (mTup (aCons (mC (.str "name")) (aCons (mVar 13) aNil))) (aCons (mTup aNil) aNil))) (aCons (mTup (aCons (mTup (aCons (mC (.str "number")) (aCons (mVar 1) aNil))) (aCons (mTup aNil) aNil))) aNil))))
  (sSeq (sSet 3 (mTup (aCons (mTup (aCons (mC (.str "sum")) aNil)) (aCons (mTup (aCons (mTup (aCons (mTup (aCons (mTup (aCons (mC (.str "plus")) aNil)) (aCons (mTup (aCons (mTup (aCons (mVar 15) aNil)) aNil)) aNil))) (aCons (mTup (aCons (mTup (aCons (mC (.str "minus")) aNil)) (aCons (mTup (aCons (mTup (aCons (mVar 17) aNil)) aNil)) aNil))) (aCons (mTup (aCons (mTup (aCons (mC (.str "plus")) aNil)) (aCons (mTup (aCons (mTup (aCons (mVar 16) aNil)) aNil)) aNil))) aNil)))) aNil)) aNil))))
  (sSeq (sSet 4 (mTup (aCons (mTup (aCons (mC (.str "in")) aNil)) (aCons (mTup (aCons (mTup (aCons (mVar 3) aNil)) aNil)) aNil))))
  (sSeq (sPar3 18 19 20 (aCons (mTup (aCons (mTup (aCons (mC (.str "call")) (aCons (mVar 14) aNil))) (aCons (mTup (aCons (mTup (aCons (mVar 15) (aCons (mVar 17) aNil))) aNil)) aNil))) (aCons (mTup (aCons (mTup (aCons (mC (.str "list")) aNil)) (aCons (mTup (aCons (mTup (aCons (mVar 16) aNil)) aNil)) aNil))) (aCons (mTup (aCons (mTup (aCons (mC (.str "call")) (aCons (mVar 11) aNil))) (aCons (mTup (aCons (mTup aNil) aNil)) aNil))) aNil))))
  (sSeq (sSet 5 (mLst (aCons (mTup (aCons (mBin fAdd (mBin fAdd (mBin fAdd (mVar 11) (mC (.str " = "))) (mVar 12)) (mC (.str ";"))) (aCons (mTup (aCons (mTup (aCons (mC (.str "set")) (aCons (mVar 11) aNil))) (aCons (mTup (aCons (mTup (aCons (mVar 15) aNil)) aNil)) aNil))) aNil))) (aCons (mTup (aCons (mBin fAdd (mBin fAdd (mC (.str "give ")) (mVar 1)) (mC (.str ";"))) (aCons (mTup (aCons (mTup (aCons (mC (.str "give")) aNil)) (aCons (mTup (aCons (mTup (aCons (mVar 17) aNil)) aNil)) aNil))) aNil))) aNil))))
  (sSeq (sDrop (mMt "list" fAppend (mVar 5) (aCons (mTup (aCons (mBin fAdd (mVar 11) (mC (.str "();"))) (aCons (mTup (aCons (mTup (aCons (mC (.str "run")) (aCons (mVar 11) aNil))) (aCons (mTup (aCons (mTup aNil) aNil)) aNil))) aNil))) aNil)))
  (sSeq (sDrop (mMt "list" fAppend (mVar 5) (aCons (mTup (aCons (mBin fAdd (mBin fAdd (mBin fAdd (mBin fAdd (mBin fAdd (mVar 11) (mC (.str "("))) (mVar 12)) (mC (.str ", "))) (mVar 1)) (mC (.str ",);"))) (aCons (mTup (aCons (mTup (aCons (mC (.str "run")) (aCons (mVar 11) aNil))) (aCons (mTup (aCons (mTup (aCons (mVar 15) (aCons (mVar 17) aNil))) aNil)) aNil))) aNil))) aNil)))
  (sSeq (sDrop (mMt "list" fAppend (mVar 5) (aCons (mTup (aCons (mBin fAdd (mBin fAdd (mBin fAdd (mBin fAdd (mBin fAdd (mBin fAdd (mBin fAdd (mVar 11) (mC (.str "="))) (mVar 12)) (mC (.str "-"))) (mVar 1)) (mC (.str "+"))) (mVar 13)) (mC (.str ";"))) (aCons (mTup (aCons (mTup (aCons (mC (.str "set")) (aCons (mVar 11) aNil))) (aCons (mTup (aCons (mTup (aCons (mVar 3) aNil)) aNil)) aNil))) aNil))) aNil)))
  (sSeq (sDrop (mMt "list" fAppend (mVar 5) (aCons (mTup (aCons (mBin fAdd (mBin fAdd (mBin fAdd (mBin fAdd (mBin fAdd (mBin fAdd (mC (.str "give(")) (mVar 12)) (mC (.str " - "))) (mVar 1)) (mC (.str " + "))) (mVar 13)) (mC (.str ");"))) (aCons (mTup (aCons (mTup (aCons (mC (.str "give")) aNil)) (aCons (mTup (aCons (mTup (aCons (mVar 4) aNil)) aNil)) aNil))) aNil))) aNil)))
  (sSeq (sSet 6 (mBin fAdd (mBin fAdd (mBin fAdd (mBin fAdd (mBin fAdd (mVar 14) (mC (.str "("))) (mVar 12)) (mC (.str ","))) (mVar 1)) (mC (.str ")"))))
  (sSeq (sSet 7 (mTup (aCons (mTup (aCons (mC (.str "sum")) aNil)) (aCons (mTup (aCons (mTup (aCons (mTup (aCons (mTup (aCons (mC (.str "plus")) aNil)) (aCons (mTup (aCons (mTup (aCons (mVar 18) aNil)) aNil)) aNil))) (aCons (mTup (aCons (mTup (aCons (mC (.str "minus")) aNil)) (aCons (mTup (aCons (mTup (aCons (mVar 4) aNil)) aNil)) aNil))) (aCons (mTup (aCons (mTup (aCons (mC (.str "minus")) aNil)) (aCons (mTup (aCons (mTup (aCons (mVar 19) aNil)) aNil)) aNil))) aNil)))) aNil)) aNil))))
  (sSeq (sSet 8 (mBin fAdd (mBin fAdd (mBin fAdd (mBin fAdd (mBin fAdd (mBin fAdd (mBin fAdd (mBin fAdd (mBin fAdd (mBin fAdd (mC (.str "give ")) (mVar 6)) (mC (.str "-("))) (mVar 12)) (mC (.str "-"))) (mVar 1)) (mC (.str "+"))) (mVar 13)) (mC (.str ")-["))) (mVar 13)) (mC (.str "];"))))
  (sSeq (sDrop (mMt "list" fAppend (mVar 5) (aCons (mTup (aCons (mVar 8) (aCons (mTup (aCons (mTup (aCons (mC (.str "give")) aNil)) (aCons (mTup (aCons (mTup (aCons (mVar 7) aNil)) aNil)) aNil))) aNil))) aNil)))
  (sSeq (sDrop (mMt "list" fAppend (mVar 5) (aCons (mTup (aCons (mBin fAdd (mBin fAdd (mC (.str "loop ")) (mVar 11)) (mC (.str "() { }"))) (aCons (mTup (aCons (mTup (aCons (mC (.str "loop")) aNil)) (aCons (mTup (aCons (mTup (aCons (mVar 20) aNil)) (aCons (mTup aNil) aNil))) aNil))) aNil))) aNil)))
  (sSeq (sDrop (mMt "list" fAppend (mVar 5) (aCons (mTup (aCons (mC (.str "if [] {}")) (aCons (mTup (aCons (mTup (aCons (mC (.str "if")) aNil)) (aCons (mTup (aCons (mTup (aCons (mTup (aCons (mTup (aCons (mC (.str "list")) aNil)) (aCons (mTup (aCons (mTup aNil) aNil)) aNil))) aNil)) (aCons (mTup aNil) (aCons (mTup aNil) aNil)))) aNil))) aNil))) aNil)))
  (sSeq (sSet 9 (mTup (aCons (mTup (aCons (mC (.str "else")) aNil)) (aCons (mTup (aCons (mTup (aCons (mTup (aCons (mTup (aCons (mC (.str "note")) (aCons (mVar 2) aNil))) (aCons (mTup aNil) aNil))) (aCons (mTup (aCons (mTup (aCons (mC (.str "give")) aNil)) (aCons (mTup (aCons (mTup (aCons (mVar 17) aNil)) aNil)) aNil))) aNil))) aNil)) aNil))))
  (sSeq (sSet 8 (mBin fAdd (mBin fAdd (mBin fAdd (mBin fAdd (mBin fAdd (mBin fAdd (mBin fAdd (mBin fAdd (mC (.str "if ")) (mVar 12)) (mC (.str " {"))) (mVar 11)) (mC (.str "();} else {#"))) (mVar 2)) (mC (.str " \ngive "))) (mVar 1)) (mC (.str ";}"))))
  (sSeq (sDrop (mMt "list" fAppend (mVar 5) (aCons (mTup (aCons (mVar 8) (aCons (mTup (aCons (mTup (aCons (mC (.str "if")) aNil)) (aCons (mTup (aCons (mTup (aCons (mVar 15) aNil)) (aCons (mTup (aCons (mTup (aCons (mTup (aCons (mC (.str "run")) (aCons (mVar 11) aNil))) (aCons (mTup (aCons (mTup aNil) aNil)) aNil))) aNil)) (aCons (mTup (aCons (mVar 9) aNil)) aNil)))) aNil))) aNil))) aNil)))
  (sSeq (sSet 10 (mTup (aCons (mTup (aCons (mC (.str "if")) aNil)) (aCons (mTup (aCons (mTup (aCons (mVar 16) aNil)) (aCons (mTup aNil) (aCons (mTup (aCons (mTup (aCons (mTup (aCons (mC (.str "else")) aNil)) (aCons (mTup (aCons (mTup aNil) aNil)) aNil))) aNil)) aNil)))) aNil))))
  (sSeq (sSet 8 (mBin fAdd (mBin fAdd (mBin fAdd (mBin fAdd (mC (.str "if ")) (mVar 12)) (mC (.str " { if "))) (mVar 13)) (mC (.str " {} else {} }"))))
  (sSeq (sDrop (mMt "list" fAppend (mVar 5) (aCons (mTup (aCons (mVar 8) (aCons (mTup (aCons (mTup (aCons (mC (.str "if")) aNil)) (aCons (mTup (aCons (mTup (aCons (mVar 15) aNil)) (aCons (mTup (aCons (mVar 10) aNil)) (aCons (mTup aNil) aNil)))) aNil))) aNil))) aNil)))
  (sRet (mBin fAdd (mVar 5) (mLst (aCons (mTup (aCons (mBin fAdd (mC (.str "# ")) (mVar 2)) (aCons (mTup (aCons (mTup (aCons (mC (.str "note")) (aCons (mVar 2) aNil))) (aCons (mTup aNil) aNil))) aNil))) aNil))))))))))))))))))))))))))
/-- _law_right -/
def g_w_right (c_w_letters : F) (c_w_of : F) (c_w_take : F) (c_w_rows : F) (c_read : F) (c_is_tree : F) (c_w_trails : F) (c_part_at : F) : F := mDef 1 12 (sSeq (sSet 1 (mComp (iVal (mC (.str "xyzw"))) (.nm 8) tYesM (mCB c_w_letters (aCons (mVar 0) (aCons (mVar 8) aNil))) [8]))
  (sSeq (sSet 2 (mCB c_w_of (aCons (mVar 0) (aCons (mLst (aCons (mC (.str "0")) (aCons (mBin fMulS (mC (.str "1")) (mBin fAdd (mC (.int 1)) (mCB c_w_take (aCons (mVar 0) (aCons (mC (.int 6)) aNil))))) (aCons (mCB cStr (aCons (mBin fAdd (mC (.int 1)) (mCB c_w_take (aCons (mVar 0) (aCons (mC (.int 999999)) aNil)))) aNil)) aNil)))) aNil))))
  (sSeq (sSet 3 (mMt "str" fStripC (mMt "str" fJoin (mC (.str "")) (aCons (mComp (iRange1 (aCons (mCB c_w_take (aCons (mVar 0) (aCons (mC (.int 41)) aNil))) aNil)) (.nm 11) tYesM (mCB c_w_of (aCons (mVar 0) (aCons (mC (.str "abc019 ")) aNil))) [11]) aNil)) (aCons (mC (.str " ")) aNil)))
  (sSeq (sPar 4 5 (aCons (mCB c_w_rows (aCons (mVar 1) (aCons (mVar 2) (aCons (mVar 3) aNil)))) (aCons (mTup aNil) aNil)))
  (sSeq (sFor (iVal (mVar 4)) (.tp [(.nm 6), (.nm 7)]) (sSeq (sIf (tOr (tVal (mBin fNe (mCB cRepr (aCons (mCB c_read (aCons (mVar 6) aNil)) aNil)) (mCB cRepr (aCons (mTup (aCons (mVar 7) aNil)) aNil)))) (tVal (mBin fNotB (mCB c_is_tree (aCons (mTup (aCons (mVar 7) aNil)) aNil)) (mC (.bl true))))) (sRet (mC (.bl false))) sNil)
  (sSeq (sFor (iVal (mCB c_w_trails (aCons (mTup (aCons (mVar 7) aNil)) (aCons (mTup aNil) aNil)))) (.tp [(.nm 9), (.nm 10)]) (sIf (tVal (mBin fNe (mCB cRepr (aCons (mCB c_part_at (aCons (mTup (aCons (mVar 7) aNil)) (aCons (mVar 9) aNil))) aNil)) (mCB cRepr (aCons (mVar 10) aNil)))) (sRet (mC (.bl false))) sNil))
  (sSet 5 (mBin fAdd (mVar 5) (mTup (aCons (mVar 7) aNil)))))))
  (sRet (mBin fEq (mCB cRepr (aCons (mCB c_read (aCons (mMt "str" fJoin (mC (.str "\n")) (aCons (mComp (iVal (mVar 4)) (.tp [(.nm 6), (.nm 7)]) tYesM (mVar 6) [6, 7]) aNil)) aNil)) aNil)) (mCB cRepr (aCons (mVar 5) aNil)))))))))

theorem compP {p : Nat} {c : Int} {C : Nat} {S0 S : Sto} {ρ : En} {pt : Pt} {vs : List Nat} {elt : M} {Q : D → Sto → Prop} (ds : List D) (I : List D → Prop) (h0 : I []) (hm : ds.length ≤ 100) (hi : Pot p c S) (x0 : Ext p S0 S)
    (he : ∀ (k : Nat) (d : D) (S' : Sto) (acc : List D) (Q' : D → Sto → Prop), ds[k]? = some d → Ext p S0 S' → Pot p (c + (k : Nat) * (C : Nat)) S' → I acc → acc.length = k → (∀ y S'', Ext p S' S'' → Pot p (c + ((k + 1 : Nat) : Int) * (C : Nat)) S'' → I (acc ++ [y]) → Q' y S'') → ∃ ρ1, pt.put S' (wipeE ρ vs) d = some ρ1 ∧ (elt ρ1 S').wp Q')
    (q : ∀ items S', I items → items.length = ds.length → Ext p S0 S' → Pot p (c + (ds.length : Nat) * (C : Nat)) S' → S'[S.length]? = some (.lst items) → Q (.ref S.length) S') :
    (mCompL pt tYesM elt always S.length (wipeE ρ vs) ds (S ++ [.lst []])).wp Q := by
  have hp0 := hi.lt
  have hlen : S0.length ≤ S.length := x0.1
  refine comp_wp (I := fun l acc S' => Ext p S0 S' ∧ S.length ≤ S'.length ∧ Pot p (c + (acc.length : Nat) * (C : Nat)) S' ∧ I acc ∧ ∃ done, done ++ l = ds ∧ done.length = acc.length) (fun _ _ _ _ => rfl) (fun d l acc S' => ?_) (fun acc S' => ?_) _ [] _ ⟨x0.app _, by rw [List.length_append]; omega, by
      have := hi.app [.lst []]
      simpa using this, h0, [], rfl, rfl⟩ List.getElem?_concat_length
  · rintro ⟨x, hl, hp, ha, done, hd, hn⟩ hs
    have hk : ds[acc.length]? = some d := by
      rw [← hd, ← hn, List.getElem?_append_right (Nat.le_refl _), Nat.sub_self]
      rfl
    have hlt : acc.length < ds.length := (List.getElem?_eq_some_iff.mp hk).1
    obtain ⟨ρ1, e1, e2⟩ := he acc.length d S' acc (fun y S'' => S''[S.length]? = some (.lst acc) ∧ acc.length < sizeLine ∧ Ext p S0 (S''.set S.length (.lst (acc ++ [y]))) ∧ S.length ≤ (S''.set S.length (.lst (acc ++ [y]))).length ∧ Pot p (c + ((acc ++ [y]).length : Nat) * (C : Nat)) (S''.set S.length (.lst (acc ++ [y]))) ∧ I (acc ++ [y]) ∧ ∃ done, done ++ l = ds ∧ done.length = (acc ++ [y]).length) hk x hp ha rfl fun y S'' x2 hp2 ha2 => ⟨x2.at_ hs (by omega), by rw [sizeLine_eq]; omega, (x.trans x2).set (by omega) _, by rw [List.length_set]; exact Nat.le_trans hl x2.1, by
      rw [List.length_append, List.length_singleton]
      exact hp2.set (by omega) _, ha2, done ++ [d], by rw [List.append_assoc]; exact hd, by rw [List.length_append, List.length_append, hn]; rfl⟩
    exact ⟨ρ1, e1, e2⟩
  · rintro ⟨x, hl, hp, ha, done, hd, hn⟩ hs
    rw [List.append_nil] at hd
    subst hd
    rw [hn]  at *
    exact q acc S' ha (by rw [hn]) x (by rw [hn]; exact hp) hs
theorem joinL_nil : ∀ l : List (List Nat), TL.joinL [] l = l.flatten
  | [] => rfl
  | [p] => by rw [List.flatten_singleton]; rfl
  | p :: q :: r => by
    show p ++ ([] ++ TL.joinL [] (q :: r)) = _
    rw [List.nil_append, joinL_nil (q :: r)]
    rfl
abbrev ch (c : Nat) : Str := ⟨#[c]⟩
theorem join_ones (cs : List Nat) : (Txt.join "" (cs.map ch)).cps.toList = cs := by
  rw [TL.join_eq]
  have e := TL.tl_join ("" : Str) (cs.map ch)
  have e0 : TL.tl ("" : Str) = [] := by decide +kernel
  rw [e0, joinL_nil] at e
  refine e.trans ?_
  induction cs with
  | nil => rfl
  | cons c r ih =>
    show c :: ((r.map ch).map TL.tl).flatten = _
    rw [ih]
    · have := TL.tl_join ("" : Str) (r.map ch)
      rw [e0, joinL_nil] at this
      exact this
theorem w_joinOnes {S : Sto} {n : Nat} {cs : List Nat} {Q : D → Sto → Prop} (h : S[n]? = some (.lst ((cs.map ch).map D.str))) (hl : cs.length ≤ 100) (q : ∀ x : Str, x.cps.toList = cs → Q (.str x) S) : (fJoin (.str "") [.ref n] S).wp Q := by
  have e : fJoin (.str "") [.ref n] S = if ((cs.map ch).map (·.length)).sum + (cs.map ch).length * ("" : Str).length ≤ 16777216 then .ok (.str (Txt.join "" (cs.map ch))) S else .bad := by
    show (match S[n]? with
      | some (.lst xs) => (match strsOf xs with
        | some ys => if (ys.map (·.length)).sum + ys.length * ("" : Str).length ≤ 16777216 then .ok (.str (Txt.join "" ys)) S else .bad
        | none => .bad)
      | _ => .bad : Res D) = _
    rw [h]
    show (match strsOf ((cs.map ch).map D.str) with
        | some ys => if (ys.map (·.length)).sum + ys.length * ("" : Str).length ≤ 16777216 then .ok (.str (Txt.join "" ys)) S else .bad
        | none => .bad : Res D) = _
    rw [strsOf_map]
  have hs : ((cs.map ch).map (·.length)).sum = cs.length := by
    clear e q h hl
    induction cs with
    | nil => rfl
    | cons c r ih =>
      show 1 + ((r.map ch).map (·.length)).sum = r.length + 1
      omega
  have h0 : ("" : Str).length = 0 := by decide +kernel
  rw [e, hs, h0, Nat.mul_zero, if_pos (by omega)]
  exact q _ (join_ones cs)
theorem ofS_wp {p : Nat} {c : Int} {S : Sto} {x : Str} {Q : D → Sto → Prop} (h : Pot p c S) (hc : c < 2 ^ 40) (h0 : 0 < x.length) (h1 : x.length < 1000000)
    (q : ∀ k S', k ∈ x.cps.toList → Ext p S S' → Pot p (c + 1) S' → Q (.str (ch k)) S') : (fOf fTake [.ref p, .str x] S).wp Q := by
  have big := sl6
  unfold fOf
  refine w_def rfl ?_
  simp only [s_nil, s_seq, s_drop, s_ret, s_set, s_if, s_par, s_put, s_for, w_var, w_c, w_bin, w_un, w_nil, w_cons, w_cb, w_tup, w_lst, w_val, w_tnot, w_tand, w_tor, w_and, w_or, w_not, w_if, w_chain, w_isi, w_mt, w_tab, w_onone, w_osome, w_sl, List.map_cons, List.map_nil, List.length_cons, List.length_nil, List.cons_append, List.nil_append, List.getElem?_cons_zero, List.getElem?_cons_succ, List.set_cons_zero, List.set_cons_succ, List.reduceReplicate, Nat.reduceAdd, Nat.reduceSub]
  rw [w_lenS]
  refine ⟨by omega, ?_⟩
  refine take_wp h hc (by omega) (by omega) fun r S' r0 r1 x1 hp => ?_
  rw [w_ixS]
  obtain ⟨k, rfl⟩ : ∃ k : Nat, r = (k : Nat) := ⟨r.toNat, by omega⟩
  have hk : k < x.cps.toList.length := by
    have : x.cps.toList.length = x.length := by rw [Array.length_toList]; rfl
    omega
  exact ⟨by omega, _, atI_at (List.getElem?_eq_getElem hk), q _ S' (List.getElem_mem hk) x1 hp⟩
/-- letters drawn from a text, joined -/
theorem drawn_wp {p : Nat} {c u : Int} {m : Nat} {S : Sto} {ρ : En} {v : Nat} {al : Str} {alM : M} {Q : D → Sto → Prop} (hv : ρ[0]? = some (some (.ref p))) (hvl : v < ρ.length) (hv0 : v ≠ 0) (h : Pot p c S) (hc : c + (m : Nat) + 1 < 2 ^ 40) (hu : u = (m : Nat)) (hm0 : 0 < m) (hm : m ≤ 90) (h0 : 0 < al.length) (h1 : al.length < 1000000)
    (hal : ∀ (ρ' : En) S' Q, (∀ j, j ≠ v → ρ'[j]? = ρ[j]?) → ((alM ρ' S').wp Q ↔ Q (.str al) S'))
    (q : ∀ (x : Str) S', Ext p S S' → Pot p (c + 1 + (m : Nat)) S' → x.length < m → (∀ k ∈ x.cps.toList, k ∈ al.cps.toList) → Q (.str x) S') :
    (mMt "str" fJoin (mC (.str "")) (aCons (mComp (iRange1 (aCons (mCB fTake (aCons (mVar 0) (aCons (mC (.int u)) aNil))) aNil)) (.nm v) tYesM (mCB (fOf fTake) (aCons (mVar 0) (aCons alM aNil))) [v]) aNil) ρ S).wp Q := by
  subst hu
  rw [w_mt, w_c]
  refine ⟨rfl, ?_⟩
  rw [w_cons]
  refine w_comp (by simp [Pt.within]) ?_
  rw [i_range1]
  simp only [w_cb, w_cons, w_nil, w_c]
  rw [w_var, hv]
  dsimp only
  refine take_wp h (by omega) (by omega) (by omega) fun r S1 r0 r1 x1 h1' => ⟨r, rfl, by unfold smallI; rw [decide_eq_true (by omega), decide_eq_true (by omega)]; rfl, ?_⟩
  refine compP (C := 1) (c := c + 1) (vs := [v]) _ (fun acc => ∃ cs : List Nat, acc = (cs.map ch).map D.str ∧ ∀ k ∈ cs, k ∈ al.cps.toList) ⟨[], rfl, fun _ h => by cases h⟩ (by rw [List.length_map, List.length_range]; omega) h1' x1 (fun k d S' acc Q' hk x hp ha hl q' => ?_) (fun items S' hi hl x hp hs => ?_)
  · have hk2 := (List.getElem?_eq_some_iff.mp hk).1
    rw [List.length_map, List.length_range] at hk2
    refine ⟨_, rfl, ?_⟩
    rw [w_cb, w_cons, w_var]
    have g0 : ((wipeE ρ [v]).set v (some d))[0]? = some (some (.ref p)) := by
      show ((ρ.set v none).set v (some d))[0]? = _
      rw [List.getElem?_set_ne hv0, List.getElem?_set_ne hv0]
      exact hv
    rw [g0]
    dsimp only
    rw [w_cons, hal _ _ _ (fun j hj => by
      show ((ρ.set v none).set v (some d))[j]? = _
      rw [List.getElem?_set_ne (Ne.symm hj), List.getElem?_set_ne (Ne.symm hj)]), w_nil]
    refine ofS_wp hp (by omega) h0 h1 fun kk S'' hkk x2 hp2 => ?_
    refine q' _ S'' x2 (hp2.le (by push_cast; omega)) ?_
    obtain ⟨cs, rfl, hcs⟩ := ha
    refine ⟨cs ++ [kk], by rw [List.map_append, List.map_append]; rfl, fun j hj => ?_⟩
    rcases List.mem_append.mp hj with hj | hj
    · exact hcs j hj
    · rw [List.mem_singleton.mp hj]
      exact hkk
  · obtain ⟨cs, rfl, hcs⟩ := hi
    rw [List.length_map, List.length_map, List.length_map, List.length_range] at hl
    rw [List.length_map, List.length_range] at hp
    refine w_joinOnes hs (by omega) fun y hy => ?_
    refine q y S' x (hp.le (by omega)) ?_ (by rw [hy]; exact hcs)
    have := congrArg List.length hy
    rw [Array.length_toList] at this
    have e : y.length = cs.length := this
    omega
theorem letters_wp {p : Nat} {c : Int} {S : Sto} {e : Nat} {Q : D → Sto → Prop} (h : Pot p c S) (hc : c + 10 < 2 ^ 40) (he : e ∈ ("xyzw" : Str).cps.toList) (q : ∀ x S', Ext p S S' → Pot p (c + 8) S' → nameB x = true → Q (.str x) S') : (g_w_letters fTake (fOf fTake) [.ref p, .str (ch e)] S).wp Q := by
  have big := sl6
  unfold g_w_letters
  refine w_def rfl ?_
  rw [s_seq, s_set, w_c, s_ret, w_bin]
  simp only [List.map_cons, List.map_nil, List.length_cons, List.length_nil, List.cons_append, List.nil_append, List.reduceReplicate, Nat.reduceAdd, Nat.reduceSub, List.set_cons_zero, List.set_cons_succ]
  refine drawn_wp (p := p) (m := 7) (v := 3) (al := "abcdefghijklmnopqrstuvwxyz") rfl (by show 3 < 4; decide) (by decide) h (by omega) rfl (by decide) (by decide) (by decide +kernel) (by decide +kernel) (fun ρ' S' Q hρ => ?_) fun x S' x1 hp hl hk => ?_
  · rw [w_var, hρ 2 (by decide)]
    exact Iff.rfl
  · rw [w_var]
    dsimp only [List.getElem?_cons_zero, List.getElem?_cons_succ]
    rw [w_addS]
    refine ⟨by show _ + 1 ≤ _; omega, q _ S' x1 (hp.le (by push_cast; omega)) (name_mk (u := x.cps.toList) (e := e) (app_tl _ _) hk he ?_)⟩
    rw [Array.length_toList]
    show x.length ≤ 7
    omega
theorem numbers_wp {p : Nat} {c : Int} {S : Sto} {ρ : En} {Q : D → Sto → Prop} (hv : ρ[0]? = some (some (.ref p))) (h : Pot p c S) (hc : c + 10 < 2 ^ 40) (q : ∀ x S', Ext p S S' → Pot p (c + 3) S' → numB x = true → Q (.str x) S') :
    (mCB (fOf fTake) (aCons (mVar 0) (aCons (mLst (aCons (mC (.str "0")) (aCons (mBin fMulS (mC (.str "1")) (mBin fAdd (mC (.int 1)) (mCB fTake (aCons (mVar 0) (aCons (mC (.int 6)) aNil))))) (aCons (mCB cStr (aCons (mBin fAdd (mC (.int 1)) (mCB fTake (aCons (mVar 0) (aCons (mC (.int 999999)) aNil)))) aNil)) aNil)))) aNil)) ρ S).wp Q := by
  have big := sl6
  simp only [w_cb, w_cons, w_nil, w_c, w_lst, w_bin, w_var, hv]
  refine take_wp h (by omega) (by decide) (by decide) fun i S1 i0 i1 x1 h1 => ?_
  rw [w_addI]
  have hm : mulSOk ("1" : Str) (1 + i) = true := by
    have : i = 0 ∨ i = 1 ∨ i = 2 ∨ i = 3 ∨ i = 4 ∨ i = 5 := by omega
    rcases this with rfl | rfl | rfl | rfl | rfl | rfl <;> decide +kernel
  show Res.wp (if mulSOk ("1" : Str) (1 + i) = true then Res.ok (D.str (Txt.mul ("1" : Str) (1 + i))) S1 else Res.bad) _
  rw [if_pos hm, wp_ok]
  refine take_wp h1 (by omega) (by decide) (by decide) fun j S2 j0 j1 x2 h2 => ?_
  rw [w_addI]
  obtain ⟨n, hn⟩ : ∃ n : Nat, 1 + j = (n : Nat) := ⟨(1 + j).toNat, by omega⟩
  rw [hn]
  have hlog : (((n : Nat) : Int).natAbs.log2 < 1920) := by
    rw [Int.natAbs_natCast]
    have : n < 2 ^ 1920 := Nat.lt_of_lt_of_le (show n < 2 ^ 20 by omega) (Nat.pow_le_pow_right (by decide) (by decide))
    have hn0 : n ≠ 0 := by omega
    exact (Nat.log2_lt hn0).mpr this
  show Res.wp (if ((n : Nat) : Int).natAbs.log2 < 1920 then Res.ok (D.str (toString ((n : Nat) : Int))) S2 else Res.bad) _
  rw [if_pos hlog, wp_ok]
  refine ⟨by show 3 ≤ _; omega, ?_⟩
  refine of_wp (ds := [.str "0", .str (Txt.mul ("1" : Str) (1 + i)), .str (toString ((n : Nat) : Int))]) (h2.app _) (by omega) List.getElem?_concat_length (by have := h2.lt; omega) (by show 0 < 3; decide) (by show 3 < _; decide) fun d S3 hd x3 h3 => ?_
  have xx : Ext p S S3 := ((x1.trans x2).app _).trans x3
  have hp := h3.le (show c + 1 + 1 + 1 ≤ c + 3 by omega)
  simp only [List.mem_cons, List.not_mem_nil, or_false] at hd
  rcases hd with rfl | rfl | rfl
  · exact q _ S3 xx hp (by decide +kernel)
  · exact q _ S3 xx hp (num_ones i0 i1)
  · exact q _ S3 xx hp (num_str (by omega) (by omega))
/-! ### the rows -/
section
variable {S : Sto} {Q : D → Sto → Prop} {ds es : List D} {d : D}
theorem w_appLast : (fAppend (.ref S.length) [d] (S ++ [.lst ds])).wp Q ↔ ds.length < sizeLine ∧ Q .non (S ++ [.lst (ds ++ [d])]) := by
  rw [w_app List.getElem?_concat_length, List.set_append_right _ _ (Nat.le_refl _), Nat.sub_self]
  exact Iff.rfl
theorem kOf_last : kOf (S ++ [.lst ds]) (.ref S.length) = "list" := by
  show kOb _ = _
  rw [List.getElem?_concat_length]
  rfl
theorem w_addLast : (fAdd (.ref S.length) (.ref (S.length + 1)) ((S ++ [.lst ds]) ++ [.lst es])).wp Q ↔ ds.length + es.length ≤ sizeLine ∧ Q (.ref (S.length + 2)) ((S ++ [.lst ds] ++ [.lst es]) ++ [.lst (ds ++ es)]) := by
  have l1 : (S ++ [Ob.lst ds]).length = S.length + 1 := by rw [List.length_append]; rfl
  have l2 : (S ++ [Ob.lst ds] ++ [Ob.lst es]).length = S.length + 2 := by rw [List.length_append, l1]; rfl
  rw [← l1, w_addL (at_app List.getElem?_concat_length _) List.getElem?_concat_length, l2]
theorem s_par3 {i j l : Nat} {ma : MA} {ρ : En} {N : En → Sto → Prop} {R : D → Sto → Prop} : (sPar3 i j l ma ρ S).wp N R ↔ (ma ρ S).wp fun ds S => ∃ d e f, ds = [d, e, f] ∧ N (((ρ.set i (some d)).set j (some e)).set l (some f)) S := by
  unfold sPar3
  simp only [wp_st]
  constructor <;> intro h <;> refine wp_mono h fun ds S h => ?_
  · split at h
    · exact ⟨_, _, _, rfl, h⟩
    · exact h.elim
  · obtain ⟨d, e, f, rfl, h⟩ := h
    exact h
end
theorem len_app (x y : Str) : (x ++ y).length = x.length + y.length := by
  show (x.cps ++ y.cps).size = _
  rw [Array.size_append]
  rfl
theorem s_step {s1 s2 : MS} {ρ ρ1 : En} {S S1 : Sto} {N : En → Sto → Prop} {R : D → Sto → Prop} (h : (s1 ρ S).wp (fun ρ' S' => ρ' = ρ1 ∧ S' = S1) R) (h2 : (s2 ρ1 S1).wp N R) : (sSeq s1 s2 ρ S).wp N R := by
  rw [s_seq]
  refine sw_mono h (fun ρ' S' e => ?_) fun _ _ h => h
  rw [e.1, e.2]
  exact h2
theorem rows_wp {S : Sto} {n : Nat} {a b c d g z : Str} {Q : D → Sto → Prop} (h : Ws a b c d g z) (hn : S[n]? = some (.lst [.str a, .str b, .str c, .str d])) (q : ∀ m l, (S ++ l)[m]? = some (.lst ((theRows a b c d g z).map fun q => .tup [.str q.1, q.2.d])) → Q (.ref m) (S ++ l)) : (g_w_rows [.ref n, .str g, .str z] S).wp Q := by
  have big : 2000000 < sizeLine := by rw [sizeLine_eq]; decide
  have la := (name_fact h.ha).1
  have lb := (name_fact h.hb).1
  have lc := (name_fact h.hc).1
  have ld := (name_fact h.hd).1
  have lg := (num_fact h.hg).1
  have lz := (note_fact h.hz).1
  unfold g_w_rows
  refine w_def rfl ?_
  rw [s_seq, s_asg, w_var]
  dsimp only [List.map_cons, List.map_nil, List.length_cons, List.length_nil, List.cons_append, List.nil_append, List.getElem?_cons_zero, List.getElem?_cons_succ]
  refine ⟨[some (.ref n), some (.str g), some (.str z), none, none, none, none, none, none, none, none, some (.str a), some (.str b), some (.str c), some (.str d), none, none, none, none, none, none], ?_, ?_⟩
  · show (match (match S[n]? with | some (.lst ds) => some ds | _ => none) with
      | some ds => Pt.puts S [.nm 11, .nm 12, .nm 13, .nm 14] _ ds
      | none => none) = _
    rw [hn]
    rfl
  ·
    have k0 : (" = " : Str).length ≤ 20 := by decide +kernel
    have k1 : (";" : Str).length ≤ 20 := by decide +kernel
    have k2 : ("give " : Str).length ≤ 20 := by decide +kernel
    have k3 : ("();" : Str).length ≤ 20 := by decide +kernel
    have k4 : ("(" : Str).length ≤ 20 := by decide +kernel
    have k5 : (", " : Str).length ≤ 20 := by decide +kernel
    have k6 : (",);" : Str).length ≤ 20 := by decide +kernel
    have k7 : ("=" : Str).length ≤ 20 := by decide +kernel
    have k8 : ("-" : Str).length ≤ 20 := by decide +kernel
    have k9 : ("+" : Str).length ≤ 20 := by decide +kernel
    have k10 : ("give(" : Str).length ≤ 20 := by decide +kernel
    have k11 : (" - " : Str).length ≤ 20 := by decide +kernel
    have k12 : (" + " : Str).length ≤ 20 := by decide +kernel
    have k13 : (");" : Str).length ≤ 20 := by decide +kernel
    have k14 : ("," : Str).length ≤ 20 := by decide +kernel
    have k15 : (")" : Str).length ≤ 20 := by decide +kernel
    have k16 : ("-(" : Str).length ≤ 20 := by decide +kernel
    have k17 : (")-[" : Str).length ≤ 20 := by decide +kernel
    have k18 : ("];" : Str).length ≤ 20 := by decide +kernel
    have k19 : ("loop " : Str).length ≤ 20 := by decide +kernel
    have k20 : ("() { }" : Str).length ≤ 20 := by decide +kernel
    have k21 : ("if " : Str).length ≤ 20 := by decide +kernel
    have k22 : (" {" : Str).length ≤ 20 := by decide +kernel
    have k23 : ("();} else {#" : Str).length ≤ 20 := by decide +kernel
    have k24 : (" \ngive " : Str).length ≤ 20 := by decide +kernel
    have k25 : (";}" : Str).length ≤ 20 := by decide +kernel
    have k26 : (" { if " : Str).length ≤ 20 := by decide +kernel
    have k27 : (" {} else {} }" : Str).length ≤ 20 := by decide +kernel
    have k28 : ("# " : Str).length ≤ 20 := by decide +kernel
    have s0 : (0 ≤ sizeLine) = True := eq_true (by omega)
    have s1 : (1 ≤ sizeLine) = True := eq_true (by omega)
    have s2 : (2 ≤ sizeLine) = True := eq_true (by omega)
    have s3 : (3 ≤ sizeLine) = True := eq_true (by omega)
    iterate 21
      apply s_step
      · simp only [s_par3, s_set, s_drop, w_mt, w_cons, w_nil, w_tup, w_lst, w_bin, w_var, w_c, w_addS, w_appLast, kOf_last, List.set_cons_zero, List.set_cons_succ, List.getElem?_cons_zero, List.getElem?_cons_succ, List.length_cons, List.length_nil, List.length_append, Nat.reduceAdd, Nat.zero_add, true_and, s0, s1, s2, s3, len_app, List.cons_append, List.nil_append]
        repeat (first | refine ⟨_, _, _, rfl, ?_⟩ | refine ⟨by omega, ?_⟩)
        exact ⟨rfl, rfl⟩
    rw [s_ret]
    simp only [w_cons, w_nil, w_tup, w_lst, w_bin, w_var, w_c, w_addS, w_addLast, List.getElem?_cons_zero, List.getElem?_cons_succ, List.length_cons, List.length_nil, List.length_append, Nat.reduceAdd, Nat.zero_add, true_and, s0, s1, s2, s3, len_app, List.cons_append, List.nil_append]
    repeat refine ⟨by omega, ?_⟩
    rw [List.append_assoc, List.append_assoc]
    refine q _ _ ?_
    rw [List.getElem?_append_right (by omega), show S.length + 2 - S.length = 2 by omega]
    rfl
end Mn

set_option Elab.async false
set_option linter.all false
set_option maxRecDepth 100000
set_option maxHeartbeats 4000000
/-! k07: one row, read and looked at. -/
namespace Mn
open PySem PySem.Spec PyProof.Rows L2
def ReadA (rd : F) : Prop := ∀ (x : Str) (ss : List St) (W : List Str) (S : Sto) (Q : D → Sto → Prop), TxW x W → St.tks ss W → St.hts ss ≤ 8 → W.length ≤ 15000 → (∀ l, Q (.tup (St.ds ss)) (S ++ l)) → (rd [.str x] S).wp Q
def TreeA (it : F) : Prop := ∀ (ss : List St) (W : List Str) (S : Sto) (Q : D → Sto → Prop), St.tks ss W → St.hts ss ≤ 8 → W.length ≤ 15000 → (∀ l, Q (.bl true) (S ++ l)) → (it [.tup (St.ds ss)] S).wp Q
def PartA (pa : F) : Prop := ∀ (ss : List St) (W : List Str) (path : List Nat) (d : D) (S : Sto) (Q : D → Sto → Prop), St.tks ss W → St.hts ss ≤ 8 → W.length ≤ 15000 → path.length < 1000000 → subP (St.ds ss) path = some d → (∀ l, Q d (S ++ l)) → (pa [.tup (St.ds ss), .tup (path.map dN)] S).wp Q
theorem sub_vl {p w : Nat} {S : Sto} : ∀ {path : List Nat} {its : List D} {d : D} {W h : Nat}, subP its path = some d → Vls p 0 w W h S its → Vl p 0 w W h S d
  | [], _, _, _, _, e, _ => by cases e
  | [n], its, d, _, _, e, v => v.mem (List.mem_of_getElem? e)
  | n :: k :: r, its, d, W, h, e, v => by
    obtain ⟨lab, lots, its2, h1, h2, h3⟩ := subP_two e
    have v1 := v.mem (List.mem_of_getElem? h1)
    obtain ⟨_, _, v2⟩ := v1.untup
    obtain ⟨_, _, hw1, _, v3⟩ := v2.uncons
    obtain ⟨_, _, hw2, v4, _⟩ := v3.uncons
    obtain ⟨_, _, v5⟩ := v4.untup
    have v6 := v5.mem (List.mem_of_getElem? h2)
    obtain ⟨_, _, v7⟩ := v6.untup
    exact (sub_vl h3 v7).le (Nat.le_refl _) (Nat.le_refl _) (by omega) (by omega)
theorem st_vls {ss : List St} {W : List Str} (S : Sto) (ht : St.tks ss W) (hh : St.hts ss ≤ 8) (hW : W.length ≤ 15000) : Vls 0 0 15000 900000 24 S (St.ds ss) :=
  (sts_vl (p := 0) (w := 15000) (S := S) (by decide) ss W ht hW).le (Nat.le_refl _) (Nat.le_refl _) (by omega) (by omega)
theorem st_vt {ss : List St} {W : List Str} (S : Sto) (ht : St.tks ss W) (hh : St.hts ss ≤ 8) (hW : W.length ≤ 15000) : Vl 0 0 15000 900000 25 S (.tup (St.ds ss)) :=
  (st_vls S ht hh hW).tup (by rw [stds_len]; have := stks_len ht; omega)
def k7Body (rd it tr pa : F) : MS := (sSeq (sIf (tOr (tVal (mBin fNe (mCB cRepr (aCons (mCB rd (aCons (mVar 6) aNil)) aNil)) (mCB cRepr (aCons (mTup (aCons (mVar 7) aNil)) aNil)))) (tVal (mBin fNotB (mCB it (aCons (mTup (aCons (mVar 7) aNil)) aNil)) (mC (.bl true))))) (sRet (mC (.bl false))) sNil)
  (sSeq (sFor (iVal (mCB tr (aCons (mTup (aCons (mVar 7) aNil)) (aCons (mTup aNil) aNil)))) (.tp [(.nm 9), (.nm 10)]) (sIf (tVal (mBin fNe (mCB cRepr (aCons (mCB pa (aCons (mTup (aCons (mVar 7) aNil)) (aCons (mVar 9) aNil))) aNil)) (mCB cRepr (aCons (mVar 10) aNil)))) (sRet (mC (.bl false))) sNil))
  (sSet 5 (mBin fAdd (mVar 5) (mTup (aCons (mVar 7) aNil))))))
section
variable {rd it tr pa : F} {x : Str} {s : St} {W : List Str} {S : Sto} {ds : List D} {v0 v1 v2 v3 v4 v8 v9 v10 v11 : Option D} {N : En → Sto → Prop} {R' : D → Sto → Prop}
theorem body_wp (R : ReadA rd) (T : TreeA it) (Tr : TrailsOk 8 tr) (Pa : PartA pa) (hx : TxW x W) (ht : St.tks [s] W) (hh : St.hts [s] ≤ 8) (hW : W.length ≤ 15000) (hds : ds.length ≤ 100)
    (q : ∀ l v9 v10, N [v0, v1, v2, v3, v4, some (.tup (ds ++ [s.d])), some (.str x), some s.d, v8, v9, v10, v11] (S ++ l)) :
    RS.wp (k7Body rd it tr pa [v0, v1, v2, v3, v4, some (.tup ds), some (.str x), some s.d, v8, v9, v10, v11] S) N R' := by
  have big := sl6
  unfold k7Body
  rw [s_seq, s_if, w_tor, w_val, w_bin, w_cb]
  simp only [w_cons, w_cb, w_nil, w_var, List.getElem?_cons_zero, List.getElem?_cons_succ]
  refine R x [s] W S _ hx ht hh hW fun l1 => ?_
  refine w_repr (st_vt (S ++ l1) ht hh hW) (by decide) (by decide) (by decide) fun z hz => ?_
  rw [w_tup]
  simp only [w_cons, w_nil, w_var, List.getElem?_cons_zero, List.getElem?_cons_succ]
  refine ⟨by show 1 ≤ _; omega, ?_⟩
  refine w_repr (d := .tup [s.d]) (st_vt (ss := [s]) (S ++ l1) ht hh hW) (by decide) (by decide) (by decide) fun z2 hz2 => ?_
  have ez : z2 = z := by
    have hz : pyD (S ++ l1) (.tup [s.d]) = some z := hz
    rw [hz] at hz2
    exact (Option.some.inj hz2).symm
  subst ez
  rw [w_ne eqN_str]
  refine ⟨_, rfl, ?_⟩
  rw [if_neg (by simp), w_val, w_bin, w_cb]
  simp only [w_cons, w_cb, w_tup, w_nil, w_var, w_c, List.getElem?_cons_zero, List.getElem?_cons_succ]
  refine ⟨by show 1 ≤ _; omega, ?_⟩
  refine T [s] W (S ++ l1) _ ht hh hW fun l2 => ?_
  show Res.wp (Res.ok (D.bl false) _) _
  rw [wp_ok]
  refine ⟨_, rfl, ?_⟩
  rw [if_neg Bool.false_ne_true, s_nil, s_seq, s_for, i_val, w_cb]
  simp only [w_cons, w_tup, w_nil, w_var, List.getElem?_cons_zero, List.getElem?_cons_succ]
  refine ⟨by show 1 ≤ _; omega, by show 0 ≤ _; omega, ?_⟩
  have vs := st_vls (S ++ l1 ++ l2) ht hh hW
  have hp1 : ∀ d ∈ St.ds [s], Pt1 8 d := fun d hd => ⟨_, sts_part [s] W ht 8 hh d hd⟩
  refine Tr (St.ds [s]) [] 0 15000 900000 24 (S ++ l1 ++ l2) _ hp1 vs (by show 1 ≤ 15000; decide) (by decide) (by decide) (by show 0 + 2 * 8 + 2 < 1000000; decide) fun xs l3 hxl hxs => ?_
  have hn0 : ∀ l4, (S ++ l1 ++ l2 ++ (Ob.lst xs :: l3) ++ l4)[(S ++ l1 ++ l2).length]? = some (.lst xs) := fun l4 => by
    rw [List.append_assoc _ _ l4, List.getElem?_append_right (Nat.le_refl _), Nat.sub_self]
    rfl
  have hn := hn0 []
  rw [List.append_nil] at hn
  refine ⟨(xs, stands (S ++ l1 ++ l2).length xs), by show (match (S ++ l1 ++ l2 ++ (Ob.lst xs :: l3))[(S ++ l1 ++ l2).length]? with | some (Ob.lst ds) => some (ds, stands (S ++ l1 ++ l2).length ds) | _ => none) = _; rw [hn], ?_⟩
  refine loop_wp (fun r ρ S' => ∃ (l4 : List Ob) (u9 u10 : Option D), S' = S ++ l1 ++ l2 ++ (Ob.lst xs :: l3) ++ l4 ∧ ρ = [v0, v1, v2, v3, v4, some (.tup ds), some (.str x), some s.d, v8, u9, u10, v11] ∧ ∀ y ∈ r, y ∈ xs) (fun r ρ S' hI => ?_) (fun y r ρ S' hI => ?_) (fun ρ S' hI => ?_) xs _ _ ⟨[], _, _, by rw [List.append_nil], rfl, fun y hy => hy⟩
  · obtain ⟨l4, u9, u10, rfl, rfl, hr⟩ := hI
    exact decide_eq_true (hn0 l4)
  · obtain ⟨l4, u9, u10, rfl, rfl, hr⟩ := hI
    obtain ⟨path, d, rfl, hsub, hpl⟩ := hxs y (hr y List.mem_cons_self)
    refine ⟨_, rfl, ?_⟩
    simp only [List.set_cons_zero, List.set_cons_succ]
    rw [s_if, w_val, w_bin, w_cb]
    simp only [w_cons, w_cb, w_tup, w_nil, w_var, List.getElem?_cons_zero, List.getElem?_cons_succ]
    refine ⟨by show 1 ≤ _; omega, ?_⟩
    rw [List.nil_append]
    refine Pa [s] W path d _ _ ht hh hW (by omega) hsub fun l5 => ?_
    have vd : Vl 0 0 15000 900000 24 (S ++ l1 ++ l2 ++ (Ob.lst xs :: l3) ++ l4 ++ l5) d := sub_vl hsub (st_vls _ ht hh hW)
    refine w_repr vd (by decide) (by decide) (by decide) fun z hz => ?_
    refine w_repr vd (by decide) (by decide) (by decide) fun z2 hz2 => ?_
    have ez : z2 = z := by
      rw [hz] at hz2
      exact (Option.some.inj hz2).symm
    subst ez
    rw [w_ne eqN_str]
    refine ⟨_, rfl, ?_⟩
    rw [if_neg (by simp), s_nil]
    exact ⟨l4 ++ l5, _, _, by rw [List.append_assoc _ l4 l5], rfl, fun y hy => hr y (List.mem_cons_of_mem _ hy)⟩
  · obtain ⟨l4, u9, u10, rfl, rfl, hr⟩ := hI
    rw [s_set, w_bin, w_var]
    simp only [w_tup, w_cons, w_nil, w_var, List.getElem?_cons_zero, List.getElem?_cons_succ]
    refine ⟨by show 1 ≤ _; omega, ?_⟩
    rw [w_addT]
    refine ⟨by show _ + 1 ≤ _; omega, ?_⟩
    simp only [List.set_cons_zero, List.set_cons_succ]
    rw [List.append_assoc, List.append_assoc, List.append_assoc]
    exact q _ _ _
end
end Mn

set_option Elab.async false
set_option linter.all false
set_option maxRecDepth 100000
set_option maxHeartbeats 4000000
/-! k07: one lap. -/
namespace Mn
open PySem PySem.Spec PyProof.Rows L2
theorem RowsP.get : ∀ {qs : List (Str × St)}, RowsP (qs.map (·.1)) (qs.map (·.2)) → ∀ q ∈ qs, RowP q.1 q.2
  | [], _, q, hq => by cases hq
  | p :: r, .cons h1 h2, q, hq => by
    rcases List.mem_cons.mp hq with rfl | hq
    · exact h1
    · exact RowsP.get h2 q hq
theorem sds_map : ∀ ss : List St, St.ds ss = ss.map St.d
  | [] => rfl
  | s :: ss => by
    show s.d :: St.ds ss = _
    rw [sds_map ss]
    rfl
abbrev toD (q : Str × St) : D := .tup [.str q.1, q.2.d]
/-- [page for page, limb in rows] -/
theorem pages_wp {qs : List (Str × St)} {m : Nat} {S : Sto} {ρ : En} {Q : D → Sto → Prop} (h4 : ρ[4]? = some (some (.ref m))) (hl : 8 ≤ ρ.length) (hm : S[m]? = some (.lst (qs.map toD))) (hq : qs.length ≤ 100) (q : ∀ S', S' = S ++ [.lst (qs.map fun q => D.str q.1)] → Q (.ref S.length) S') :
    (mComp (iVal (mVar 4)) (.tp [(.nm 6), (.nm 7)]) tYesM (mVar 6) [6, 7] ρ S).wp Q := by
  have hml := (List.getElem?_eq_some_iff.mp hm).1
  refine w_comp (by simp [Pt.within, Pt.withins]) ?_
  rw [i_val, w_var, h4]
  dsimp only
  refine ⟨(qs.map toD, stands m (qs.map toD)), by show (match S[m]? with | some (Ob.lst ds) => some (ds, stands m ds) | _ => none) = _; rw [hm], ?_⟩
  show Res.wp (mCompL _ tYesM _ (stands m (qs.map toD)) S.length (wipeE ρ [6, 7]) (qs.map toD) (S ++ [.lst []])) _
  refine comp_wp (I := fun r acc S' => ∃ done rest, S' = S ++ [.lst acc] ∧ acc = done.map (fun q : Str × St => D.str q.1) ∧ done ++ rest = qs ∧ r = rest.map toD) (fun r acc S' => ?_) (fun d r acc S' => ?_) (fun acc S' => ?_) (qs.map toD) [] _ ⟨[], qs, rfl, rfl, rfl, rfl⟩ List.getElem?_concat_length
  · rintro ⟨done, rest, rfl, _, _, _⟩
    exact decide_eq_true (at_app hm _)
  · rintro ⟨done, rest, rfl, ha, hd, hr⟩ hn
    cases rest with
    | nil => cases hr
    | cons e rest =>
      rw [List.map_cons] at hr
      injection hr with hr1 hr2
      subst hr1
      refine ⟨((wipeE ρ [6, 7]).set 6 (some (.str e.1))).set 7 (some e.2.d), rfl, ?_⟩
      rw [w_var]
      have g6 : (((wipeE ρ [6, 7]).set 6 (some (.str e.1))).set 7 (some e.2.d))[6]? = some (some (.str e.1)) := by
        rw [List.getElem?_set_ne (by decide), List.getElem?_set_self]
        show 6 < ((ρ.set 7 none).set 6 none).length
        rw [List.length_set, List.length_set]
        omega
      rw [g6]
      dsimp only
      refine ⟨hn, ?_, done ++ [e], rest, ?_, ?_, ?_, hr2⟩
      · rw [ha, List.length_map, sizeLine_eq]
        have := congrArg List.length hd
        rw [List.length_append, List.length_cons] at this
        omega
      · rw [List.set_append_right _ _ (Nat.le_refl _), Nat.sub_self]
        rfl
      · rw [ha, List.map_append]
        rfl
      · rw [List.append_assoc]
        exact hd
  · rintro ⟨done, rest, rfl, ha, hd, hr⟩ hn
    have : rest = [] := List.map_eq_nil_iff.mp hr.symm
    subst this
    rw [List.append_nil] at hd
    subst hd
    subst ha
    exact q _ rfl
theorem w_join {S : Sto} {n : Nat} {y : Str} {xs : List Str} {Q : D → Sto → Prop} (h : S[n]? = some (.lst (xs.map D.str))) (hl : (xs.map (·.length)).sum + xs.length * y.length ≤ 16777216) (q : Q (.str (Txt.join y xs)) S) : (fJoin (.str y) [.ref n] S).wp Q := by
  have e : fJoin (.str y) [.ref n] S = if (xs.map (·.length)).sum + xs.length * y.length ≤ 16777216 then .ok (.str (Txt.join y xs)) S else .bad := by
    show (match S[n]? with
      | some (.lst xs) => (match strsOf xs with
        | some ys => if (ys.map (·.length)).sum + ys.length * y.length ≤ 16777216 then .ok (.str (Txt.join y ys)) S else .bad
        | none => .bad)
      | _ => .bad : Res D) = _
    rw [h]
    show (match strsOf (xs.map D.str) with
        | some ys => if (ys.map (·.length)).sum + ys.length * y.length ≤ 16777216 then .ok (.str (Txt.join y ys)) S else .bad
        | none => .bad : Res D) = _
    rw [strsOf_map]
  rw [e, if_pos hl]
  exact q
theorem sum_le {b : Nat} : ∀ {xs : List Nat}, (∀ x ∈ xs, x ≤ b) → xs.sum ≤ b * xs.length
  | [], _ => Nat.le_refl _
  | x :: xs, h => by
    have := sum_le (xs := xs) (b := b) fun y hy => h y (List.mem_cons_of_mem _ hy)
    have := h x List.mem_cons_self
    rw [List.sum_cons, List.length_cons, Nat.mul_add, Nat.mul_one]
    omega
theorem RowsP.lens : ∀ {xs : List Str} {ss : List St}, RowsP xs ss → ∀ x ∈ xs, x.length ≤ 3000
  | _, _, .nil, _, h => by cases h
  | _, _, .cons h1 h2, x, h => by
    rcases List.mem_cons.mp h with rfl | h
    · obtain ⟨_, _, _, _, _, _, h, _⟩ := h1
      exact h
    · exact RowsP.lens h2 x h
section
variable {rd it tr pa : F}
theorem right_wp (R : ReadA rd) (T : TreeA it) (Tr : TrailsOk 8 tr) (Pa : PartA pa) : RightOk 100 (g_w_right (g_w_letters fTake (fOf fTake)) (fOf fTake) fTake g_w_rows rd it tr pa) := by
  intro p c S Q hp hc q
  have big := sl6
  unfold g_w_right
  refine w_def rfl ?_
  rw [s_seq, s_set]
  simp only [List.map_cons, List.map_nil, List.length_cons, List.length_nil, List.cons_append, List.nil_append, List.reduceReplicate, Nat.reduceAdd, Nat.reduceSub]
  refine w_comp rfl ?_
  rw [i_val, w_c]
  refine ⟨_, rfl, ?_⟩
  show Res.wp (mCompL _ tYesM _ always S.length (wipeE _ [8]) (("xyzw" : Str).cps.toList.map fun c => D.str ⟨#[c]⟩) (S ++ [.lst []])) _
  refine compP (p := p) (C := 8) (c := c) (S0 := S) (vs := [8]) _ (fun acc => ∃ xs : List Str, acc = xs.map D.str ∧ ∀ x ∈ xs, nameB x = true) ⟨[], rfl, fun _ h => by cases h⟩ (by decide +kernel) hp (Ext.refl p S) (fun k d S' acc Q' hk x h1 ha hl q' => ?_) (fun items S1 hi hl x1 h1 hs1 => ?_)
  · obtain ⟨e, he, rfl⟩ := List.mem_map.mp (List.mem_of_getElem? hk)
    have hk4 : k < 4 := (List.getElem?_eq_some_iff.mp hk).1
    refine ⟨_, rfl, ?_⟩
    rw [w_cb]
    simp only [w_cons, w_nil, w_var, wipeE, List.set_cons_zero, List.set_cons_succ, List.getElem?_cons_zero, List.getElem?_cons_succ]
    refine letters_wp h1 (by omega) he fun y S'' x2 h2 hy => ?_
    refine q' _ S'' x2 (h2.le (by push_cast; omega)) ?_
    obtain ⟨xs, rfl, hxs⟩ := ha
    refine ⟨xs ++ [y], by rw [List.map_append]; rfl, fun z hz => ?_⟩
    rcases List.mem_append.mp hz with hz | hz
    · exact hxs z hz
    · rw [List.mem_singleton.mp hz]
      exact hy
  · have hlen4 : (("xyzw" : Str).cps.toList.map fun c => D.str ⟨#[c]⟩).length = 4 := by decide +kernel
    rw [hlen4] at hl h1
    obtain ⟨xs, rfl, hxs⟩ := hi
    rw [List.length_map] at hl
    obtain ⟨a, b, cc, d, rfl⟩ : ∃ a b cc d, xs = [a, b, cc, d] := by
      match xs, hl with
      | [a, b, cc, d], _ => exact ⟨a, b, cc, d, rfl⟩
    have h1 := h1.le (show c + (4 : Nat) * (8 : Nat) ≤ c + 32 by omega)
    have hne : S.length ≠ p := by have := hp.lt; omega
    simp only [List.set_cons_zero, List.set_cons_succ]
    rw [s_seq, s_set]
    refine numbers_wp rfl h1 (by omega) fun g S2 x2 h2 hg => ?_
    simp only [List.set_cons_zero, List.set_cons_succ]
    rw [s_seq, s_set, w_mt]
    refine drawn_wp (p := p) (m := 41) (v := 11) (al := "abc019 ") rfl (by show 11 < 12; decide) (by decide) h2 (by omega) rfl (by decide) (by decide) (by decide +kernel) (by decide +kernel) (fun ρ' S' Q hρ => Iff.rfl) fun y S3 x3 h3 hyl hyk => ?_
    refine ⟨rfl, ?_⟩
    simp only [w_cons, w_nil, w_c]
    rw [w_stripC]
    refine ⟨by omega, ?_⟩
    obtain ⟨z1, z2, z3⟩ := strip_ends y
    generalize Txt.stripChars y " " = z at z1 z2 z3 ⊢
    have hz : noteB z = true := note_of_ends z1 (by omega) (List.all_eq_true.mpr fun k hk => decide_eq_true (by
      have key : (("abc019 " : Str).cps.toList.all fun k => decide (k ∈ noteA.cps.toList)) = true := by decide +kernel
      exact of_decide_eq_true (List.all_eq_true.mp key k (hyk k (z2 k hk)))))
    have ws : Ws a b cc d g z := ⟨hxs a (by simp), hxs b (by simp), hxs cc (by simp), hxs d (by simp), hg, hz, z1⟩
    simp only [List.set_cons_zero, List.set_cons_succ]
    rw [s_seq, s_par]
    simp only [w_cons, w_cb, w_tup, w_nil, w_var, List.getElem?_cons_zero, List.getElem?_cons_succ]
    have hs3 : S3[S.length]? = some (.lst [.str a, .str b, .str cc, .str d]) := x3.at_ (x2.at_ hs1 hne) hne
    refine rows_wp ws hs3 fun m l4 hm => ⟨by show 0 ≤ _; omega, _, _, rfl, ?_⟩
    simp only [List.set_cons_zero, List.set_cons_succ]
    have hall := all_rows ws
    have hlen : (theRows a b cc d g z).length = 12 := rfl
    generalize theRows a b cc d g z = qs at hall hlen hm
    have x4 : Ext p S (S3 ++ l4) := (((x1.trans x2).trans x3).app l4)
    have h4 : Pot p (c + 100) (S3 ++ l4) := (h3.app l4).le (by omega)
    generalize S3 ++ l4 = S4 at hm x4 h4
    rw [s_seq, s_for, i_val, w_var]
    simp only [List.getElem?_cons_zero, List.getElem?_cons_succ]
    refine ⟨(qs.map toD, stands m (qs.map toD)), by show (match S4[m]? with | some (Ob.lst ds) => some (ds, stands m ds) | _ => none) = _; rw [hm], ?_⟩
    refine loop_wp (fun r ρ S' => ∃ (l : List Ob) (done rest : List (Str × St)) (v6 v7 v8 v9 v10 v11 : Option D), S' = S4 ++ l ∧ done ++ rest = qs ∧ r = rest.map toD ∧ ρ = [some (.ref p), some (.ref S.length), some (.str g), some (.str z), some (.ref m), some (.tup (done.map fun q => q.2.d)), v6, v7, v8, v9, v10, v11]) (fun r ρ S' hI => ?_) (fun y r ρ S' hI => ?_) (fun ρ S' hI => ?_) _ _ _ ⟨[], [], qs, _, _, _, _, _, _, by rw [List.append_nil], rfl, rfl, rfl⟩
    · obtain ⟨l, done, rest, v6, v7, v8, v9, v10, v11, rfl, hd, hr, rfl⟩ := hI
      exact decide_eq_true (at_app hm l)
    · obtain ⟨l, done, rest, v6, v7, v8, v9, v10, v11, rfl, hd, hr, rfl⟩ := hI
      cases rest with
      | nil => cases hr
      | cons e rest =>
        rw [List.map_cons] at hr
        injection hr with hr1 hr2
        subst hr1 hr2
        refine ⟨_, rfl, ?_⟩
        simp only [List.set_cons_zero, List.set_cons_succ]
        have hrow := RowsP.get hall e (by rw [← hd]; simp)
        have hh : St.hts [e.2] ≤ 8 := by
          obtain ⟨_, _, _, _, _, _, _, h8⟩ := hrow
          show max e.2.ht 0 ≤ 8
          omega
        obtain ⟨W, w1, w2, w3⟩ := row_txw hrow
        have hdl : done.length ≤ 12 := by
          have := congrArg List.length hd
          rw [List.length_append] at this
          omega
        show RS.wp (k7Body rd it tr pa _ _) _ _
        refine body_wp R T Tr Pa w1 w2 hh w3 (by rw [List.length_map]; omega) fun l2 u9 u10 => ?_
        exact ⟨l ++ l2, done ++ [e], rest, _, _, _, _, _, _, by rw [List.append_assoc], by rw [List.append_assoc]; exact hd, rfl, by rw [List.map_append]; rfl⟩
    · obtain ⟨l, done, rest, v6, v7, v8, v9, v10, v11, rfl, hd, hr, rfl⟩ := hI
      have hrn : rest = [] := List.map_eq_nil_iff.mp hr.symm
      subst hrn
      rw [List.append_nil] at hd
      subst hd
      rw [s_ret, w_bin, w_cb, w_cons, w_cb, w_cons, w_mt, w_c]
      refine ⟨rfl, ?_⟩
      rw [w_cons]
      refine pages_wp (qs := done) (m := m) rfl (by show 8 ≤ 12; decide) (at_app hm l) (by omega) fun S5 e5 => ?_
      simp only [w_nil]
      have hne2 : done.map (·.1) ≠ [] := by
        intro e
        have := congrArg List.length e
        rw [List.length_map, hlen] at this
        cases this
      have hs5 : S5[(S4 ++ l).length]? = some (.lst ((done.map (·.1)).map D.str)) := by
        rw [e5, List.map_map]
        exact List.getElem?_concat_length
      have hfeed : ("\n" : Str).length = 1 := by decide +kernel
      refine w_join hs5 ?_ ?_
      · have := sum_le (b := 3000) (xs := (done.map (·.1)).map (·.length)) fun k hk => by
          obtain ⟨x, hx, rfl⟩ := List.mem_map.mp hk
          exact RowsP.lens hall x hx
        rw [List.length_map, List.length_map, hlen] at this
        rw [List.length_map, hlen, hfeed]
        omega
      · obtain ⟨W, w1, w2, w3, w4⟩ := rows_txw hall hne2 (by rw [List.length_map]; omega)
        refine R _ _ W S5 _ w1 w2 w4 w3 fun l6 => ?_
        have vt := st_vt (S5 ++ l6) w2 w4 w3
        refine w_repr vt (by decide) (by decide) (by decide) fun z1 hz1 => ?_
        rw [w_cb, w_cons, w_var]
        simp only [w_nil, List.getElem?_cons_zero, List.getElem?_cons_succ]
        have ed : done.map (fun q => q.2.d) = St.ds (done.map (·.2)) := by
          rw [sds_map, List.map_map]
          rfl
        rw [ed]
        refine w_repr vt (by decide) (by decide) (by decide) fun z2 hz2 => ?_
        have ez : z2 = z1 := by
          rw [hz1] at hz2
          exact (Option.some.inj hz2).symm
        subst ez
        rw [w_eq eqN_str, beq_self_eq_true]
        have e7 : S5 ++ l6 = S4 ++ (l ++ [.lst (done.map fun q => D.str q.1)] ++ l6) := by
          rw [e5, List.append_assoc, List.append_assoc, List.append_assoc]
        rw [e7]
        exact q _ (x4.app _) (h4.app _)
end
end Mn

set_option Elab.async false
set_option linter.all false
set_option maxRecDepth 100000
set_option maxHeartbeats 4000000
/-! the mirror of the law is true: all parts put together -/
namespace LK
open PySem PySem.Spec PyProof.Rows L2 Mn
def rfu : F := f_Reader_refuse fun _ _ _ => .bad
theorem e12 (k : Nat) : tab (k + 1) 12 = rfu := by
  show f_Reader_refuse (tab k) = f_Reader_refuse _
  unfold f_Reader_refuse
  rfl
theorem e11 (k : Nat) : tab (k + 1) 11 = nW := rfl
theorem e0 (k : Nat) : tab (k + 1) 0 = g_are_all := rfl
theorem e1 (k : Nat) : tab (k + 2) 1 = g_is_name g_are_all := by
  show g_is_name (tab (k + 1) 0) = _
  rw [e0]
theorem e2 (k : Nat) : tab (k + 2) 2 = g_is_number g_are_all := by
  show g_is_number (tab (k + 1) 0) = _
  rw [e0]
theorem e3 (k : Nat) : tab (k + 2) 3 = g_is_note g_are_all := by
  show g_is_note (tab (k + 1) 0) = _
  rw [e0]
theorem e5 (k : Nat) : tab (k + 1) 5 = g_note_of := rfl
theorem e9 (k : Nat) : tab (k + 1) 9 = g_node_of := rfl
theorem e13 (k : Nat) : tab (k + 2) 13 = gTake rfu := by
  show g_Reader_take (tab (k + 1) 11) (tab (k + 1) 12) = _
  rw [e11, e12]
theorem e14 (k : Nat) : tab (k + 3) 14 = gTakeN rfu := by
  show g_Reader_take_name (tab (k + 2) 11) (tab (k + 2) 1) (tab (k + 2) 12) = _
  rw [e11, e1, e12]
theorem e28 (k : Nat) : tab (k + 3) 28 = fLab := by
  show g_is_label (tab (k + 2) 1) (tab (k + 2) 2) (tab (k + 2) 3) = _
  rw [e1, e2, e3]
theorem rdfam : RdFam (fun k => tab k 24) (fun k => tab k 23) (fun k => tab k 22) (fun _ => rfu) := by
  refine ⟨fun k hk => ?_, fun k hk => ?_, fun k hk => ?_⟩ <;> obtain ⟨m, rfl⟩ : ∃ m, k = m + 3 := ⟨k - 3, by omega⟩
  · show g_Reader_term (tab (m + 3) 11) (tab (m + 3) 13) (tab (m + 3) 23) (tab (m + 3) 9) (tab (m + 3) 22) (tab (m + 3) 2) (tab (m + 3) 14) = _
    rw [e11, e13, e9, e2, e14]
  · show g_Reader_expression (tab (m + 3) 24) (tab (m + 3) 9) (tab (m + 3) 11) (tab (m + 3) 13) = _
    rw [e11, e13, e9]
  · show g_Reader_expressions (tab (m + 3) 11) (tab (m + 3) 23) (tab (m + 3) 13) = _
    rw [e11, e13]
theorem stfam : StFam (fun k => tab k 24) (fun k => tab k 23) (fun k => tab k 22) (fun k => tab k 16) (fun k => tab k 15) (fun k => tab k 20) (fun k => tab k 21) (fun k => tab k 18) (fun k => tab k 17) (fun k => tab k 19) (fun _ => rfu) := by
  refine ⟨rdfam, fun k hk => ?_, fun k hk => ?_, fun k hk => ?_, fun k hk => ?_, fun k hk => ?_, fun k hk => ?_, fun k hk => ?_⟩ <;> obtain ⟨m, rfl⟩ : ∃ m, k = m + 3 := ⟨k - 3, by omega⟩
  · show g_Reader_statements (tab (m + 3) 11) (tab (m + 3) 16) = _
    rw [e11]
  · show g_Reader_statement (tab (m + 3) 11) (tab (m + 3) 21) (tab (m + 3) 18) (tab (m + 3) 17) (tab (m + 3) 5) (tab (m + 3) 19) = _
    rw [e11, e5]
  · show g_Reader_block (tab (m + 3) 13) (tab (m + 3) 15) = _
    rw [e13]
  · show g_Reader_branching (tab (m + 3) 13) (tab (m + 3) 23) (tab (m + 3) 20) (tab (m + 3) 9) (tab (m + 3) 11) = _
    rw [e13, e9, e11]
  · show g_Reader_giving (tab (m + 3) 13) (tab (m + 3) 23) (tab (m + 3) 9) = _
    rw [e13, e9]
  · show g_Reader_noting (tab (m + 3) 3) (tab (m + 3) 12) (tab (m + 3) 9) = _
    rw [e3, e12, e9]
  · show g_Reader_setting (tab (m + 3) 14) (tab (m + 3) 11) (tab (m + 3) 13) (tab (m + 3) 23) (tab (m + 3) 9) (tab (m + 3) 22) = _
    rw [e14, e11, e13, e9]
theorem ps_all : ∀ n k, n + 1 ≤ k → PartsOk n (tab k 26)
  | 0, k, hk => by
    obtain ⟨m, rfl⟩ : ∃ m, k = m + 1 := ⟨k - 1, by omega⟩
    have e : tab (m + 1) 26 = g_parts_of (tab m 26) := rfl
    rw [e]
    exact parts_zero
  | n + 1, k, hk => by
    obtain ⟨m, rfl⟩ : ∃ m, k = m + 1 := ⟨k - 1, by omega⟩
    have e : tab (m + 1) 26 = g_parts_of (tab m 26) := rfl
    rw [e]
    exact parts_succ (ps_all n m (by omega))
theorem read_ok : ReadA (tab 98 27) := by
  have e6 : ∀ k, tab (k + 1) 6 = g_end_of := fun k => rfl
  have e7 : ∀ k, tab (k + 2) 7 = g_words_in g_end_of := fun k => by
    show g_words_in (tab (k + 1) 6) = _
    rw [e6]
  have e8 : ∀ k, tab (k + 3) 8 = g_words_of (g_words_in g_end_of) := fun k => by
    show g_words_of (tab (k + 2) 7) = _
    rw [e7]
  have e10 : ∀ k, tab (k + 4) 10 = g_Reader___init__ (g_words_of (g_words_in g_end_of)) := fun k => by
    show g_Reader___init__ (tab (k + 3) 8) = _
    rw [e8]
  have e25 : ∀ k, tab (k + 5) 25 = g_nodes_of (g_Reader___init__ (g_words_of (g_words_in g_end_of))) (tab (k + 4) 15) nW rfu := fun k => by
    show g_nodes_of (tab (k + 4) 10) (tab (k + 4) 15) (tab (k + 4) 11) (tab (k + 4) 12) = _
    rw [e10, e11, e12]
  have e : ∀ k, tab (k + 6) 27 = g_read (g_nodes_of (g_Reader___init__ (g_words_of (g_words_in g_end_of))) (tab (k + 4) 15) nW rfu) (tab (k + 5) 26) := fun k => by
    show g_read (tab (k + 5) 25) (tab (k + 5) 26) = _
    rw [e25]
  rw [e 92]
  intro x ss W S Q hx ht hh hW q
  exact read_wp ((stfam.all 8).2 ss (92 + 4) hh (by decide)) (ps_all 8 (92 + 5) (by decide)) hh (by rw [stds_len]; have := stks_len ht; omega) (sts_wd ht (by omega) 8) hx ht q
theorem looks (k : Nat) (hk : 20 ≤ k) (p w W : Nat) (hw : w < sizeLine) (hW : W < sizeLine) : PartOk 8 (3 * 8) p 0 w W (tab k 29) :=
  parts_look (lab := fun k => tab k 28) (pt := fun k => tab k 29) (lt := fun k => tab k 30) (fun k hk => by
    obtain ⟨m, rfl⟩ : ∃ m, k = m + 3 := ⟨k - 3, by omega⟩
    exact e28 m) (fun _ => rfl) (fun _ => rfl) hw hW 8 k hk
theorem tree_ok {k : Nat} (hk : 22 ≤ k) : TreeA (tab k 31) := by
  obtain ⟨m, rfl⟩ : ∃ m, k = m + 1 + 1 := ⟨k - 2, by omega⟩
  have e : tab (m + 1 + 1) 31 = g_is_tree (g_is_lot (tab m 29)) := rfl
  rw [e]
  intro ss W S Q ht hh hW q
  exact tree_true (fun p w W' hw hW' => looks m (by omega) p w W' hw hW') ht hh (by omega) Q q
theorem part_ok : PartA (tab 98 35) := by
  have e4 : ∀ k, tab (k + 1) 4 = g_is_integer := fun k => rfl
  have e34 : ∀ k, tab (k + 2) 34 = g_leads g_is_integer := fun k => by
    show g_leads (tab (k + 1) 4) = _
    rw [e4]
  have e33 : ∀ k, tab (k + 1) 33 = g_lot_at := fun k => rfl
  have e32 : ∀ k, tab (k + 1) 32 = g_check_tree (tab k 31) := fun k => rfl
  have e : ∀ k, tab (k + 3) 35 = g_part_at (g_check_tree (tab (k + 1) 31)) (g_leads g_is_integer) g_lot_at := fun k => by
    show g_part_at (tab (k + 2) 32) (tab (k + 2) 34) (tab (k + 2) 33) = _
    rw [e34, e33, e32]
  rw [e 95]
  intro ss W path d S Q ht hh hW hp hs q
  exact part_at_wp (fun Q' q' => tree_ok (by decide) ss W S Q' ht hh hW q') hp hs q
def deep : Nat := 100
theorem e37 (k : Nat) : tab (k + 1) 37 = fTake := rfl
theorem e38 (k : Nat) : tab (k + 2) 38 = fOf fTake := by
  show fOf (tab (k + 1) 37) = _
  rw [e37]
theorem e36 (k : Nat) : tab (k + 1) 36 = fPot := rfl
theorem e40 (k : Nat) : tab (k + 3) 40 = g_w_letters fTake (fOf fTake) := by
  show g_w_letters (tab (k + 2) 37) (tab (k + 2) 38) = _
  rw [e37, e38]
theorem e41 (k : Nat) : tab (k + 1) 41 = g_w_rows := rfl
theorem e42 (k : Nat) : tab (k + 4) 42 = g_w_right (g_w_letters fTake (fOf fTake)) (fOf fTake) fTake g_w_rows (tab (k + 3) 27) (tab (k + 3) 31) (tab (k + 3) 39) (tab (k + 3) 35) := by
  show g_w_right (tab (k + 3) 40) (tab (k + 3) 38) (tab (k + 3) 37) (tab (k + 3) 41) (tab (k + 3) 27) (tab (k + 3) 31) (tab (k + 3) 39) (tab (k + 3) 35) = _
  rw [e40, e38, e37, e41]
theorem law_true (ns : List Int) (h : ns.length ≤ 63) : ∃ S', tab deep 43 [.fls (ns.map D.int)] [] = .ok (.bl true) S' := by
  have e : tab deep 43 = fLaw 4 3 (tab (98 + 1) 36) (tab (95 + 4) 42) := rfl
  rw [e, e36, e42]
  refine law_wp (m := 3) (C := 100) (by decide) rfl (by decide) (by decide) ?_ ns
  exact right_wp read_ok (tree_ok (by decide)) (trails_all (T := fun k => tab k 39) (fun _ => rfl) 8 98 (by decide)) part_ok
end LK

set_option Elab.async false
set_option linter.all false
set_option maxRecDepth 100000
set_option maxHeartbeats 0
namespace LK
open PySem PySem.Spec PyProof.Rows L2 Mn
section
variable {P : Program} {w : World} {K : PySem.W.Frag} {mg : Str → Option Value} {base : Heap} {cl : Nat → Value}
theorem all_at (a : Amb w K mg cs fn) : ∀ (k j : Nat), j < 44 → FG P w K mg base cl k (dfs j) (pss j) (tab k j)
  | 0, j, h => by
    match j, h with
    | 0, _ => exact fg_bad a 0 rfl rfl bi_are_all
    | 1, _ => exact fg_bad a 1 rfl rfl bi_is_name
    | 2, _ => exact fg_bad a 2 rfl rfl bi_is_number
    | 3, _ => exact fg_bad a 3 rfl rfl bi_is_note
    | 4, _ => exact fg_bad a 4 rfl rfl bi_is_integer
    | 5, _ => exact fg_bad a 5 rfl rfl bi_note_of
    | 6, _ => exact fg_bad a 6 rfl rfl bi_end_of
    | 7, _ => exact fg_bad a 7 rfl rfl bi_words_in
    | 8, _ => exact fg_bad a 8 rfl rfl bi_words_of
    | 9, _ => exact fg_bad a 9 rfl rfl bi_node_of
    | 10, _ => exact fg_bad a 10 rfl rfl bi_Reader___init__
    | 11, _ => exact fg_bad a 11 rfl rfl bi_Reader_next_word
    | 12, _ => exact fg_bad a 12 rfl rfl bi_Reader_refuse
    | 13, _ => exact fg_bad a 13 rfl rfl bi_Reader_take
    | 14, _ => exact fg_bad a 14 rfl rfl bi_Reader_take_name
    | 15, _ => exact fg_bad a 15 rfl rfl bi_Reader_statements
    | 16, _ => exact fg_bad a 16 rfl rfl bi_Reader_statement
    | 17, _ => exact fg_bad a 17 rfl rfl bi_Reader_noting
    | 18, _ => exact fg_bad a 18 rfl rfl bi_Reader_giving
    | 19, _ => exact fg_bad a 19 rfl rfl bi_Reader_setting
    | 20, _ => exact fg_bad a 20 rfl rfl bi_Reader_block
    | 21, _ => exact fg_bad a 21 rfl rfl bi_Reader_branching
    | 22, _ => exact fg_bad a 22 rfl rfl bi_Reader_expressions
    | 23, _ => exact fg_bad a 23 rfl rfl bi_Reader_expression
    | 24, _ => exact fg_bad a 24 rfl rfl bi_Reader_term
    | 25, _ => exact fg_bad a 25 rfl rfl bi_nodes_of
    | 26, _ => exact fg_bad a 26 rfl rfl bi_parts_of
    | 27, _ => exact fg_bad a 27 rfl rfl bi_read
    | 28, _ => exact fg_bad a 28 rfl rfl bi_is_label
    | 29, _ => exact fg_bad a 29 rfl rfl bi_is_part
    | 30, _ => exact fg_bad a 30 rfl rfl bi_is_lot
    | 31, _ => exact fg_bad a 31 rfl rfl bi_is_tree
    | 32, _ => exact fg_bad a 32 rfl rfl bi_check_tree
    | 33, _ => exact fg_bad a 33 rfl rfl bi_lot_at
    | 34, _ => exact fg_bad a 34 rfl rfl bi_leads
    | 35, _ => exact fg_bad a 35 rfl rfl bi_part_at
    | 36, _ => exact fg_bad a 36 rfl rfl bi_w_pot
    | 37, _ => exact fg_bad a 37 rfl rfl bi_w_take
    | 38, _ => exact fg_bad a 38 rfl rfl bi_w_of
    | 39, _ => exact fg_bad a 39 rfl rfl bi_w_trails
    | 40, _ => exact fg_bad a 40 rfl rfl bi_w_letters
    | 41, _ => exact fg_bad a 41 rfl rfl bi_w_rows
    | 42, _ => exact fg_bad a 42 rfl rfl bi_w_right
    | 43, _ => exact fg_bad a 43 rfl rfl bi_law
    | n + 44, h => exact absurd h (by omega)
  | k + 1, j, h => by
    have T := all_at a k
    match j, h with
    | 0, _ => exact q_are_all a T
    | 1, _ => exact q_is_name a T
    | 2, _ => exact q_is_number a T
    | 3, _ => exact q_is_note a T
    | 4, _ => exact q_is_integer a T
    | 5, _ => exact q_note_of a T
    | 6, _ => exact q_end_of a T
    | 7, _ => exact q_words_in a T
    | 8, _ => exact q_words_of a T
    | 9, _ => exact q_node_of a T
    | 10, _ => exact q_Reader___init__ a T
    | 11, _ => exact q_Reader_next_word a T
    | 12, _ => exact q_Reader_refuse a T
    | 13, _ => exact q_Reader_take a T
    | 14, _ => exact q_Reader_take_name a T
    | 15, _ => exact q_Reader_statements a T
    | 16, _ => exact q_Reader_statement a T
    | 17, _ => exact q_Reader_noting a T
    | 18, _ => exact q_Reader_giving a T
    | 19, _ => exact q_Reader_setting a T
    | 20, _ => exact q_Reader_block a T
    | 21, _ => exact q_Reader_branching a T
    | 22, _ => exact q_Reader_expressions a T
    | 23, _ => exact q_Reader_expression a T
    | 24, _ => exact q_Reader_term a T
    | 25, _ => exact q_nodes_of a T
    | 26, _ => exact q_parts_of a T
    | 27, _ => exact q_read a T
    | 28, _ => exact q_is_label a T
    | 29, _ => exact q_is_part a T
    | 30, _ => exact q_is_lot a T
    | 31, _ => exact q_is_tree a T
    | 32, _ => exact q_check_tree a T
    | 33, _ => exact q_lot_at a T
    | 34, _ => exact q_leads a T
    | 35, _ => exact q_part_at a T
    | 36, _ => exact q_w_pot a T
    | 37, _ => exact q_w_take a T
    | 38, _ => exact q_w_of a T
    | 39, _ => exact q_w_trails a T
    | 40, _ => exact q_w_letters a T
    | 41, _ => exact q_w_rows a T
    | 42, _ => exact q_w_right a T
    | 43, _ => exact q_law a T
    | n + 44, h => exact absurd h (by omega)
theorem facts {h : Heap} {f : Addr} (X : K.In h) (G : h.Ns mainGlobals mg) (hfa : mg ("law" : Str) = some (.ref f)) (c : SaysM cs fn w K) (k : Nat) (cl : Nat → Value) :
    ∃ fd : FuncData, (∀ (s : Shared) (u : Value), BindsTo s fd ⟨[u], []⟩ [("_law_script", u)]) ∧ ∀ base : Heap, K.In base → base.Ns mainGlobals mg → FnG P w K mg base (2 * k) f fd ["_law_script"] (spF K cl (tab k 43)) := by
  have a : Amb w K mg cs fn := amb_of X G c
  obtain ⟨fd, Fu⟩ := a.def_ 43 (d := dOf "law" 62) rfl
  have e := hfa.symm.trans (a.glo 43 (d := dOf "law" 62) rfl rfl)
  cases e
  refine ⟨fd, fun s u => FunD.bindsA (ps := ["_law_script"]) Fu bi_law s [u] rfl, fun base _ _ => ?_⟩
  obtain ⟨f', fd', F0, ⟨_, g⟩, _, _, G'⟩ := (all_at (P := P) (base := base) (cl := cl) a k 43 (by decide)).ex
  have g : mg ("law" : Str) = some (.ref f') := g rfl
  have e := hfa.symm.trans g
  cases e
  have e2 : fd' = fd := fd_inj F0 Fu
  rw [← e2]
  exact G'
end
end LK
open PySem PySem.W PySem.Calls PyProof.Rows
theorem PySem.Challenge.cw_styleamid_k07_kinds_by_hand_holds : PySem.Challenge.rw_styleamid_k07_kinds_by_hand.Holds := by
  w_on; o_law
  refine HandSHeadRun.head_any (r := OpenLaw.row PySem.Challenge.rw_styleamid_k07_kinds_by_hand) (q := view (OpenLaw.row PySem.Challenge.rw_styleamid_k07_kinds_by_hand).prog [62]) (H := LK.hk) (ob := LK.ob) (M := 20000) (loose := LK.names) (d := HandSHeadRun.topDef (OpenLaw.row PySem.Challenge.rw_styleamid_k07_kinds_by_hand).prog 62) (kwd := []) LK.ob_eq
    (by kernel_rfl) (fun s => by kernel_rfl) LK.run (by kernel_rfl) (by kernel_rfl) (by kernel_rfl) (by rfl) (by first | assumption | decide +kernel) (by decide +kernel) ⟨rfl, rfl, rfl, rfl, rfl, by decide +kernel⟩ ?hw ?hc
  case hw => w_witness2
  case hc =>
    refine Mn.walk_g (l := PySem.Challenge.rw_styleamid_k07_kinds_by_hand) (n := 63) (k := 2 * LK.deep) (x := "_law_script") (fn := LK.tab LK.deep 43) rfl (by decide) (by kernel_rfl) ⟨rfl, by decide, by decide⟩ ?F LK.law_true
    intro w mg fa h Y G hmg0
    obtain ⟨K, KX, c⟩ := Y
    have hmg : mg ("law" : PySem.Str) = some (.ref fa) := by
      have e : (HandSHeadRun.topDef (OpenLaw.row PySem.Challenge.rw_styleamid_k07_kinds_by_hand).prog 62).name = ("law" : PySem.Str) := by kernel_rfl
      rw [← e]
      exact hmg0
    obtain ⟨fd, hb, hF⟩ := LK.facts (P := (PySem.Challenge.rw_styleamid_k07_kinds_by_hand).prog) (w := w) KX G hmg c LK.deep (fun _ => .none)
    exact ⟨K, fd, fun _ => .none, KX, hb, hF⟩

