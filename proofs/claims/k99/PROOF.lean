import PyProof.Rows.All
import Wide.All
import OpenK.AllK
import Wide.FinOn
import HandS.ForMost
import HandS.Walk
import HandS.Exc
import HandS.ExcOwn
import HandS.TryOnly
import HandS.WordsExc
import HandS.Defaults
import HandS.HeadHook1
import HandS.TupAny
import HandS.Style
import HandS.Zip
import HandS.IsInst
import HandS.StrMore
import HandS.HeadEnd
import HandS.TupMul
import HandS.Small
import HandS.Deep
import HandS.Wide
import HandS.TupLe
import PyProof.NeData
import PyProof.EqKinds
import PyProof.DictUpdate
import KE.KRevSl
import PyProof.EnumIter
import HandS.HeadHook2
import HandS.HeadHook3
import PyProof.EnumMake
import PyProof.EnumStmt
import HandS.RaiseMore
import HandS.Star
import HandS.NamedTupSort
import HandS.Conv
import HandS.ExcInit
import KE.KExcSuper
import KE.KSuper
import HandS.ExcIs
import HandS.ExcField
import HandS.ExcValue
import PySem.Challenge.RW_styleamid_k99_errors_made_with_any_value
import Lean
import HandS.Ends
import HandS.More
import HandS.Words
import HandS.Head0
import HandS.Head1
import HandS.Head2
import KE.KStateDown
import PyProof.ReprLen
set_option Elab.async false
set_option linter.all false
set_option maxRecDepth 100000
set_option maxHeartbeats 4000000
namespace Mn
open PySem PySem.Spec PyProof.Rows L2
inductive D where
  | non
  | bl (b : Bool)
  | int (i : Int)
  | str (x : Str)
  | tup (ds : List D)
  | fls (ds : List D)
  | ref (n : Nat)
mutual
def D.beq : D → D → Bool
  | .non, .non => true
  | .bl a, .bl b => a == b
  | .int a, .int b => decide (a = b)
  | .str a, .str b => decide (a = b)
  | .tup a, .tup b => D.beqs a b
  | .fls a, .fls b => D.beqs a b
  | .ref a, .ref b => decide (a = b)
  | _, _ => false
def D.beqs : List D → List D → Bool
  | [], [] => true
  | a :: r, b :: s => D.beq a b && D.beqs r s
  | _, _ => false
end
mutual
theorem D.beq_eq : ∀ {a b : D}, D.beq a b = true → a = b
  | .non, b, h => by cases b <;> first | rfl | cases h
  | .bl x, b, h => by
    cases b with
    | bl y => exact congrArg D.bl (eq_of_beq h)
    | _ => cases h
  | .int x, b, h => by
    cases b with
    | int y => exact congrArg D.int (of_decide_eq_true h)
    | _ => cases h
  | .str x, b, h => by
    cases b with
    | str y => exact congrArg D.str (of_decide_eq_true h)
    | _ => cases h
  | .tup x, b, h => by
    cases b with
    | tup y => exact congrArg D.tup (D.beqs_eq h)
    | _ => cases h
  | .fls x, b, h => by
    cases b with
    | fls y => exact congrArg D.fls (D.beqs_eq h)
    | _ => cases h
  | .ref x, b, h => by
    cases b with
    | ref y => exact congrArg D.ref (of_decide_eq_true h)
    | _ => cases h
theorem D.beqs_eq : ∀ {a b : List D}, D.beqs a b = true → a = b
  | [], b, h => by
    cases b with
    | nil => rfl
    | cons _ _ => cases h
  | x :: r, b, h => by
    cases b with
    | nil => cases h
    | cons y s =>
      have h : (D.beq x y && D.beqs r s) = true := h
      rw [Bool.and_eq_true] at h
      rw [D.beq_eq h.1, D.beqs_eq h.2]
end
mutual
theorem D.beq_refl : ∀ a : D, D.beq a a = true
  | .non => rfl
  | .bl x => by show (x == x) = true; cases x <;> rfl
  | .int x => decide_eq_true rfl
  | .str x => decide_eq_true rfl
  | .tup x => D.beqs_refl x
  | .fls x => D.beqs_refl x
  | .ref x => decide_eq_true rfl
theorem D.beqs_refl : ∀ a : List D, D.beqs a a = true
  | [] => rfl
  | x :: r => by
    show (D.beq x x && D.beqs r r) = true
    rw [D.beq_refl x, D.beqs_refl r]
    rfl
end
instance : DecidableEq D := fun a b => decidable_of_iff (D.beq a b = true) ⟨D.beq_eq, fun h => h ▸ D.beq_refl a⟩
inductive Ob where
  | lst (ds : List D)
  | dct (kvs : List (Key × D))
  | dtt (kvs : List (List Key × D))
  | ins (c : Str) (fs : List (Str × D))
  | exn (c : Str) (fs : List (Str × D))
  deriving DecidableEq
abbrev Sto := List Ob
abbrev En := List (Option D)
inductive Res (α : Type) where
  | ok (a : α) (S : Sto)
  | exc (c : Str) (fs : List (Str × D)) (S : Sto)
  | bad
def Res.bind {α β : Type} (r : Res α) (k : α → Sto → Res β) : Res β := match r with
  | .ok a S => k a S
  | .exc c n S => .exc c n S
  | .bad => .bad
inductive RS where
  | nx (ρ : En) (S : Sto)
  | rt (d : D) (S : Sto)
  | bk (ρ : En) (S : Sto)
  | ct (ρ : En) (S : Sto)
  | ex (c : Str) (fs : List (Str × D)) (ρ : En) (S : Sto)
  | bad
abbrev M := En → Sto → Res D
abbrev MA := En → Sto → Res (List D)
abbrev MT := En → Sto → Res Bool
abbrev MS := En → Sto → RS
abbrev F := List D → Sto → Res D
structure Mo (H H' : Hp) : Prop where
  tup : ∀ b xs, H b = some (.tup xs) → H' b = some (.tup xs)
  frz : ∀ b o u, H b = some (.frz o u) → H' b = some (.frz o u)
theorem Mo.refl (H : Hp) : Mo H H := ⟨fun _ _ h => h, fun _ _ _ h => h⟩
theorem Mo.trans {H H1 H2 : Hp} (a : Mo H H1) (b : Mo H1 H2) : Mo H H2 := ⟨fun c xs h => b.tup c xs (a.tup c xs h), fun c o u h => b.frz c o u (a.frz c o u h)⟩
theorem Mo.new {H : Hp} {p : Addr} {o : HO} (h : H p = none) : Mo H (upd H p o) :=
  ⟨fun b xs e => by rw [upd_ne (ne_of_none e h)]; exact e, fun b ob u e => by rw [upd_ne (ne_of_none e h)]; exact e⟩
theorem Mo.put {H : Hp} {p : Addr} {o u : HO} (h : H p = some u) (h1 : ∀ xs, u ≠ .tup xs) (h2 : ∀ ob v, u ≠ .frz ob v) : Mo H (upd H p o) := by
  refine ⟨fun b xs e => ?_, fun b ob v e => ?_⟩
  · have n : b ≠ p := fun z => by
      rw [z, h] at e
      exact h1 xs (Option.some.inj e)
    rw [upd_ne n]
    exact e
  · have n : b ≠ p := fun z => by
      rw [z, h] at e
      exact h2 ob v (Option.some.inj e)
    rw [upd_ne n]
    exact e
section
variable {K : PySem.W.Frag} {H H' : Hp} {a : Addr} {xs : List V}
theorem Mo.sqT (m : Mo H H') (h : SqT K H a xs) : SqT K H' a xs := by
  rcases h with (h | ⟨o, h⟩) | h
  · exact .inl (.inl (m.tup _ _ h))
  · exact .inl (.inr ⟨o, m.frz _ _ _ h⟩)
  · exact .inr h
/-- a list that nobody can write -/
def FzL (K : PySem.W.Frag) (H : Hp) (a : Addr) (xs : List V) : Prop :=
  (∃ o, H a = some (.frz o (.lst xs))) ∨ ∃ (o : Obj) (its : Array Value) (n : Nat), K.lookup a = some o ∧ o.cls = .type "list" ∧ o.dict = none ∧ o.data = .seq its n ∧ its.size ≤ sizeLine ∧ Vals xs its.toList
theorem FzL.sq (h : FzL K H a xs) : SqL K H a xs := by
  rcases h with ⟨o, h⟩ | h
  · exact .inl (.inr ⟨o, h⟩)
  · exact .inr h
theorem Mo.fzL (m : Mo H H') (h : FzL K H a xs) : FzL K H' a xs := by
  rcases h with ⟨o, h⟩ | h
  · exact .inl ⟨o, m.frz _ _ _ h⟩
  · exact .inr h
end
/-- is it a path: some ints -/
def isTrail : List D → Bool
  | [] => false
  | [.int _] => true
  | .int _ :: r => isTrail r
  | _ => false
/-- a tuple; one of ints alone is no constant -/
def STr (K : PySem.W.Frag) (H : Hp) (ds : List D) (a : Addr) (xs : List V) : Prop := SqT K H a xs ∧ (isTrail ds = true → H a = some (.tup xs))
theorem STr.of {K : PySem.W.Frag} {H : Hp} {ds : List D} {a : Addr} {xs : List V} (h : H a = some (.tup xs)) : STr K H ds a xs := ⟨SqT.of h, fun _ => h⟩
theorem Mo.sTr {K : PySem.W.Frag} {H H' : Hp} {ds : List D} {a : Addr} {xs : List V} (m : Mo H H') (h : STr K H ds a xs) : STr K H' ds a xs := ⟨m.sqT h.1, fun z => m.tup _ _ (h.2 z)⟩
mutual
def RD (K : PySem.W.Frag) (io : List Addr) (H : Hp) : D → V → Prop
  | .non, v => v = .non
  | .bl b, v => v = .bl b
  | .int i, v => v = .int i
  | .str x, v => v = .str x
  | .tup ds, v => ∃ a xs, v = .ref a ∧ STr K H ds a xs ∧ RDs K io H ds xs
  | .fls ds, v => ∃ a xs, v = .ref a ∧ FzL K H a xs ∧ RDs K io H ds xs
  | .ref n, v => ∃ a, v = .ref a ∧ io[n]? = some a
def RDs (K : PySem.W.Frag) (io : List Addr) (H : Hp) : List D → List V → Prop
  | [], vs => vs = []
  | d :: ds, vs => ∃ v r, vs = v :: r ∧ RD K io H d v ∧ RDs K io H ds r
end
theorem pre_get {α : Type} {l l' : List α} (h : l <+: l') {n : Nat} {a : α} (e : l[n]? = some a) : l'[n]? = some a := by
  obtain ⟨t, rfl⟩ := h
  rw [List.getElem?_append_left (List.getElem?_eq_some_iff.mp e).1]
  exact e
section
variable {K : PySem.W.Frag} {io io' : List Addr} {H H' : Hp}
mutual
theorem RD.mono (p : io <+: io') (m : Mo H H') : ∀ {d : D} {v : V}, RD K io H d v → RD K io' H' d v
  | .non, _, h => h
  | .bl _, _, h => h
  | .int _, _, h => h
  | .str _, _, h => h
  | .tup _, _, ⟨a, xs, e, q, r⟩ => ⟨a, xs, e, m.sTr q, RDs.mono p m r⟩
  | .fls _, _, ⟨a, xs, e, q, r⟩ => ⟨a, xs, e, m.fzL q, RDs.mono p m r⟩
  | .ref _, _, ⟨a, e, q⟩ => ⟨a, e, pre_get p q⟩
theorem RDs.mono (p : io <+: io') (m : Mo H H') : ∀ {ds : List D} {vs : List V}, RDs K io H ds vs → RDs K io' H' ds vs
  | [], _, h => h
  | _ :: _, _, ⟨v, r, e, h1, h2⟩ => ⟨v, r, e, RD.mono p m h1, RDs.mono p m h2⟩
end
theorem RDs.length : ∀ {ds : List D} {vs : List V}, RDs K io H ds vs → vs.length = ds.length
  | [], _, h => by
    have h : _ = [] := h
    subst h
    rfl
  | _ :: _, _, ⟨v, r, e, _, h2⟩ => by
    subst e
    exact congrArg Nat.succ (RDs.length h2)
theorem RDs.get : ∀ {ds : List D} {vs : List V} {i : Nat} {d : D}, RDs K io H ds vs → ds[i]? = some d → ∃ v, vs[i]? = some v ∧ RD K io H d v
  | [], _, _, _, _, e => by simp at e
  | _ :: _, _, 0, _, ⟨v, r, e, h1, _⟩, q => by
    subst e
    have q : some _ = some _ := q
    injection q with q
    rw [← q]
    exact ⟨v, rfl, h1⟩
  | _ :: _, _, i + 1, _, ⟨v, r, e, _, h2⟩, q => by
    subst e
    obtain ⟨w, q1, q2⟩ := RDs.get (i := i) h2 (by simpa using q)
    exact ⟨w, by simpa using q1, q2⟩
theorem RDs.back : ∀ {ds : List D} {vs : List V} {i : Nat} {v : V}, RDs K io H ds vs → vs[i]? = some v → ∃ d, ds[i]? = some d ∧ RD K io H d v
  | [], _, _, _, h, e => by
    have h : _ = [] := h
    subst h
    simp at e
  | d :: _, _, 0, _, ⟨v, r, e, h1, _⟩, q => by
    subst e
    have q : some _ = some _ := q
    injection q with q
    rw [← q]
    exact ⟨d, rfl, h1⟩
  | _ :: _, _, i + 1, _, ⟨v, r, e, _, h2⟩, q => by
    subst e
    obtain ⟨w, q1, q2⟩ := RDs.back (i := i) h2 (by simpa using q)
    exact ⟨w, by simpa using q1, q2⟩
theorem RDs.append : ∀ {ds es : List D} {vs ws : List V}, RDs K io H ds vs → RDs K io H es ws → RDs K io H (ds ++ es) (vs ++ ws)
  | [], _, _, _, h, h' => by
    have h : _ = [] := h
    subst h
    exact h'
  | _ :: _, _, _, _, ⟨v, r, e, h1, h2⟩, h' => by
    subst e
    exact ⟨v, _, rfl, h1, RDs.append h2 h'⟩
theorem RDs.one {d : D} {v : V} (h : RD K io H d v) : RDs K io H [d] [v] := ⟨v, [], rfl, h, rfl⟩
theorem RDs.two {d e : D} {v w : V} (h : RD K io H d v) (h' : RD K io H e w) : RDs K io H [d, e] [v, w] := ⟨v, [w], rfl, h, RDs.one h'⟩
theorem RDs.drop : ∀ {ds : List D} {vs : List V} (n : Nat), RDs K io H ds vs → RDs K io H (ds.drop n) (vs.drop n)
  | _, _, 0, h => h
  | [], _, _ + 1, h => by
    have h : _ = [] := h
    subst h
    rfl
  | _ :: _, _, n + 1, ⟨v, r, e, _, h2⟩ => by
    subst e
    exact RDs.drop n h2
theorem RDs.take : ∀ {ds : List D} {vs : List V} (n : Nat), RDs K io H ds vs → RDs K io H (ds.take n) (vs.take n)
  | _, _, 0, _ => rfl
  | [], _, _ + 1, h => by
    have h : _ = [] := h
    subst h
    rfl
  | _ :: _, _, n + 1, ⟨v, r, e, h1, h2⟩ => by
    subst e
    exact ⟨v, _, rfl, h1, RDs.take n h2⟩
theorem RDs.reverse : ∀ {ds : List D} {vs : List V}, RDs K io H ds vs → RDs K io H ds.reverse vs.reverse
  | [], _, h => by
    have h : _ = [] := h
    subst h
    rfl
  | _ :: _, _, ⟨v, r, e, h1, h2⟩ => by
    subst e
    rw [List.reverse_cons, List.reverse_cons]
    exact RDs.append (RDs.reverse h2) (RDs.one h1)
theorem RDs.set {d : D} {v : V} (h : RD K io H d v) : ∀ {ds : List D} {vs : List V} (n : Nat), RDs K io H ds vs → RDs K io H (ds.set n d) (vs.set n v)
  | [], _, _, q => by
    have q : _ = [] := q
    subst q
    rfl
  | _ :: _, _, 0, ⟨w, r, e, _, h2⟩ => by
    subst e
    exact ⟨v, r, rfl, h, h2⟩
  | _ :: _, _, n + 1, ⟨w, r, e, h1, h2⟩ => by
    subst e
    exact ⟨w, _, rfl, h1, RDs.set h n h2⟩
theorem RDs.cons {d : D} {v : V} {ds : List D} {vs : List V} (h : RD K io H d v) (h' : RDs K io H ds vs) : RDs K io H (d :: ds) (v :: vs) := ⟨v, vs, rfl, h, h'⟩
theorem RDs.bls : ∀ {ns : List Bool} {vs : List V}, RDs K io H (ns.map D.bl) vs → vs = ns.map V.bl
  | [], _, h => h
  | _ :: _, _, ⟨v, r, e, h1, h2⟩ => by
    subst e
    have h1 : v = _ := h1
    subst h1
    exact congrArg _ (RDs.bls h2)
theorem RDs.of_ints : ∀ (ns : List Int), RDs K io H (ns.map D.int) (ns.map V.int)
  | [] => rfl
  | _ :: ns => ⟨_, _, rfl, rfl, RDs.of_ints ns⟩
end
/-- keys and values -/
def RKs {κ : Type} (K : PySem.W.Frag) (io : List Addr) (H : Hp) : List (κ × D) → List (κ × V) → Prop
  | [], ws => ws = []
  | (k, d) :: r, ws => ∃ v t, ws = (k, v) :: t ∧ RD K io H d v ∧ RKs K io H r t
theorem RKs.mono {κ : Type} {K : PySem.W.Frag} {io io' : List Addr} {H H' : Hp} (p : io <+: io') (m : Mo H H') : ∀ {ds : List (κ × D)} {vs : List (κ × V)}, RKs K io H ds vs → RKs K io' H' ds vs
  | [], _, h => h
  | _ :: _, _, ⟨v, r, e, h1, h2⟩ => ⟨v, r, e, RD.mono p m h1, RKs.mono p m h2⟩
/-- attributes and values -/
def RFs (K : PySem.W.Frag) (io : List Addr) (H : Hp) : List (Str × D) → List (Str × V) → Prop
  | [], ws => ws = []
  | (k, d) :: r, ws => ∃ v t, ws = (k, v) :: t ∧ RD K io H d v ∧ RFs K io H r t
theorem RFs.mono {K : PySem.W.Frag} {io io' : List Addr} {H H' : Hp} (p : io <+: io') (m : Mo H H') : ∀ {ds : List (Str × D)} {vs : List (Str × V)}, RFs K io H ds vs → RFs K io' H' ds vs
  | [], _, h => h
  | _ :: _, _, ⟨v, r, e, h1, h2⟩ => ⟨v, r, e, RD.mono p m h1, RFs.mono p m h2⟩
theorem RFs.length {K : PySem.W.Frag} {io : List Addr} {H : Hp} : ∀ {ds : List (Str × D)} {vs : List (Str × V)}, RFs K io H ds vs → vs.length = ds.length
  | [], _, h => by
    have h : _ = [] := h
    subst h
    rfl
  | _ :: _, _, ⟨v, r, e, _, h2⟩ => by
    subst e
    exact congrArg Nat.succ (RFs.length h2)
theorem RFs.look {K : PySem.W.Frag} {io : List Addr} {H : Hp} {f : Str} : ∀ {ds : List (Str × D)} {vs : List (Str × V)}, RFs K io H ds vs → (∀ d, ds.lookup f = some d → ∃ v, vs.lookup f = some v ∧ RD K io H d v) ∧ (ds.lookup f = none → vs.lookup f = none)
  | [], _, h => by
    have h : _ = [] := h
    subst h
    exact ⟨fun d e => (by cases e), fun _ => rfl⟩
  | (k, d) :: r, _, ⟨v, t, e, h1, h2⟩ => by
    subst e
    have ih := RFs.look (f := f) h2
    simp only [List.lookup]
    cases h : (f == k) with
    | true => exact ⟨fun d1 e => (by cases e; exact ⟨v, rfl, h1⟩), fun e => (by cases e)⟩
    | false => exact ih
/-- the attribute f is set -/
def putFD (f : Str) (d : D) : List (Str × D) → List (Str × D)
  | [] => [(f, d)]
  | (g, x) :: r => if g = f then (g, d) :: r else (g, x) :: putFD f d r
theorem RFs.put {K : PySem.W.Frag} {io : List Addr} {H : Hp} {f : Str} {d : D} {v : V} (h : RD K io H d v) : ∀ {ds : List (Str × D)} {vs : List (Str × V)}, RFs K io H ds vs → RFs K io H (putFD f d ds) (putF f v vs)
  | [], _, q => by
    have q : _ = [] := q
    subst q
    exact ⟨v, [], rfl, h, rfl⟩
  | (k, x) :: r, _, ⟨w, t, e, h1, h2⟩ => by
    subst e
    show RFs K io H (if k = f then (k, d) :: r else (k, x) :: putFD f d r) (if k = f then (k, v) :: t else (k, w) :: putF f v t)
    by_cases z : k = f
    · rw [if_pos z, if_pos z]
      exact ⟨v, t, rfl, h, h2⟩
    · rw [if_neg z, if_neg z]
      exact ⟨w, _, rfl, h1, RFs.put h h2⟩
/-- at e: an object of the class at C, its dict d -/
def XoR (C : Addr) (e : Addr) (d : Option Addr) (φ : Heap → Prop) : Prop := ∀ h, φ h → ∃ (oe : Obj) (vs : Array Value), h.get? e = some oe ∧ oe.cls = .ref C ∧ oe.dict = d ∧ oe.data = .fields vs
/-- what an exception keeps, when it is on its way: its dict -/
def XR (K : PySem.W.Frag) (io : List Addr) (H : Hp) (fs : List (Str × D)) (e : Option Addr) : Prop := (fs = [] ∧ e = none) ∨ ∃ dx ws, e = some dx ∧ H dx = some (.xd ws) ∧ RFs K io H fs ws
def ObR (K : PySem.W.Frag) (io : List Addr) (H : Hp) (a : Addr) : Ob → Prop
  | .lst ds => ∃ xs, H a = some (.lst xs) ∧ RDs K io H ds xs
  | .dct kvs => ∃ ws, H a = some (.dK ws) ∧ RKs K io H kvs ws
  | .dtt kvs => ∃ ws, H a = some (.dT ws) ∧ RKs K io H kvs ws
  | .ins c fs => ∃ dx ws, H a = some (.ins (He.ga K c) dx ws) ∧ RFs K io H fs ws
  | .exn c fs => ∃ (φ : Heap → Prop) (d : Option Addr), H a = some (.ext φ) ∧ XoR (He.ga K c) a d φ ∧ ((d = none ∧ fs = []) ∨ ∃ dx o ws, d = some dx ∧ H dx = some (.frz o (.xd ws)) ∧ RFs K io H fs ws)
structure Rep (K : PySem.W.Frag) (io : List Addr) (S : Sto) (H : Hp) : Prop where
  len : io.length = S.length
  nd : ∀ (i j : Nat) (a : Addr), io[i]? = some a → io[j]? = some a → i = j
  ob : ∀ (n : Nat) (o : Ob) (a : Addr), S[n]? = some o → io[n]? = some a → ObR K io H a o
section
variable {K : PySem.W.Frag} {io io' : List Addr} {H H' : Hp} {S : Sto}
theorem ObR.there {a : Addr} {o : Ob} (h : ObR K io H a o) : ∃ u, H a = some u ∧ (∀ xs, u ≠ .tup xs) ∧ ∀ ob v, u ≠ .frz ob v := by
  cases o with
  | lst ds =>
    obtain ⟨xs, e, _⟩ := h
    exact ⟨_, e, (fun _ z => by cases z), (fun _ _ z => by cases z)⟩
  | dct kvs =>
    obtain ⟨xs, e, _⟩ := h
    exact ⟨_, e, (fun _ z => by cases z), (fun _ _ z => by cases z)⟩
  | dtt kvs =>
    obtain ⟨xs, e, _⟩ := h
    exact ⟨_, e, (fun _ z => by cases z), (fun _ _ z => by cases z)⟩
  | ins c fs =>
    obtain ⟨dx, xs, e, _⟩ := h
    exact ⟨_, e, (fun _ z => by cases z), (fun _ _ z => by cases z)⟩
  | exn c fs =>
    obtain ⟨φ, d, e, _⟩ := h
    exact ⟨_, e, (fun _ z => by cases z), (fun _ _ z => by cases z)⟩
theorem ObR.keep {a : Addr} {o : Ob} (h : ObR K io H a o) (p : io <+: io') (m : Mo H H') (e : H' a = H a) : ObR K io' H' a o := by
  cases o with
  | lst ds =>
    obtain ⟨xs, q, r⟩ := h
    exact ⟨xs, e.trans q, r.mono p m⟩
  | dct kvs =>
    obtain ⟨xs, q, r⟩ := h
    exact ⟨xs, e.trans q, r.mono p m⟩
  | dtt kvs =>
    obtain ⟨xs, q, r⟩ := h
    exact ⟨xs, e.trans q, r.mono p m⟩
  | ins c fs =>
    obtain ⟨dx, xs, q, r⟩ := h
    exact ⟨dx, xs, e.trans q, r.mono p m⟩
  | exn c fs =>
    obtain ⟨φ, d, q, x, r⟩ := h
    refine ⟨φ, d, e.trans q, x, ?_⟩
    rcases r with r | ⟨dx, o, ws, r1, r2, r3⟩
    · exact .inl r
    · exact .inr ⟨dx, o, ws, r1, m.frz _ _ _ r2, r3.mono p m⟩
theorem Rep.at_ (R : Rep K io S H) {n : Nat} {o : Ob} (h : S[n]? = some o) : ∃ a, io[n]? = some a ∧ ObR K io H a o := by
  have hn : n < io.length := by
    rw [R.len]
    exact (List.getElem?_eq_some_iff.mp h).1
  exact ⟨io[n], by simp [hn], R.ob n o _ h (by simp [hn])⟩
/-- something new that no place of the store is -/
theorem Rep.tup (R : Rep K io S H) {p : Addr} {o : HO} (h : H p = none) : Rep K io S (upd H p o) := by
  refine ⟨R.len, R.nd, fun n ob a e1 e2 => ?_⟩
  have q := R.ob n ob a e1 e2
  obtain ⟨u, hu, _⟩ := q.there
  exact q.keep (List.prefix_rfl) (Mo.new h) (upd_ne (ne_of_none hu h))
/-- a new object of the store -/
theorem Rep.new (R : Rep K io S H) {p : Addr} {o : HO} {ob : Ob} (h : H p = none) (ho : ObR K (io ++ [p]) (upd H p o) p ob) : Rep K (io ++ [p]) (S ++ [ob]) (upd H p o) := by
  have np : ∀ n a, io[n]? = some a → a ≠ p := fun n a e z => by
    have hn : n < S.length := by
      rw [← R.len]
      exact (List.getElem?_eq_some_iff.mp e).1
    obtain ⟨u, hu, _⟩ := (R.ob n _ a (List.getElem?_eq_getElem hn) e).there
    rw [z, h] at hu
    cases hu
  have sp : ∀ {n a}, (io ++ [p])[n]? = some a → (io[n]? = some a) ∨ (n = io.length ∧ a = p) := fun {n a} e => by
    by_cases hn : n < io.length
    · rw [List.getElem?_append_left hn] at e
      exact .inl e
    · rw [List.getElem?_append_right (by omega)] at e
      have hz : n - io.length = 0 := by
        have := (List.getElem?_eq_some_iff.mp e).1
        simp at this
        omega
      rw [hz] at e
      exact .inr ⟨by omega, by simpa using e.symm⟩
  refine ⟨by rw [List.length_append, List.length_append, R.len]; rfl, fun i j a e1 e2 => ?_, fun n o' a e1 e2 => ?_⟩
  · rcases sp e1 with q1 | ⟨q1, z1⟩
    · rcases sp e2 with q2 | ⟨q2, z2⟩
      · exact R.nd i j a q1 q2
      · exact absurd z2 (np i a q1)
    · rcases sp e2 with q2 | ⟨q2, z2⟩
      · exact absurd z1 (np j a q2)
      · omega
  · rcases sp e2 with q | ⟨q, z⟩
    · have hn : n < S.length := by
        rw [← R.len]
        exact (List.getElem?_eq_some_iff.mp q).1
      rw [List.getElem?_append_left hn] at e1
      exact (R.ob n o' a e1 q).keep (List.prefix_append _ _) (Mo.new h) (upd_ne (np n a q))
    · rw [List.getElem?_append_right (by rw [q, R.len]; exact Nat.le_refl _)] at e1
      have hz : n - S.length = 0 := by rw [q, R.len]; omega
      rw [hz] at e1
      have eo : ob = o' := by simpa using e1
      rw [z, ← eo]
      exact ho
/-- an object of the store is written -/
theorem Rep.put (R : Rep K io S H) {n : Nat} {a : Addr} {o : HO} {ob u : Ob} (hs : S[n]? = some u) (ha : io[n]? = some a) (ho : Mo H (upd H a o) → ObR K io (upd H a o) a ob) : Mo H (upd H a o) ∧ Rep K io (S.set n ob) (upd H a o) := by
  obtain ⟨x, hx, x1, x2⟩ := (R.ob n u a hs ha).there
  have m : Mo H (upd H a o) := Mo.put hx x1 x2
  refine ⟨m, by rw [List.length_set]; exact R.len, R.nd, fun j o' b e1 e2 => ?_⟩
  by_cases hj : n = j
  · subst hj
    have hn := (List.getElem?_eq_some_iff.mp hs).1
    rw [List.getElem?_set_self hn] at e1
    have eo : ob = o' := Option.some.inj e1
    have eb : a = b := by
      rw [ha] at e2
      exact Option.some.inj e2
    rw [← eo, ← eb]
    exact ho m
  · rw [List.getElem?_set_ne hj] at e1
    have hb : b ≠ a := fun z => hj (R.nd n j a ha (z ▸ e2))
    exact (R.ob j o' b e1 e2).keep (List.prefix_rfl) m (upd_ne hb)
end
def RE (K : PySem.W.Frag) (io : List Addr) (H : Hp) (ρ : En) (σ : L2.St) : Prop :=
  ρ.length = σ.length ∧ ∀ (i : Nat) (d : D), ρ[i]? = some (some d) → ∃ v, σ[i]? = some (some v) ∧ RD K io H d v
theorem RE.mono {K : PySem.W.Frag} {io io' : List Addr} {H H' : Hp} {ρ : En} {σ : L2.St} (p : io <+: io') (m : Mo H H') (h : RE K io H ρ σ) : RE K io' H' ρ σ :=
  ⟨h.1, fun i d e => let ⟨v, q, r⟩ := h.2 i d e; ⟨v, q, r.mono p m⟩⟩
theorem RE.set {K : PySem.W.Frag} {io : List Addr} {H : Hp} {ρ : En} {σ : L2.St} {d : D} {v : V} (i : Nat) (h : RE K io H ρ σ) (r : RD K io H d v) : RE K io H (ρ.set i (some d)) (σ.set i (some v)) := by
  refine ⟨by rw [List.length_set, List.length_set]; exact h.1, fun j e q => ?_⟩
  by_cases hj : i = j
  · subst hj
    by_cases hi : i < ρ.length
    · rw [List.getElem?_set_self hi] at q
      cases q
      exact ⟨v, List.getElem?_set_self (by rw [← h.1]; exact hi), r⟩
    · rw [List.getElem?_eq_none (by rw [List.length_set]; omega)] at q
      cases q
  · rw [List.getElem?_set_ne hj] at q
    rw [List.getElem?_set_ne hj]
    exact h.2 j e q
structure Cn where
  cl : Str → Value
  W : WX
/-- rel: what the result stands for -/
def Po {α β : Type} (K : PySem.W.Frag) (rel : List Addr → Hp → α → β → Prop) (cl : Str → Value) (W : Value → Option Addr → Hp → Prop) (io : List Addr) (H : Hp) (r : Res α) (Q : β → Hp → Prop) : Prop := match r with
  | .ok a S => ∀ io' H' b, io <+: io' → Mo H H' → Rep K io' S H' → rel io' H' a b → Q b H'
  | .exc c n S => ∀ io' H' (e : Option Addr), io <+: io' → Mo H H' → Rep K io' S H' → XR K io' H' n e → W (cl c) e H'
  | .bad => False
section
variable {α β : Type} {K : PySem.W.Frag} {rel : List Addr → Hp → α → β → Prop} {cl : Str → Value} {W : Value → Option Addr → Hp → Prop} {io io' : List Addr} {H H' : Hp} {r : Res α} {Q Q' : β → Hp → Prop}
theorem Po.mono (p : io <+: io') (m : Mo H H') (h : Po K rel cl W io H r Q) : Po K rel cl W io' H' r Q := by
  cases r with
  | ok a S => exact fun io2 H2 b p2 m2 => h io2 H2 b (p.trans p2) (m.trans m2)
  | exc c n S => exact fun io2 H2 e p2 m2 => h io2 H2 e (p.trans p2) (m.trans m2)
  | bad => exact h
/-- the rest is known to go on from any later state -/
theorem Po.imp {γ : Type} {relg : List Addr → Hp → γ → β → Prop} {s : Res γ} {Q : β → Hp → Prop} {k : γ → Sto → Res α} {δ : Type} {reld : List Addr → Hp → α → δ → Prop} {Qd : δ → Hp → Prop} (h : Po K reld cl W io H (s.bind k) Qd)
    (hk : ∀ g S io' H' b, s = .ok g S → io <+: io' → Mo H H' → Rep K io' S H' → relg io' H' g b → Po K reld cl W io' H' (k g S) Qd → Q b H') : Po K relg cl W io H s Q := by
  cases s with
  | ok g S => exact fun io' H' b p m R q => hk g S io' H' b rfl p m R q (Po.mono p m h)
  | exc c n S => exact h
  | bad => exact h
theorem Po.fin {S : Sto} {a : α} {b : β} (h : Po K rel cl W io H (.ok a S) Q) (R : Rep K io S H) (q : rel io H a b) : Q b H := h io H b (List.prefix_rfl) (Mo.refl H) R q
theorem Po.finP {S : Sto} {a : α} {b : β} (h : Po K rel cl W io H (.ok a S) Q) (p : io <+: io') (m : Mo H H') (R : Rep K io' S H') (q : rel io' H' a b) : Q b H' := h io' H' b p m R q
end
abbrev rD (K : PySem.W.Frag) : List Addr → Hp → D → V → Prop := fun io H d v => RD K io H d v
abbrev rDs (K : PySem.W.Frag) : List Addr → Hp → List D → List V → Prop := fun io H d v => RDs K io H d v
abbrev rB : List Addr → Hp → Bool → Bool → Prop := fun _ _ d v => d = v
def rdE (K : PySem.W.Frag) (C : Cn) (m : M) : TE := fun σ H Q => ∃ io ρ S, Rep K io S H ∧ RE K io H ρ σ ∧ Po K (rD K) C.cl (fun c d H' => C.W c d σ H') io H (m ρ S) Q
def rdA (K : PySem.W.Frag) (C : Cn) (m : MA) : TA := fun σ H Q => ∃ io ρ S, Rep K io S H ∧ RE K io H ρ σ ∧ Po K (rDs K) C.cl (fun c d H' => C.W c d σ H') io H (m ρ S) Q
def rdT (K : PySem.W.Frag) (C : Cn) (m : MT) : TT := fun σ H Q => ∃ io ρ S, Rep K io S H ∧ RE K io H ρ σ ∧ Po K rB C.cl (fun c d H' => C.W c d σ H') io H (m ρ S) Q
def PoS (K : PySem.W.Frag) (C : Cn) (io : List Addr) (H : Hp) (r : RS) (E : Ends) : Prop := match r with
  | .nx ρ S => ∀ io' H' σ', io <+: io' → Mo H H' → Rep K io' S H' → RE K io' H' ρ σ' → E.nx σ' H'
  | .rt d S => ∀ io' H' v, io <+: io' → Mo H H' → Rep K io' S H' → RD K io' H' d v → E.rt v H'
  | .bk ρ S => ∀ io' H' σ', io <+: io' → Mo H H' → Rep K io' S H' → RE K io' H' ρ σ' → E.bk σ' H'
  | .ct ρ S => ∀ io' H' σ', io <+: io' → Mo H H' → Rep K io' S H' → RE K io' H' ρ σ' → E.ct σ' H'
  | .ex c n ρ S => ∀ io' H' σ' (e : Option Addr), io <+: io' → Mo H H' → Rep K io' S H' → RE K io' H' ρ σ' → XR K io' H' n e → C.W (C.cl c) e σ' H'
  | .bad => False
theorem PoS.mono {K : PySem.W.Frag} {C : Cn} {io io' : List Addr} {H H' : Hp} {r : RS} {E : Ends} (p : io <+: io') (m : Mo H H') (h : PoS K C io H r E) : PoS K C io' H' r E := by
  cases r with
  | nx ρ S => exact fun io2 H2 s p2 m2 => h io2 H2 s (p.trans p2) (m.trans m2)
  | rt ρ S => exact fun io2 H2 s p2 m2 => h io2 H2 s (p.trans p2) (m.trans m2)
  | bk ρ S => exact fun io2 H2 s p2 m2 => h io2 H2 s (p.trans p2) (m.trans m2)
  | ct ρ S => exact fun io2 H2 s p2 m2 => h io2 H2 s (p.trans p2) (m.trans m2)
  | ex c n ρ S => exact fun io2 H2 s e p2 m2 => h io2 H2 s e (p.trans p2) (m.trans m2)
  | bad => exact h
def rdS (K : PySem.W.Frag) (C : Cn) (m : MS) : TS := fun E σ H => ∃ io ρ S, Rep K io S H ∧ RE K io H ρ σ ∧ PoS K C io H (m ρ S) E
abbrev QE (X : Cx) (C : Cn) (e : Expr) (m : M) : Prop := PE X e (rdE X.K C m)
abbrev QA (X : Cx) (C : Cn) (es : List Expr) (m : MA) : Prop := PA X es (rdA X.K C m)
abbrev QT (X : Cx) (C : Cn) (e : Expr) (m : MT) : Prop := PT X e (rdT X.K C m)
abbrev QS (X : Cx) (C : Cn) (st : Stmt) (m : MS) : Prop := PS X st (rdS X.K C m)
abbrev QSs (X : Cx) (C : Cn) (st : List Stmt) (m : MS) : Prop := PSs X st (rdS X.K C m)
section
variable {X : Cx} {C : Cn}
theorem PE_imp {e : Expr} {t t' : TE} (h : PE X e t) (hi : ∀ σ H Q, t' σ H Q → t σ H Q) : PE X e t' := ⟨fun pins s σ H Q I q => h.run pins s σ H Q I (hi σ H Q q)⟩
theorem PA_imp {e : List Expr} {t t' : TA} (h : PA X e t) (hi : ∀ σ H Q, t' σ H Q → t σ H Q) : PA X e t' := ⟨fun pos pins s σ H Q I q => h.run pos pins s σ H Q I (hi σ H Q q)⟩
theorem PT_imp {e : Expr} {t t' : TT} (h : PT X e t) (hi : ∀ σ H Q, t' σ H Q → t σ H Q) : PT X e t' := ⟨fun pins s σ H Q I q => h.run pins s σ H Q I (hi σ H Q q)⟩
theorem PS_imp {e : Stmt} {t t' : TS} (h : PS X e t) (hi : ∀ E σ H, t' E σ H → t E σ H) : PS X e t' := ⟨fun pins s σ H E I q => h.run pins s σ H E I (hi E σ H q)⟩
theorem PSs_imp {e : List Stmt} {t t' : TS} (h : PSs X e t) (hi : ∀ E σ H, t' E σ H → t E σ H) : PSs X e t' := ⟨fun pins s σ H E I q => h.run pins s σ H E I (hi E σ H q)⟩
theorem PW_imp {e : Expr} {t t' : TT} (h : PW X e t) (hi : ∀ σ H Q, t' σ H Q → t σ H Q) : PW X e t' := ⟨fun wh pins s σ H Q I q => h.run wh pins s σ H Q I (hi σ H Q q)⟩
/-- one expression, then the rest -/
theorem rdE_step {K : PySem.W.Frag} {β δ : Type} {m : M} {k : D → Sto → Res β} {rel : List Addr → Hp → β → δ → Prop} {io : List Addr} {ρ : En} {S : Sto} {σ : L2.St} {H : Hp} {Qd : δ → Hp → Prop} {Q : VK} (R : Rep K io S H) (re : RE K io H ρ σ)
    (h : Po K rel C.cl (fun c d H' => C.W c d σ H') io H ((m ρ S).bind k) Qd)
    (hk : ∀ d S1 io1 H1 v, io <+: io1 → Mo H H1 → Rep K io1 S1 H1 → RE K io1 H1 ρ σ → RD K io1 H1 d v → Po K rel C.cl (fun c d H' => C.W c d σ H') io1 H1 (k d S1) Qd → Q v H1) : rdE K C m σ H Q :=
  ⟨io, ρ, S, R, re, Po.imp (relg := rD K) h fun d S1 io1 H1 v _ p mo R1 q h1 => hk d S1 io1 H1 v p mo R1 (re.mono p mo) q h1⟩
theorem rdA_step {K : PySem.W.Frag} {β δ : Type} {m : MA} {k : List D → Sto → Res β} {rel : List Addr → Hp → β → δ → Prop} {io : List Addr} {ρ : En} {S : Sto} {σ : L2.St} {H : Hp} {Qd : δ → Hp → Prop} {Q : List V → Hp → Prop} (R : Rep K io S H) (re : RE K io H ρ σ)
    (h : Po K rel C.cl (fun c d H' => C.W c d σ H') io H ((m ρ S).bind k) Qd)
    (hk : ∀ d S1 io1 H1 v, io <+: io1 → Mo H H1 → Rep K io1 S1 H1 → RE K io1 H1 ρ σ → RDs K io1 H1 d v → Po K rel C.cl (fun c d H' => C.W c d σ H') io1 H1 (k d S1) Qd → Q v H1) : rdA K C m σ H Q :=
  ⟨io, ρ, S, R, re, Po.imp (relg := rDs K) h fun d S1 io1 H1 v _ p mo R1 q h1 => hk d S1 io1 H1 v p mo R1 (re.mono p mo) q h1⟩
theorem rdT_step {K : PySem.W.Frag} {β δ : Type} {m : MT} {k : Bool → Sto → Res β} {rel : List Addr → Hp → β → δ → Prop} {io : List Addr} {ρ : En} {S : Sto} {σ : L2.St} {H : Hp} {Qd : δ → Hp → Prop} {Q : Bool → Hp → Prop} (R : Rep K io S H) (re : RE K io H ρ σ)
    (h : Po K rel C.cl (fun c d H' => C.W c d σ H') io H ((m ρ S).bind k) Qd)
    (hk : ∀ b S1 io1 H1, io <+: io1 → Mo H H1 → Rep K io1 S1 H1 → RE K io1 H1 ρ σ → Po K rel C.cl (fun c d H' => C.W c d σ H') io1 H1 (k b S1) Qd → Q b H1) : rdT K C m σ H Q :=
  ⟨io, ρ, S, R, re, Po.imp (relg := rB) h fun d S1 io1 H1 v _ p mo R1 q h1 => by
    have q : d = v := q
    subst q
    exact hk d S1 io1 H1 p mo R1 (re.mono p mo) h1⟩
end
end Mn
set_option Elab.async false
set_option linter.all false
set_option maxRecDepth 100000
set_option maxHeartbeats 4000000
namespace Mn
open PySem PySem.Spec PyProof.Rows L2
def mVar (i : Nat) : M := fun ρ S => match ρ[i]? with
  | some (some d) => .ok d S
  | _ => .bad
def mC (d : D) : M := fun _ S => .ok d S
section
variable {X : Cx} {C : Cn}
theorem qe_var (i : Nat) {x : Str} {pos : Pos} (hN : X.N[i]? = some x := by rfl) (hv : Vis X.env.scope x := by first | exact Or.inl rfl | exact Or.inr (Or.inl rfl) | exact Or.inr (Or.inr rfl)) (hd : (x == ("__debug__" : Str)) = false := by decide)
    (hcd : (x == ("__classdict__" : Str)) = false := by decide) : QE X C (.Name x pos) (mVar i) := by
  refine PE_imp (pe_var hN hv hd hcd) ?_
  rintro σ H Q ⟨io, ρ, S, R, re, h⟩
  unfold mVar at h
  split at h
  · rename_i d e
    obtain ⟨v, q, r⟩ := re.2 i d e
    exact ⟨v, q, h.fin R r⟩
  · exact h.elim
theorem qe_c {e : Expr} {d : D} {v : V} (h : PE X e (tC v)) (r : ∀ io H, RD X.K io H d v) : QE X C e (mC d) := by
  refine PE_imp h ?_
  rintro σ H Q ⟨io, ρ, S, R, re, h⟩
  exact h.fin R (r io H)
theorem qe_int {i j pos} : QE X C (.Constant (.int i) j pos) (mC (.int i)) := qe_c pe_int fun _ _ => rfl
theorem qe_bl {b j pos} : QE X C (.Constant (.bool b) j pos) (mC (.bl b)) := qe_c pe_bl fun _ _ => rfl
theorem qe_non {j pos} : QE X C (.Constant .none j pos) (mC .non) := qe_c pe_non fun _ _ => rfl
theorem qe_str {x j pos} : QE X C (.Constant (.str x) j pos) (mC (.str x)) := qe_c pe_str fun _ _ => rfl
/-- a constant of the module: what its value stands for is told by K alone -/
def KD (K : PySem.W.Frag) (d : D) (u : Value) : Prop := ∃ v, RelV v u ∧ ∀ io H, RD K io H d v
end
def mBin (f : D → D → Sto → Res D) (a b : M) : M := fun ρ S => (a ρ S).bind fun x S => (b ρ S).bind fun y S => f x y S
def mUn (f : D → Sto → Res D) (a : M) : M := fun ρ S => (a ρ S).bind fun x S => f x S
def rd2 (K : PySem.W.Frag) (f : D → D → Sto → Res D) : R2 := fun x y H Q => ∃ cl W io S d e, Rep K io S H ∧ RD K io H d x ∧ RD K io H e y ∧ Po K (rD K) cl W io H (f d e S) Q
def rd1 (K : PySem.W.Frag) (f : D → Sto → Res D) : V → Hp → VK → Prop := fun x H Q => ∃ cl W io S d, Rep K io S H ∧ RD K io H d x ∧ Po K (rD K) cl W io H (f d S) Q
abbrev OpS (X : Cx) (g : Value → Value → Sem Value) (f : D → D → Sto → Res D) : Prop := OpR X g (rd2 X.K f)
theorem rd_bin {K : PySem.W.Frag} {C : Cn} {f : D → D → Sto → Res D} {a b : M} {σ : L2.St} {H : Hp} {Q : VK} (h : rdE K C (mBin f a b) σ H Q) : tOp (rd2 K f) (rdE K C a) (rdE K C b) σ H Q := by
  obtain ⟨io, ρ, S, R, re, h⟩ := h
  refine rdE_step R re h fun d S1 io1 H1 v p1 m1 R1 re1 q1 h1 => ?_
  refine rdE_step R1 re1 h1 fun e S2 io2 H2 w p2 m2 R2 re2 q2 h2 => ?_
  exact ⟨_, _, io2, S2, d, e, R2, q1.mono p2 m2, q2, h2⟩
section
variable {X : Cx} {C : Cn} {a b : Expr} {ma mb : M} {pos : Pos}
theorem qe_bin {op : Operator} {f : D → D → Sto → Res D} (ho : OpS X (binaryOp op) f) (ha : QE X C a ma) (hb : QE X C b mb) : QE X C (.BinOp a op b pos) (mBin f ma mb) :=
  PE_imp (pe_op ho ha hb) fun _ _ _ h => rd_bin h
theorem qe_cmp {op : CmpOp} {f : D → D → Sto → Res D} (ho : OpS X (compareOp op) f) (ha : QE X C a ma) (hb : QE X C b mb) (hm : behindInMarks op b = false := by first | exact nomark _ (by decide) (by decide) | rfl) : QE X C (.Compare a [op] [b] pos) (mBin f ma mb) :=
  PE_imp (pe_cmpR ho ha hb hm) fun _ _ _ h => rd_bin h
theorem qe_un {op : UnaryOp} {f : D → Sto → Res D} (ho : UnR X (unaryOp op) (rd1 X.K f)) (ha : QE X C a ma) : QE X C (.UnaryOp op a pos) (mUn f ma) := by
  refine PE_imp (pe_un ho ha) ?_
  rintro σ H Q ⟨io, ρ, S, R, re, h⟩
  refine rdE_step R re h fun d S1 io1 H1 v p1 m1 R1 re1 q1 h1 => ?_
  exact ⟨_, _, io1, S1, d, R1, q1, h1⟩
theorem OpS.or {g : Value → Value → Sem Value} {f f1 f2 : D → D → Sto → Res D} (h1 : OpS X g f1) (h2 : OpS X g f2) (h : ∀ x y S, f x y S = f1 x y S ∨ f x y S = f2 x y S ∨ f x y S = .bad) : OpS X g f := by
  intro pins s σ H x y v u Q I rx ry q
  obtain ⟨cl, W, io, S, d, e, R, q1, q2, z⟩ := q
  rcases h d e S with hh | hh | hh
  · exact h1 pins s σ H x y v u Q I rx ry ⟨cl, W, io, S, d, e, R, q1, q2, hh ▸ z⟩
  · exact h2 pins s σ H x y v u Q I rx ry ⟨cl, W, io, S, d, e, R, q1, q2, hh ▸ z⟩
  · rw [hh] at z
    exact z.elim
/-- from a rule of the layer -/
theorem OpS.of {g : Value → Value → Sem Value} {r : R2} {f : D → D → Sto → Res D} (h : OpR X g r)
    (hi : ∀ cl W io S d e x y H Q, Rep X.K io S H → RD X.K io H d x → RD X.K io H e y → Po X.K (rD X.K) cl W io H (f d e S) Q → r x y H Q) : OpS X g f := by
  intro pins s σ H x y v u Q I rx ry q
  obtain ⟨cl, W, io, S, d, e, R, q1, q2, z⟩ := q
  exact h pins s σ H x y v u Q I rx ry (hi cl W io S d e x y H Q R q1 q2 z)
end
/-- two ints -/
def fI (c : Int → Int → Bool) (g : Int → Int → D) : D → D → Sto → Res D := fun x y S => match x, y with
  | .int i, .int j => if c i j = true then .ok (g i j) S else .bad
  | _, _ => .bad
section
variable {K : PySem.W.Frag} {cl : Str → Value} {W : Value → Option Addr → Hp → Prop} {io : List Addr} {H : Hp} {S : Sto} {d e : D} {x y : V} {Q : VK}
theorem fI_inv {c : Int → Int → Bool} {g : Int → Int → D} (R : Rep K io S H) (q1 : RD K io H d x) (q2 : RD K io H e y) (h : Po K (rD K) cl W io H (fI c g d e S) Q) :
    ∃ i j, x = .int i ∧ y = .int j ∧ c i j = true ∧ Po K (rD K) cl W io H (.ok (g i j) S) Q := by
  unfold fI at h
  split at h
  · split at h
    · rename_i i j hc
      exact ⟨i, j, q1, q2, hc, h⟩
    · exact h.elim
  · exact h.elim
end
section
variable {X : Cx}
theorem os_I {g : Value → Value → Sem Value} {C : Int → Int → Prop} {c : Int → Int → Bool} {k : Int → Int → Int} (h : OpR X g (rI C fun i j => .int (k i j))) (hc : ∀ i j, c i j = true → C i j) : OpS X g (fI c fun i j => .int (k i j)) :=
  OpS.of h fun cl W io S d e x y H Q R q1 q2 z => by
    obtain ⟨i, j, e1, e2, hh, z⟩ := fI_inv R q1 q2 z
    exact ⟨i, j, e1, e2, hc i j hh, z.fin R rfl⟩
theorem os_B0 {g : Value → Value → Sem Value} {k : Int → Int → Bool} (h : OpR X g (rI0 fun i j => .bl (k i j))) : OpS X g (fI (fun _ _ => true) fun i j => .bl (k i j)) :=
  OpS.of h fun cl W io S d e x y H Q R q1 q2 z => by
    obtain ⟨i, j, e1, e2, hh, z⟩ := fI_inv R q1 q2 z
    exact ⟨i, j, e1, e2, z.fin R rfl⟩
abbrev fSub := fI (fun _ _ => true) fun i j => .int (i - j)
abbrev fLt := fI (fun _ _ => true) fun i j => .bl (decide (i < j))
abbrev fLe := fI (fun _ _ => true) fun i j => .bl (decide (i ≤ j))
abbrev fGt := fI (fun _ _ => true) fun i j => .bl (decide (j < i))
abbrev fGe := fI (fun _ _ => true) fun i j => .bl (decide (j ≤ i))
theorem os_lt : OpS X (compareOp .Lt) fLt := os_B0 op_lt
theorem os_gt : OpS X (compareOp .Gt) fGt := os_B0 op_gt
theorem os_ge : OpS X (compareOp .GtE) fGe := os_B0 op_ge
/-- % by a positive number -/
abbrev fMod := fI (fun _ j => decide (0 < j)) fun i j => .int (i % j)
theorem os_mod : OpS X (binaryOp .Mod) fMod := os_I op_mod fun _ _ h => of_decide_eq_true h
end
/-- + of two ints, texts, tuples, lists -/
def fAdd : D → D → Sto → Res D := fun x y S => match x, y with
  | .int i, .int j => .ok (.int (i + j)) S
  | .str a, .str b => if a.length + b.length ≤ sizeLine then .ok (.str (a ++ b)) S else .bad
  | .tup a, .tup b => if a.length + b.length ≤ sizeLine then .ok (.tup (a ++ b)) S else .bad
  | .ref n, .ref m => match S[n]?, S[m]? with
    | some (.lst a), some (.lst b) => if a.length + b.length ≤ sizeLine then .ok (.ref S.length) (S ++ [.lst (a ++ b)]) else .bad
    | _, _ => .bad
  | _, _ => .bad
section
variable {X : Cx}
theorem os_add : OpS X (binaryOp .Add) fAdd := by
  refine OpS.of (((op_add.or op_add_str).or op_catA).or op_cat) fun cl W io S d e x y H Q R q1 q2 z => ?_
  unfold fAdd at z
  split at z
  · exact .inl (.inl (.inl ⟨_, _, q1, q2, z.fin R rfl⟩))
  · split at z
    · rename_i hz
      exact .inl (.inl (.inr ⟨_, _, q1, q2, hz, z.fin R rfl⟩))
    · exact z.elim
  · split at z
    · rename_i a b hz
      obtain ⟨p, xs, rfl, hp, h1⟩ := q1
      obtain ⟨p', ys, rfl, hp', h2⟩ := q2
      have l1 := h1.length
      have l2 := h2.length
      refine .inl (.inr ⟨p, p', xs, ys, rfl, rfl, hp.1, hp'.1, by omega, fun e1 => ?_, fun e1 e2 => ?_, fun e1 e2 t ht => ?_⟩)
      · subst e1
        have : a = [] := List.length_eq_zero_iff.mp l1.symm
        subst this
        exact z.fin R ⟨p', ys, rfl, hp', h2⟩
      · subst e2
        have : b = [] := List.length_eq_zero_iff.mp l2.symm
        subst this
        rw [List.append_nil] at z
        exact z.fin R ⟨p, xs, rfl, hp, h1⟩
      · exact z.finP (List.prefix_rfl) (Mo.new ht) (R.tup ht) ⟨t, _, rfl, STr.of upd_same, (h1.append h2).mono (List.prefix_rfl) (Mo.new ht)⟩
    · exact z.elim
  · split at z
    · split at z
      · rename_i n m a b s1 s2 hz
        obtain ⟨p, rfl, hp⟩ := q1
        obtain ⟨p', rfl, hp'⟩ := q2
        obtain ⟨xs, hx, r1⟩ := R.ob _ _ _ s1 hp
        obtain ⟨ys, hy, r2⟩ := R.ob _ _ _ s2 hp'
        have l1 := r1.length
        have l2 := r2.length
        refine .inr ⟨p, p', xs, ys, rfl, rfl, hx, hy, by omega, fun t ht => ?_⟩
        have pp : io <+: io ++ [t] := List.prefix_append _ _
        refine z.finP pp (Mo.new ht) (R.new ht ⟨_, upd_same, (r1.append r2).mono pp (Mo.new ht)⟩) ⟨t, rfl, ?_⟩
        rw [← R.len]
        exact List.getElem?_concat_length
      · exact z.elim
    · exact z.elim
  · exact z.elim
end
def aNil : MA := fun _ S => .ok [] S
def aCons (a : M) (r : MA) : MA := fun ρ S => (a ρ S).bind fun x S => (r ρ S).bind fun xs S => .ok (x :: xs) S
def mTup (a : MA) : M := fun ρ S => (a ρ S).bind fun ds S => if ds.length ≤ sizeLine then .ok (.tup ds) S else .bad
def mLst (a : MA) : M := fun ρ S => (a ρ S).bind fun ds S => if ds.length ≤ sizeLine then .ok (.ref S.length) (S ++ [.lst ds]) else .bad
section
variable {X : Cx} {C : Cn} {e : Expr} {es : List Expr} {m : M} {ma : MA}
theorem qa_nil : QA X C [] aNil := PA_imp pa_nil fun σ H Q ⟨io, ρ, S, R, re, h⟩ => h.fin R rfl
theorem qa_cons (ha : QE X C e m) (hr : QA X C es ma) (hs : starEach (e :: es) X.env = (false, eval e X.env) :: starEach es X.env := by rfl) : QA X C (e :: es) (aCons m ma) := by
  refine PA_imp (pa_cons ha hr hs) ?_
  rintro σ H Q ⟨io, ρ, S, R, re, h⟩
  refine rdE_step R re h fun d S1 io1 H1 v p1 m1 R1 re1 q1 h1 => ?_
  refine rdA_step R1 re1 h1 fun ds S2 io2 H2 vs p2 m2 R2 re2 q2 h2 => ?_
  exact h2.fin R2 ⟨v, vs, rfl, q1.mono p2 m2, q2⟩
theorem qe_tup {k pos} (h : QA X C es ma) : QE X C (.Tuple es k pos) (mTup ma) := by
  refine PE_imp (pe_tup h) ?_
  rintro σ H Q ⟨io, ρ, S, R, re, h⟩
  refine rdA_step R re h fun ds S1 io1 H1 vs p1 m1 R1 re1 q1 h1 => ?_
  split at h1
  · rename_i hz
    refine ⟨by rw [q1.length]; exact hz, fun p hp => ?_⟩
    exact h1.finP (List.prefix_rfl) (Mo.new hp) (R1.tup hp) ⟨p, _, rfl, STr.of upd_same, q1.mono (List.prefix_rfl) (Mo.new hp)⟩
  · exact h1.elim
theorem qe_lst {pos} (h : QA X C es ma) : QE X C (.List es pos) (mLst ma) := by
  refine PE_imp (pe_lst h) ?_
  rintro σ H Q ⟨io, ρ, S, R, re, h⟩
  refine rdA_step R re h fun ds S1 io1 H1 vs p1 m1 R1 re1 q1 h1 => ?_
  split at h1
  · rename_i hz
    refine ⟨by rw [q1.length]; exact hz, fun p hp => ?_⟩
    have pp : io1 <+: io1 ++ [p] := List.prefix_append _ _
    refine h1.finP pp (Mo.new hp) (R1.new hp ⟨_, upd_same, q1.mono pp (Mo.new hp)⟩) ⟨p, rfl, ?_⟩
    rw [← R1.len]
    exact List.getElem?_concat_length
  · exact h1.elim
end
def mCB (f : F) (a : MA) : M := fun ρ S => (a ρ S).bind fun ds S => f ds S
def rdL (K : PySem.W.Frag) (f : F) : List V → Hp → VK → Prop := fun vs H Q => ∃ cl W io S ds, Rep K io S H ∧ RDs K io H ds vs ∧ Po K (rD K) cl W io H (f ds S) Q
abbrev CaS (X : Cx) (fv : Value) (f : F) : Prop := CallR X fv (rdL X.K f)
section
variable {X : Cx} {C : Cn} {x : Str} {p pos : Pos} {e : Expr} {es : List Expr} {m : MA} {id T : String} {f : F}
theorem rd_cb {K : PySem.W.Frag} {σ : L2.St} {H : Hp} {Q : VK} (h : rdE K C (mCB f m) σ H Q) : tCB (rdL K f) (rdA K C m) σ H Q := by
  obtain ⟨io, ρ, S, R, re, h⟩ := h
  refine rdA_step R re h fun ds S1 io1 H1 vs p1 m1 R1 re1 q1 h1 => ?_
  exact ⟨_, _, io1, S1, ds, R1, q1, h1⟩
theorem qe_callB (hc : CaS X (.builtin id) f) (hm : X.mg x = none) (hv : bootBuiltins x = some (.builtin id)) (ha : QA X C (e :: es) m) (hg : Gl X x := by rfl) (hn : x ≠ "__name__" := by decide) (hdb : (x == ("__debug__" : Str)) = false := by decide)
    (he : starEach (e :: es) X.env = (false, eval e X.env) :: starEach es X.env := by rfl) (hpl : (backTo pos (starEach es X.env)).any (·.1) = false := by rfl) : QE X C (.Call (.Name x p) (e :: es) [] pos) (mCB f m) :=
  PE_imp (pe_callB hc hg hm hv ha hn hdb he hpl) fun _ _ _ h => rd_cb h
theorem qe_callTy (hc : CaS X (.type T) f) (hm : X.mg x = none) (hv : bootBuiltins x = some (.type T)) (ha : QA X C (e :: es) m) (hg : Gl X x := by rfl) (hn : x ≠ "__name__" := by decide) (hdb : (x == ("__debug__" : Str)) = false := by decide)
    (he : starEach (e :: es) X.env = (false, eval e X.env) :: starEach es X.env := by rfl) (hpl : (backTo pos (starEach es X.env)).any (·.1) = false := by rfl) : QE X C (.Call (.Name x p) (e :: es) [] pos) (mCB f m) :=
  PE_imp (pe_callTy hc hg hm hv ha hn hdb he hpl) fun _ _ _ h => rd_cb h
theorem CaS.of {fv : Value} {r : List V → Hp → VK → Prop} (h : CallR X fv r) (hi : ∀ cl W io S ds vs H Q, Rep X.K io S H → RDs X.K io H ds vs → Po X.K (rD X.K) cl W io H (f ds S) Q → r vs H Q) : CaS X fv f := by
  intro pins s σ H xs us Q I r' q
  obtain ⟨cl, W, io, S, ds, R, q1, z⟩ := q
  exact h pins s σ H xs us Q I r' (hi cl W io S ds xs H Q R q1 z)
def kOb : Option Ob → String
  | some (.lst _) => "list"
  | some (.dct _) => "dict"
  | some (.dtt _) => "dict"
  | some (.ins _ _) => "?"
  | some (.exn _ _) => "?"
  | none => "?"
def kOf (S : Sto) : D → String
  | .non => "NoneType"
  | .bl _ => "bool"
  | .int _ => "int"
  | .str _ => "str"
  | .tup _ => "tuple"
  | .fls _ => "list"
  | .ref n => kOb S[n]?
def mMt (T : String) (f : D → F) (o : M) (a : MA) : M := fun ρ S => (o ρ S).bind fun d S => if kOf S d = T then (a ρ S).bind fun ds S => f d ds S else .bad
def rdM (K : PySem.W.Frag) (f : D → F) : V → List V → Hp → VK → Prop := fun x vs H Q => ∃ cl W io S d ds, Rep K io S H ∧ RD K io H d x ∧ RDs K io H ds vs ∧ Po K (rD K) cl W io H (f d ds S) Q
abbrev MtS (X : Cx) (id : String) (f : D → F) : Prop := MtR X id (rdM X.K f)
theorem MtS.of {id : String} {f : D → F} {r : V → List V → Hp → VK → Prop} (h : MtR X id r)
    (hi : ∀ cl W io S d ds x vs H Q, Rep X.K io S H → RD X.K io H d x → RDs X.K io H ds vs → Po X.K (rD X.K) cl W io H (f d ds S) Q → r x vs H Q) : MtS X id f := by
  intro pins s σ H x xs v us Q I rx r' q
  obtain ⟨cl, W, io, S, d, ds, R, q0, q1, z⟩ := q
  exact h pins s σ H x xs v us Q I rx r' (hi cl W io S d ds x xs H Q R q0 q1 z)
end
end Mn
set_option Elab.async false
set_option linter.all false
set_option maxRecDepth 100000
set_option maxHeartbeats 4000000
namespace Mn
open PySem PySem.Spec PyProof.Rows L2
def fIx : D → D → Sto → Res D := fun x y S => match x, y with
  | .tup ds, .int i => match atI ds i with
    | some d => .ok d S
    | none => .bad
  | .fls ds, .int i => match atI ds i with
    | some d => .ok d S
    | none => .bad
  | .ref n, .int i => match S[n]? with
    | some (.lst ds) => match atI ds i with
      | some d => .ok d S
      | none => .bad
    | _ => .bad
  | .str x, .int i => if x.length ≤ sizeLine then match atI x.cps.toList i with
    | some c => .ok (.str ⟨#[c]⟩) S
    | none => .bad
    else .bad
  | _, _ => .bad
theorem atI_rel {K : PySem.W.Frag} {io : List Addr} {H : Hp} {ds : List D} {vs : List V} {i : Int} {d : D} (r : RDs K io H ds vs) (h : atI ds i = some d) : ∃ v, atI vs i = some v ∧ RD K io H d v := by
  unfold atI at h ⊢
  rw [r.length]
  cases e : ixN ds.length i with
  | none =>
    rw [e] at h
    cases h
  | some j =>
    rw [e] at h
    exact r.get h
section
variable {X : Cx} {C : Cn} {a b : Expr} {ma mb : M} {pos : Pos}
theorem ix_S : IxR X (rd2 X.K fIx) := by
  intro vx sx pins s σ H x y v u Q I rx ry q hsub
  obtain ⟨cl, W, io, S, d, e, R, q1, q2, z⟩ := q
  unfold fIx at z
  refine ix_seq vx sx pins s σ H x y v u Q I rx ry ?_ hsub
  split at z
  · split at z
    · rename_i d' he
      obtain ⟨p, xs, rfl, hp, r⟩ := q1
      obtain ⟨w, hw, rw'⟩ := atI_rel r he
      exact .inr (.inl ⟨p, xs, _, w, rfl, q2, hp.1, hw, z.fin R rw'⟩)
    · exact z.elim
  · split at z
    · rename_i d' he
      obtain ⟨p, xs, rfl, hp, r⟩ := q1
      obtain ⟨w, hw, rw'⟩ := atI_rel r he
      exact .inl ⟨p, xs, _, w, rfl, q2, hp.sq, hw, z.fin R rw'⟩
    · exact z.elim
  · split at z
    · rename_i n i ds hs
      split at z
      · rename_i d' he
        obtain ⟨p, rfl, hp⟩ := q1
        obtain ⟨xs, hx, r⟩ := R.ob _ _ _ hs hp
        obtain ⟨w, hw, rw'⟩ := atI_rel r he
        exact .inl ⟨p, xs, _, w, rfl, q2, SqL.of hx, hw, z.fin R rw'⟩
      · exact z.elim
    · exact z.elim
  · split at z
    · rename_i hz
      split at z
      · rename_i c he
        exact .inr (.inr ⟨_, _, c, q1, q2, hz, he, z.fin R rfl⟩)
      · exact z.elim
    · exact z.elim
  · exact z.elim
theorem qe_ix (ha : QE X C a ma) (hb : QE X C b mb) (hs : PlainIx b := by exact fun _ _ => rfl) : QE X C (.Subscript a b pos) (mBin fIx ma mb) :=
  PE_imp (pe_ix ix_S ha hb hs) fun _ _ _ h => rd_bin h
end
abbrev MO := En → Sto → Res (Option Int)
def oNone : MO := fun _ S => .ok none S
def oSome (m : M) : MO := fun ρ S => (m ρ S).bind fun d S => match d with
  | .int i => .ok (some i) S
  | _ => .bad
def rdO (K : PySem.W.Frag) (C : Cn) (m : MO) : TO := fun σ H Q => ∃ io ρ S, Rep K io S H ∧ RE K io H ρ σ ∧ Po K (fun _ _ d v => d = v) C.cl (fun c d H' => C.W c d σ H') io H (m ρ S) Q
def cutD (xs : List D) (lo hi : Option Int) : List D := (xs.drop (HT.sIx xs.length 0 lo)).take (HT.sIx xs.length xs.length hi - HT.sIx xs.length 0 lo)
def fSl : D → Option Int → Option Int → Sto → Res D := fun x lo hi S => match x with
  | .tup ds => .ok (.tup (cutD ds lo hi)) S
  | .fls ds => .ok (.ref S.length) (S ++ [.lst (cutD ds lo hi)])
  | .str x => if x.length ≤ sizeLine then .ok (.str (cutS x lo hi)) S else .bad
  | .ref n => match S[n]? with
    | some (.lst ds) => .ok (.ref S.length) (S ++ [.lst (cutD ds lo hi)])
    | _ => .bad
  | _ => .bad
def mSl (a : M) (lo hi : MO) : M := fun ρ S => (a ρ S).bind fun x S => (lo ρ S).bind fun l S => (hi ρ S).bind fun h S => fSl x l h S
theorem RDs.cut {K : PySem.W.Frag} {io : List Addr} {H : Hp} {ds : List D} {vs : List V} (r : RDs K io H ds vs) (lo hi : Option Int) : RDs K io H (cutD ds lo hi) (cutV vs lo hi) := by
  unfold cutD cutV
  rw [r.length]
  exact (r.drop _).take _
section
variable {X : Cx} {C : Cn} {a : Expr} {ma : M} {lo hi : Option Expr} {ml mh : MO} {p2 pos : Pos}
abbrev QO (X : Cx) (C : Cn) (e : Option Expr) (m : MO) : Prop := PO X e (rdO X.K C m)
theorem PO_imp {e : Option Expr} {t t' : TO} (h : PO X e t) (hi : ∀ σ H Q, t' σ H Q → t σ H Q) : PO X e t' := by
  refine ⟨fun pins s σ H Q I q => ?_⟩
  exact h.run pins s σ H Q I (hi σ H Q q)
theorem qo_some (h : QE X C a ma) : QO X C (some a) (oSome ma) := by
  refine PO_imp (po_some h) ?_
  rintro σ H Q ⟨io, ρ, S, R, re, h⟩
  refine rdE_step R re h fun d S1 io1 H1 v p1 m1 R1 re1 q1 h1 => ?_
  split at h1
  · exact ⟨_, q1, h1.fin R1 rfl⟩
  · exact h1.elim
theorem rdO_step {K : PySem.W.Frag} {β δ : Type} {m : MO} {k : Option Int → Sto → Res β} {rel : List Addr → Hp → β → δ → Prop} {io : List Addr} {ρ : En} {S : Sto} {σ : L2.St} {H : Hp} {Qd : δ → Hp → Prop} {Q : Option Int → Hp → Prop} (R : Rep K io S H) (re : RE K io H ρ σ)
    (h : Po K rel C.cl (fun c d H' => C.W c d σ H') io H ((m ρ S).bind k) Qd)
    (hk : ∀ b S1 io1 H1, io <+: io1 → Mo H H1 → Rep K io1 S1 H1 → RE K io1 H1 ρ σ → Po K rel C.cl (fun c d H' => C.W c d σ H') io1 H1 (k b S1) Qd → Q b H1) : rdO K C m σ H Q :=
  ⟨io, ρ, S, R, re, Po.imp (relg := fun _ _ d v => d = v) h fun d S1 io1 H1 v _ p mo R1 q h1 => by
    subst q
    exact hk d S1 io1 H1 p mo R1 (re.mono p mo) h1⟩
/-- the layer's slice rules in one -/
def rSlAny (K : PySem.W.Frag) : V → Option Int → Option Int → Hp → VK → Prop := fun x lo hi H Q => (rSlA K x lo hi H Q ∨ rSlL K x lo hi H Q) ∨ rSlS x lo hi H Q
theorem sl_any : SlR X (rSlAny X.K) := (sl_tupA.or sl_list).or sl_str
theorem qe_slice (ha : QE X C a ma) (hl : QO X C lo ml) (hu : QO X C hi mh) : QE X C (.Subscript a (.Slice lo hi none p2) pos) (mSl ma ml mh) := by
  refine PE_imp (pe_slice sl_any ha hl hu) ?_
  rintro σ H Q ⟨io, ρ, S, R, re, h⟩
  refine rdE_step R re h fun d S1 io1 H1 v p1 m1 R1 re1 q1 h1 => ?_
  refine rdO_step R1 re1 h1 fun l S2 io2 H2 p2 m2 R2 re2 h2 => ?_
  refine rdO_step R2 re2 h2 fun u S3 io3 H3 p3 m3 R3 re3 h3 => ?_
  have q3 : RD X.K io3 H3 d v := q1.mono (p2.trans p3) (m2.trans m3)
  unfold fSl at h3
  split at h3
  · obtain ⟨p, xs, rfl, hp, r⟩ := q3
    refine .inl (.inl ⟨p, xs, rfl, hp.1, fun hw => ?_, fun hw t ht => ?_⟩)
    · have ed : ∀ {ds : List D}, RDs X.K io3 H3 ds xs → cutD ds l u = ds := fun {ds} r => by
        unfold cutD
        rw [← r.length, hw.1, hw.2, List.drop_zero, Nat.sub_zero, r.length, List.take_length]
      refine h3.fin R3 ⟨p, xs, rfl, ⟨hp.1, fun z => hp.2 (by rw [ed r] at z; exact z)⟩, ?_⟩
      have rc := r.cut l u
      have e : cutV xs l u = xs := by
        unfold cutV
        rw [hw.1, hw.2, List.drop_zero, Nat.sub_zero, List.take_length]
      rw [e] at rc
      exact rc
    · exact h3.finP (List.prefix_rfl) (Mo.new ht) (R3.tup ht) ⟨t, _, rfl, STr.of upd_same, (r.cut l u).mono (List.prefix_rfl) (Mo.new ht)⟩
  · obtain ⟨p, xs, rfl, hp, r⟩ := q3
    refine .inl (.inr ⟨p, xs, rfl, hp.sq, fun t ht => ?_⟩)
    have pp : io3 <+: io3 ++ [t] := List.prefix_append _ _
    refine h3.finP pp (Mo.new ht) (R3.new ht ⟨_, upd_same, (r.cut l u).mono pp (Mo.new ht)⟩) ⟨t, rfl, ?_⟩
    rw [← R3.len]
    exact List.getElem?_concat_length
  · split at h3
    · rename_i hz
      exact .inr ⟨_, q3, hz, h3.fin R3 rfl⟩
    · exact h3.elim
  · split at h3
    · rename_i n ds hs
      obtain ⟨p, rfl, hp⟩ := q3
      obtain ⟨xs, hx, r⟩ := R3.ob _ _ _ hs hp
      refine .inl (.inr ⟨p, xs, rfl, SqL.of hx, fun t ht => ?_⟩)
      have pp : io3 <+: io3 ++ [t] := List.prefix_append _ _
      refine h3.finP pp (Mo.new ht) (R3.new ht ⟨_, upd_same, (r.cut l u).mono pp (Mo.new ht)⟩) ⟨t, rfl, ?_⟩
      rw [← R3.len]
      exact List.getElem?_concat_length
    · exact h3.elim
  · exact h3.elim
end
/-- a test whose value is True or False -/
def tVal (m : M) : MT := fun ρ S => (m ρ S).bind fun d S => match d with
  | .bl b => .ok b S
  | _ => .bad
def tAnd (a b : MT) : MT := fun ρ S => (a ρ S).bind fun x S => if x = true then b ρ S else .ok false S
def tOr (a b : MT) : MT := fun ρ S => (a ρ S).bind fun x S => if x = true then .ok true S else b ρ S
def tNot (a : MT) : MT := fun ρ S => (a ρ S).bind fun x S => .ok (!x) S
section
variable {X : Cx} {C : Cn} {a b c : Expr} {ma mb mc : M} {ta tb : MT} {pos : Pos} {rest : List Expr}
theorem qt_val (h : QE X C a ma) (he : ∀ whole, isTrue a X.env whole = (do let v ← whole; standAt a.pos; holding [v] (truthy v)) := by intro _; rfl) : QT X C a (tVal ma) := by
  refine PT_imp (pt_val h he) ?_
  rintro σ H Q ⟨io, ρ, S, R, re, h⟩
  refine rdE_step R re h fun d S1 io1 H1 v p1 m1 R1 re1 q1 h1 => ?_
  split at h1
  · exact ⟨_, q1, h1.fin R1 rfl⟩
  · exact h1.elim
theorem qt_cmp {op : CmpOp} {f : D → D → Sto → Res D} (ho : OpS X (compareOp op) f) (ha : QE X C a ma) (hb : QE X C b mb) (hm : behindInMarks op b = false := by first | exact nomark _ (by decide) (by decide) | rfl) : QT X C (.Compare a [op] [b] pos) (tVal (mBin f ma mb)) := by
  refine PT_imp (pt_cmpR ho ha hb hm) ?_
  rintro σ H Q ⟨io, ρ, S, R, re, h⟩
  refine rd_bin (Q := fun x H' => ∃ k, x = V.bl k ∧ Q k H') ?_
  refine rdE_step R re h fun d S1 io1 H1 v p1 m1 R1 re1 q1 h1 => ?_
  split at h1
  · exact ⟨_, q1, h1.fin R1 rfl⟩
  · exact h1.elim
abbrev QW (X : Cx) (C : Cn) (e : Expr) (m : MT) : Prop := PW X e (rdT X.K C m)
theorem qw_or1 (h : QT X C a ta) : QW X C (.BoolOp .Or [a] pos) ta := pw_or1 h
theorem qw_or (ha : QT X C a ta) (hb : QW X C (.BoolOp .Or (b :: rest) pos) tb) : QW X C (.BoolOp .Or (a :: b :: rest) pos) (tOr ta tb) := by
  refine PW_imp (pw_or ha hb) ?_
  rintro σ H Q ⟨io, ρ, S, R, re, h⟩
  refine rdT_step R re h fun x S1 io1 H1 p1 m1 R1 re1 h1 => ?_
  split at h1
  · rename_i hx
    rw [if_pos hx]
    exact h1.fin R1 rfl
  · rename_i hx
    rw [if_neg hx]
    exact ⟨io1, ρ, S1, R1, re1, h1⟩
theorem qt_w {e : Expr} {t : MT} (h : QW X C e t) : QT X C e t := h.pt
theorem qt_not (ha : QT X C a ta) : QT X C (.UnaryOp .Not a pos) (tNot ta) := by
  refine PT_imp (pt_not ha) ?_
  rintro σ H Q ⟨io, ρ, S, R, re, h⟩
  refine rdT_step R re h fun x S1 io1 H1 p1 m1 R1 re1 h1 => ?_
  exact h1.fin R1 rfl
def mAnd (a b : M) : M := fun ρ S => (a ρ S).bind fun d S => match d with
  | .bl x => if x = true then b ρ S else .ok (.bl false) S
  | _ => .bad
def mOr (a b : M) : M := fun ρ S => (a ρ S).bind fun d S => match d with
  | .bl x => if x = true then .ok (.bl true) S else b ρ S
  | _ => .bad
def mNot (a : M) : M := fun ρ S => (a ρ S).bind fun d S => match d with
  | .bl x => .ok (.bl (!x)) S
  | _ => .bad
def mIf (t : MT) (a b : M) : M := fun ρ S => (t ρ S).bind fun x S => if x = true then a ρ S else b ρ S
theorem qe_one {op} (h : QE X C a ma) : QE X C (.BoolOp op [a] pos) ma := pe_one h
theorem qe_and (ha : QE X C a ma) (hb : QE X C (.BoolOp .And (b :: rest) pos) mb) : QE X C (.BoolOp .And (a :: b :: rest) pos) (mAnd ma mb) := by
  refine PE_imp (pe_and ha hb) ?_
  rintro σ H Q ⟨io, ρ, S, R, re, h⟩
  refine rdE_step R re h fun d S1 io1 H1 v p1 m1 R1 re1 q1 h1 => ?_
  split at h1
  · rename_i x
    refine ⟨x, q1, ?_⟩
    split at h1
    · rename_i hx
      rw [if_pos hx]
      exact ⟨io1, ρ, S1, R1, re1, h1⟩
    · rename_i hx
      rw [if_neg hx]
      exact h1.fin R1 rfl
  · exact h1.elim
theorem qe_if (hc : QT X C c ta) (ha : QE X C a ma) (hb : QE X C b mb) : QE X C (.IfExp c a b pos) (mIf ta ma mb) := by
  refine PE_imp (pe_ifExp hc ha hb) ?_
  rintro σ H Q ⟨io, ρ, S, R, re, h⟩
  refine rdT_step R re h fun x S1 io1 H1 p1 m1 R1 re1 h1 => ?_
  split at h1
  · rename_i hx
    rw [if_pos hx]
    exact ⟨io1, ρ, S1, R1, re1, h1⟩
  · rename_i hx
    rw [if_neg hx]
    exact ⟨io1, ρ, S1, R1, re1, h1⟩
/-- a < b < c -/
def mChain (f g : D → D → Sto → Res D) (a b c : M) : M := fun ρ S => (a ρ S).bind fun x S => (b ρ S).bind fun y S => (f x y S).bind fun z S => match z with
  | .bl k => if k = true then (c ρ S).bind fun w S => g y w S else .ok (.bl false) S
  | _ => .bad
end
end Mn
set_option Elab.async false
set_option linter.all false
set_option maxRecDepth 100000
set_option maxHeartbeats 4000000
namespace Mn
open PySem PySem.Spec PyProof.Rows L2
def Res.st {α : Type} (r : Res α) (ρ : En) (k : α → Sto → RS) : RS := match r with
  | .ok a S => k a S
  | .exc c n S => .ex c n ρ S
  | .bad => .bad
section
variable {K : PySem.W.Frag} {C : Cn}
theorem st_step {α β : Type} {rel : List Addr → Hp → α → β → Prop} {r : Res α} {k : α → Sto → RS} {io : List Addr} {ρ : En} {σ : L2.St} {H : Hp} {E : Ends} {Q : β → Hp → Prop} (re : RE K io H ρ σ) (h : PoS K C io H (r.st ρ k) E)
    (hk : ∀ a S1 io1 H1 b, io <+: io1 → Mo H H1 → Rep K io1 S1 H1 → RE K io1 H1 ρ σ → rel io1 H1 a b → PoS K C io1 H1 (k a S1) E → Q b H1) : Po K rel C.cl (fun c d H' => C.W c d σ H') io H r Q := by
  cases r with
  | ok a S => exact fun io1 H1 b p m R q => hk a S io1 H1 b p m R (re.mono p m) q (PoS.mono p m h)
  | exc c n S => exact fun io1 H1 e p m R q => h io1 H1 σ e p m R (re.mono p m) q
  | bad => exact h
theorem PoS.next {ρ : En} {S : Sto} {io : List Addr} {H : Hp} {E : Ends} {σ : L2.St} (h : PoS K C io H (.nx ρ S) E) (R : Rep K io S H) (re : RE K io H ρ σ) : E.nx σ H := h io H σ (List.prefix_rfl) (Mo.refl H) R re
theorem PoS.ret {d : D} {v : V} {S : Sto} {io : List Addr} {H : Hp} {E : Ends} (h : PoS K C io H (.rt d S) E) (R : Rep K io S H) (q : RD K io H d v) : E.rt v H := h io H v (List.prefix_rfl) (Mo.refl H) R q
theorem rdE_st {m : M} {k : D → Sto → RS} {io : List Addr} {ρ : En} {S : Sto} {σ : L2.St} {H : Hp} {E : Ends} {Q : VK} (R : Rep K io S H) (re : RE K io H ρ σ) (h : PoS K C io H ((m ρ S).st ρ k) E)
    (hk : ∀ a S1 io1 H1 b, io <+: io1 → Mo H H1 → Rep K io1 S1 H1 → RE K io1 H1 ρ σ → RD K io1 H1 a b → PoS K C io1 H1 (k a S1) E → Q b H1) : rdE K C m σ H Q := ⟨io, ρ, S, R, re, st_step (rel := rD K) re h hk⟩
theorem rdT_st {m : MT} {k : Bool → Sto → RS} {io : List Addr} {ρ : En} {S : Sto} {σ : L2.St} {H : Hp} {E : Ends} {Q : Bool → Hp → Prop} (R : Rep K io S H) (re : RE K io H ρ σ) (h : PoS K C io H ((m ρ S).st ρ k) E)
    (hk : ∀ a S1 io1 H1, io <+: io1 → Mo H H1 → Rep K io1 S1 H1 → RE K io1 H1 ρ σ → PoS K C io1 H1 (k a S1) E → Q a H1) : rdT K C m σ H Q :=
  ⟨io, ρ, S, R, re, st_step (rel := rB) re h fun a S1 io1 H1 b p m R1 r1 q h1 => by
    have q : a = b := q
    subst q
    exact hk a S1 io1 H1 p m R1 r1 h1⟩
end
def sNil : MS := fun ρ S => .nx ρ S
def sSeq (a b : MS) : MS := fun ρ S => match a ρ S with
  | .nx ρ1 S1 => b ρ1 S1
  | r => r
def sDrop (m : M) : MS := fun ρ S => (m ρ S).st ρ fun _ S1 => .nx ρ S1
def sRet (m : M) : MS := fun ρ S => (m ρ S).st ρ fun d S1 => .rt d S1
def sSet (i : Nat) (m : M) : MS := fun ρ S => (m ρ S).st ρ fun d S1 => .nx (ρ.set i (some d)) S1
def sIf (t : MT) (a b : MS) : MS := fun ρ S => (t ρ S).st ρ fun x S1 => if x = true then a ρ S1 else b ρ S1
section
variable {X : Cx} {C : Cn} {st : Stmt} {rest a b : List Stmt} {e c : Expr} {m : M} {t : MT} {ms ms' : MS} {pos : Pos}
theorem qss_nil : QSs X C [] sNil := PSs_imp pss_nil fun E σ H ⟨io, ρ, S, R, re, h⟩ => h.next R re
theorem qss_cons (h1 : QS X C st ms) (h2 : QSs X C rest ms') : QSs X C (st :: rest) (sSeq ms ms') := by
  refine PSs_imp (pss_cons h1 h2) ?_
  rintro E σ H ⟨io, ρ, S, R, re, h⟩
  refine ⟨io, ρ, S, R, re, ?_⟩
  unfold sSeq at h
  generalize ms ρ S = r at h ⊢
  cases r with
  | nx ρ1 S1 => exact fun io' H' σ' p mo R' re' => ⟨io', ρ1, S1, R', re', PoS.mono p mo h⟩
  | rt d S1 => exact h
  | bk ρ1 S1 => exact h
  | ct ρ1 S1 => exact h
  | ex c n ρ1 S1 => exact h
  | bad => exact h
theorem qss_one (h1 : QS X C st ms) : QSs X C [st] ms := pss_one h1
theorem qs_ret (he : QE X C e m) : QS X C (.Return (some e) pos) (sRet m) := by
  refine PS_imp (ps_ret he) ?_
  rintro E σ H ⟨io, ρ, S, R, re, h⟩
  exact rdE_st R re h fun a S1 io1 H1 b p mo R1 re1 q h1 => h1.ret R1 q
theorem qs_set (i : Nat) {x : Str} {pos' : Pos} (hN : X.N.Nodup) (he : QE X C e m) (hi : X.N[i]? = some x := by rfl) (hx : Loc X.env.scope x := by first | exact Or.inl rfl | exact Or.inr rfl) (hs : swapsWith e (some (.Name x pos')) pos.line X.env = pure false := by rfl)
    (hf : X.fn x = true ∨ X.env.scope.names.lookup x = some .local := by first | exact .inl rfl | exact .inr rfl) : QS X C (.Assign [.Name x pos'] e pos) (sSet i m) := by
  refine PS_imp (ps_set hN hi hx he hs hf) ?_
  rintro E σ H ⟨io, ρ, S, R, re, h⟩
  exact rdE_st R re h fun a S1 io1 H1 b p mo R1 re1 q h1 => h1.next R1 (re1.set i q)
theorem qs_if (hc : QT X C c t) (ha : QSs X C a ms) (hb : QSs X C b ms') : QS X C (.If c a b pos) (sIf t ms ms') := by
  refine PS_imp (ps_if hc ha hb) ?_
  rintro E σ H ⟨io, ρ, S, R, re, h⟩
  refine rdT_st R re h fun x S1 io1 H1 p mo R1 re1 h1 => ?_
  split at h1
  · rename_i hx
    rw [if_pos hx]
    exact ⟨io1, ρ, S1, R1, re1, h1⟩
  · rename_i hx
    rw [if_neg hx]
    exact ⟨io1, ρ, S1, R1, re1, h1⟩
end
inductive Pt where
  | nm (i : Nat)
  | tp (ps : List Pt)
/-- the items of a sequence -/
def seqD (S : Sto) : D → Option (List D)
  | .tup ds => some ds
  | .ref n => match S[n]? with
    | some (.lst ds) => some ds
    | _ => none
  | _ => none
mutual
def Pt.put (S : Sto) : Pt → En → D → Option En
  | .nm i, ρ, d => some (ρ.set i (some d))
  | .tp ps, ρ, d => match seqD S d with
    | some ds => Pt.puts S ps ρ ds
    | none => none
def Pt.puts (S : Sto) : List Pt → En → List D → Option En
  | [], ρ, [] => some ρ
  | p :: ps, ρ, d :: ds => match Pt.put S p ρ d with
    | some ρ1 => Pt.puts S ps ρ1 ds
    | none => none
  | _, _, _ => none
end
mutual
def Pt.tg (K : PySem.W.Frag) : Pt → TG
  | .nm i => gName i
  | .tp ps => fun v σ H Q => gTup K ps.length (Pt.tgs K ps) v σ H Q ∨ gLst K ps.length (Pt.tgs K ps) v σ H Q
def Pt.tgs (K : PySem.W.Frag) : List Pt → TGs
  | [] => gNil
  | p :: ps => gCons (Pt.tg K p) (Pt.tgs K ps)
end
mutual
def Pt.within (vs : List Nat) : Pt → Bool
  | .nm i => vs.contains i
  | .tp ps => Pt.withins vs ps
def Pt.withins (vs : List Nat) : List Pt → Bool
  | [] => true
  | p :: ps => Pt.within vs p && Pt.withins vs ps
end
theorem wipe_set {σ : L2.St} {i : Nat} {x : Option V} : ∀ {vs : List Nat}, i ∈ vs → wipe (σ.set i x) vs = wipe σ vs
  | [], h => by cases h
  | v :: vs, h => by
    show (wipe (σ.set i x) vs).set v none = (wipe σ vs).set v none
    have gen : ∀ (ws : List Nat), wipe (σ.set i x) ws = (wipe σ ws).set i (if i ∈ ws then none else x) := by
      intro ws
      induction ws with
      | nil => simp [wipe]
      | cons w ws ih =>
        show (wipe (σ.set i x) ws).set w none = ((wipe σ ws).set w none).set i _
        rw [ih]
        by_cases hw : w = i
        · subst hw
          simp
        · rw [List.set_comm _ _ (Ne.symm hw)]
          by_cases hm : i ∈ ws
          · simp [hm]
          · simp [hm, Ne.symm hw]
    rw [gen vs]
    by_cases hv : v = i
    · subst hv
      simp
    · have hm : i ∈ vs := by
        rcases List.mem_cons.mp h with e | e
        · exact absurd e.symm hv
        · exact e
      rw [if_pos hm]
      congr 1
      apply List.ext_getElem?
      intro j
      by_cases hj : i = j
      · subst hj
        by_cases hl : i < (wipe σ vs).length
        · rw [List.getElem?_set_self hl]
          have : ∀ (ws : List Nat), i ∈ ws → i < σ.length → (wipe σ ws)[i]? = some none := by
            intro ws
            induction ws with
            | nil => intro h; cases h
            | cons w ws ih =>
              intro h hl
              show ((wipe σ ws).set w none)[i]? = _
              by_cases hw : w = i
              · subst hw
                rw [List.getElem?_set_self (by rw [wipe_length]; exact hl)]
              · rw [List.getElem?_set_ne hw]
                rcases List.mem_cons.mp h with e | e
                · exact absurd e.symm hw
                · exact ih e hl
          rw [this vs hm (by rw [wipe_length] at hl; exact hl)]
        · rw [List.getElem?_eq_none (by rw [List.length_set]; omega), List.getElem?_eq_none (by omega)]
      · rw [List.getElem?_set_ne hj]
section
variable {K : PySem.W.Frag} {io : List Addr} {S : Sto} {H : Hp}
theorem seqD_rel {d : D} {v : V} {ds : List D} (R : Rep K io S H) (q : RD K io H d v) (h : seqD S d = some ds) : ∃ a xs, v = .ref a ∧ (SqT K H a xs ∨ SqL K H a xs) ∧ RDs K io H ds xs := by
  unfold seqD at h
  split at h
  · obtain ⟨a, xs, e, h1, h2⟩ := q
    injection h with h
    subst h
    exact ⟨a, xs, e, .inl h1.1, h2⟩
  · split at h
    · rename_i l e
      obtain ⟨a, e1, h1⟩ := q
      injection h with h
      subst h
      obtain ⟨xs, hx, r⟩ := R.ob _ _ _ e h1
      exact ⟨a, xs, e1, .inr (SqL.of hx), r⟩
    · cases h
  · cases h
mutual
theorem Pt.ok (R : Rep K io S H) : ∀ (p : Pt) {ρ ρ' : En} {σ : L2.St} {d : D} {v : V}, RE K io H ρ σ → RD K io H d v → p.put S ρ d = some ρ' →
    ∃ σ', RE K io H ρ' σ' ∧ (∀ vs, p.within vs = true → wipe σ' vs = wipe σ vs) ∧ ∀ Q : L2.St → Hp → Prop, Q σ' H → p.tg K v σ H Q
  | .nm i, ρ, ρ', σ, d, v, re, q, h => by
    have h : some (ρ.set i (some d)) = some ρ' := h
    injection h with h
    subst h
    exact ⟨σ.set i (some v), re.set i q, fun vs hv => wipe_set (List.contains_iff_mem.mp hv), fun Q hq => hq⟩
  | .tp ps, ρ, ρ', σ, d, v, re, q, h => by
    unfold Pt.put at h
    split at h
    · rename_i ds e
      obtain ⟨a, xs, ev, hs, r⟩ := seqD_rel R q e
      obtain ⟨σ', r1, r2, r3, r4⟩ := Pt.oks R ps re r h
      refine ⟨σ', r1, r2, fun Q hq => ?_⟩
      rcases hs with hs | hs
      · exact .inl ⟨a, xs, ev, hs, r4, r3 Q hq⟩
      · exact .inr ⟨a, xs, ev, hs, r4, r3 Q hq⟩
    · cases h
theorem Pt.oks (R : Rep K io S H) : ∀ (ps : List Pt) {ρ ρ' : En} {σ : L2.St} {ds : List D} {vs : List V}, RE K io H ρ σ → RDs K io H ds vs → Pt.puts S ps ρ ds = some ρ' →
    ∃ σ', RE K io H ρ' σ' ∧ (∀ ws, Pt.withins ws ps = true → wipe σ' ws = wipe σ ws) ∧ (∀ Q : L2.St → Hp → Prop, Q σ' H → Pt.tgs K ps vs σ H Q) ∧ vs.length = ps.length
  | [], ρ, ρ', σ, ds, vs, re, q, h => by
    cases ds with
    | nil =>
      have h : some ρ = some ρ' := h
      injection h with h
      subst h
      have q : vs = [] := q
      subst q
      exact ⟨σ, re, fun _ _ => rfl, fun Q hq => ⟨rfl, hq⟩, rfl⟩
    | cons _ _ => cases h
  | p :: ps, ρ, ρ', σ, ds, vs, re, q, h => by
    cases ds with
    | nil => cases h
    | cons d ds =>
      obtain ⟨v, r, e, q1, q2⟩ := q
      subst e
      unfold Pt.puts at h
      split at h
      · rename_i ρ1 e1
        obtain ⟨σ1, a1, a2, a3⟩ := Pt.ok R p re q1 e1
        obtain ⟨σ2, b1, b2, b3, b4⟩ := Pt.oks R ps a1 q2 h
        refine ⟨σ2, b1, fun ws hw => ?_, fun Q hq => ⟨v, r, rfl, a3 _ (b3 Q hq)⟩, by rw [List.length_cons, List.length_cons, b4]⟩
        have hw : (Pt.within ws p && Pt.withins ws ps) = true := hw
        rw [Bool.and_eq_true] at hw
        rw [b2 ws hw.2, a2 ws hw.1]
      · cases h
end
end
abbrev QP (X : Cx) (tg : Expr) (p : Pt) : Prop := PG X tg (p.tg X.K)
abbrev QPs (X : Cx) (tgs : List Expr) (ps : List Pt) : Prop := PGs X tgs (Pt.tgs X.K ps)
section
variable {X : Cx} {C : Cn} {pos : Pos} {e : Expr} {es : List Expr} {m : M}
theorem qp_nm (i : Nat) {x : Str} (hN : X.N.Nodup) (hi : X.N[i]? = some x := by rfl) (hx : Loc X.env.scope x := by first | exact Or.inl rfl | exact Or.inr rfl) (hf : X.fn x = true ∨ X.env.scope.names.lookup x = some .local := by first | exact .inl rfl | exact .inr rfl) : QP X (.Name x pos) (.nm i) := pg_name hN hi hx hf
theorem qps_nil : QPs X [] [] := pgs_nil
theorem qps_cons {p : Pt} {ps : List Pt} (h1 : QP X e p) (h2 : QPs X es ps) (hs : (assignEach (e :: es) X.env).map (·.2) = assign e X.env :: (assignEach es X.env).map (·.2) := by rfl) : QPs X (e :: es) (p :: ps) := pgs_cons h1 h2 hs
theorem qp_tp {k : Nat} {ps : List Pt} (hc : X.calm = true) (h : QPs X es ps) (hn : (assignEach es X.env).length = ps.length := by rfl) (hst : (assignEach es X.env).findIdx? (·.1) = none := by rfl) : QP X (.Tuple es k pos) (.tp ps) := by
  refine ⟨fun pins s σ H v u Q I r hw => ?_⟩
  rcases hw with hw | hw
  · exact (pg_tup (k := k) (pos := pos) hc h hn hst).run pins s σ H v u Q I r hw
  · exact (pg_lst (k := k) (pos := pos) hc h hn hst).run pins s σ H v u Q I r hw
def sAsg (p : Pt) (m : M) : MS := fun ρ S => (m ρ S).st ρ fun d S1 => match p.put S1 ρ d with
  | some ρ1 => .nx ρ1 S1
  | none => .bad
end
end Mn
set_option Elab.async false
set_option linter.all false
set_option maxRecDepth 100000
set_option maxHeartbeats 4000000
namespace Mn
open PySem PySem.Spec PyProof.Rows L2
abbrev It0 := List D × (Sto → Bool)
abbrev MI := En → Sto → Res It0
/-- J walks these items, as long as chk says that their source stands -/
def WkD (K : PySem.W.Frag) (J : It) (io : List Addr) (H : Hp) (ds : List D) (chk : Sto → Bool) : Prop := ∃ (G : Hp → Prop) (Y : Nat → Hp → V → Hp → Prop), Walk J ds.length G Y ∧
  (∀ io' S' H', io <+: io' → Mo H H' → Rep K io' S' H' → chk S' = true → G H') ∧
  ∀ (i : Nat) io' S' H' x H2, io <+: io' → Mo H H' → Rep K io' S' H' → chk S' = true → i < ds.length → Y i H' x H2 → ∃ d, ds[i]? = some d ∧ Mo H' H2 ∧ Rep K io' S' H2 ∧ RD K io' H2 d x
theorem WkD.mono {K : PySem.W.Frag} {J : It} {io io' : List Addr} {H H' : Hp} {ds : List D} {chk : Sto → Bool} (p : io <+: io') (m : Mo H H') (h : WkD K J io H ds chk) : WkD K J io' H' ds chk := by
  obtain ⟨G, Y, w, h1, h2⟩ := h
  exact ⟨G, Y, w, fun io2 S2 H2 p2 m2 => h1 io2 S2 H2 (p.trans p2) (m.trans m2), fun i io2 S2 H2 x H3 p2 m2 => h2 i io2 S2 H2 x H3 (p.trans p2) (m.trans m2)⟩
abbrev rI (K : PySem.W.Frag) : List Addr → Hp → It0 → It → Prop := fun io H a J => WkD K J io H a.1 a.2
def rdI (K : PySem.W.Frag) (C : Cn) (m : MI) : TI := fun σ H R => ∃ io ρ S, Rep K io S H ∧ RE K io H ρ σ ∧ Po K (rI K) C.cl (fun c d H' => C.W c d σ H') io H (m ρ S) R
abbrev QI (X : Cx) (C : Cn) (tg e : Expr) (m : MI) : Prop := PI X tg e (rdI X.K C m)
theorem PI_imp {X : Cx} {tg e : Expr} {t t' : TI} (h : PI X tg e t) (hi : ∀ σ H R, t' σ H R → t σ H R) : PI X tg e t' := ⟨fun pins s σ H R I q => h.run pins s σ H R I (hi σ H R q)⟩
theorem PI_or {X : Cx} {tg e : Expr} {t t' : TI} (h : PI X tg e t) (h' : PI X tg e t') : PI X tg e (fun σ H R => t σ H R ∨ t' σ H R) := ⟨fun pins s σ H R I q => q.elim (h.run pins s σ H R I) (h'.run pins s σ H R I)⟩
def always : Sto → Bool := fun _ => true
def stands (n : Nat) (ds : List D) : Sto → Bool := fun S => decide (S[n]? = some (.lst ds))
/-- the items of a value: a tuple's, a list's, a text's signs -/
def itD (S : Sto) : D → Option It0
  | .tup ds => some (ds, always)
  | .fls ds => some (ds, always)
  | .str x => some (x.cps.toList.map fun c => .str ⟨#[c]⟩, always)
  | .ref n => match S[n]? with
    | some (.lst ds) => some (ds, stands n ds)
    | _ => none
  | _ => none
def iVal (m : M) : MI := fun ρ S => (m ρ S).bind fun d S1 => match itD S1 d with
  | some z => .ok z S1
  | none => .bad
section
variable {K : PySem.W.Frag} {io : List Addr} {H : Hp} {ds : List D} {xs : List V} {a : Addr}
theorem wk_tup (hs : SqT K H a xs) (r : RDs K io H ds xs) : WkD K (Itt K a) io H ds always := by
  refine ⟨_, _, (by rw [← r.length]; exact walk_tup), fun io' S' H' p m R _ => m.sqT hs, fun i io' S' H' x H2 p m R _ hi y => ?_⟩
  obtain ⟨e, y⟩ := y
  subst e
  obtain ⟨d, e1, q⟩ := r.back y
  exact ⟨d, e1, Mo.refl _, R, q.mono p m⟩
theorem wk_fls (hs : FzL K H a xs) (r : RDs K io H ds xs) : WkD K (Itl K a) io H ds always := by
  refine ⟨_, _, (by rw [← r.length]; exact walk_list), fun io' S' H' p m R _ => (m.fzL hs).sq, fun i io' S' H' x H2 p m R _ hi y => ?_⟩
  obtain ⟨e, y⟩ := y
  subst e
  obtain ⟨d, e1, q⟩ := r.back y
  exact ⟨d, e1, Mo.refl _, R, q.mono p m⟩
theorem wk_lst {n : Nat} (R : Rep K io S H) (hs : S[n]? = some (.lst ds)) (ha : io[n]? = some a) : WkD K (Itl K a) io H ds (stands n ds) := by
  obtain ⟨xs, hx, r⟩ := R.ob _ _ _ hs ha
  refine ⟨fun H' => ∃ ys, H' a = some (.lst ys) ∧ ys.length = ds.length, fun i H' x H2 => H2 = H' ∧ ∀ ys, SqL K H' a ys → ys[i]? = some x, ?_, fun io' S' H' p m R' c => ?_, fun i io' S' H' x H2 p m R' c hi y => ?_⟩
  · refine ⟨fun i H' hi ⟨ys, h1, h2⟩ => ⟨ys, ys[i]'(by omega), SqL.of h1, by simp [h2, hi]⟩, fun H' ⟨ys, h1, h2⟩ => ⟨ys, SqL.of h1, by omega⟩, fun i H' x H2 hi g y => y⟩
  · have c : S'[n]? = some (.lst ds) := of_decide_eq_true c
    obtain ⟨ys, h1, h2⟩ := R'.ob _ _ _ c (pre_get p ha)
    exact ⟨ys, h1, h2.length⟩
  · obtain ⟨e, y⟩ := y
    subst e
    have c : S'[n]? = some (.lst ds) := of_decide_eq_true c
    obtain ⟨ys, h1, h2⟩ := R'.ob _ _ _ c (pre_get p ha)
    obtain ⟨d, e1, q⟩ := h2.back (y ys (SqL.of h1))
    exact ⟨d, e1, Mo.refl _, R', q⟩
theorem wk_str (z : Str) : WkD K (Its z) io H (z.cps.toList.map fun c => .str ⟨#[c]⟩) always := by
  refine ⟨_, _, (by rw [List.length_map, Array.length_toList]; exact walk_str), fun io' S' H' p m R' c => trivial, fun i io' S' H' x H2 p m R' c hi y => ?_⟩
  obtain ⟨e, c, hc, ev⟩ := y
  subst e ev
  refine ⟨.str ⟨#[c]⟩, ?_, Mo.refl _, R', rfl⟩
  rw [List.getElem?_map, Array.getElem?_toList, hc]
  rfl
theorem wk_range (lo : Int) (n : Nat) : WkD K (Itr lo n) io H ((List.range n).map fun i => .int (lo + (i : Nat))) always := by
  refine ⟨_, _, (by rw [List.length_map, List.length_range]; exact walk_range), fun io' S' H' p m R' c => trivial, fun i io' S' H' x H2 p m R' c hi y => ?_⟩
  obtain ⟨e, ev⟩ := y
  subst e ev
  refine ⟨.int (lo + (i : Nat)), ?_, Mo.refl _, R', rfl⟩
  rw [List.length_map, List.length_range] at hi
  rw [List.getElem?_map, List.getElem?_range hi]
  rfl
end
section
variable {X : Cx} {C : Cn} {tg l : Expr} {m : M} {ma : MA}
theorem qi_val (hl : QE X C l m) : QI X C tg l (iVal m) := by
  refine PI_imp (PI_or (PI_or (pi_list hl) (pi_tup hl)) (pi_str hl)) ?_
  rintro σ H Q ⟨io, ρ, S, R, re, h⟩
  unfold iVal at h
  cases e : m ρ S with
  | bad =>
    rw [e] at h
    exact h.elim
  | exc c n S1 =>
    refine .inl (.inl ⟨io, ρ, S, R, re, ?_⟩)
    rw [e] at h ⊢
    exact h
  | ok d S1 =>
    rw [e] at h
    have h : Po X.K (rI X.K) C.cl (fun c d H' => C.W c d σ H') io H (match itD S1 d with | some z => Res.ok z S1 | none => .bad) Q := h
    cases ei : itD S1 d with
    | none =>
      rw [ei] at h
      exact h.elim
    | some z =>
      rw [ei] at h
      unfold itD at ei
      split at ei
      · refine .inl (.inr ⟨io, ρ, S, R, re, ?_⟩)
        rw [e]
        intro io1 H1 v p mo R1 q
        injection ei with ei
        subst ei
        obtain ⟨a, xs, rfl, hs, r⟩ := q
        exact ⟨a, rfl, ⟨xs, hs.1⟩, h.finP p mo R1 (wk_tup hs.1 r)⟩
      · refine .inl (.inl ⟨io, ρ, S, R, re, ?_⟩)
        rw [e]
        intro io1 H1 v p mo R1 q
        injection ei with ei
        subst ei
        obtain ⟨a, xs, rfl, hs, r⟩ := q
        exact ⟨a, rfl, ⟨xs, hs.sq⟩, h.finP p mo R1 (wk_fls hs r)⟩
      · refine .inr ⟨io, ρ, S, R, re, ?_⟩
        rw [e]
        intro io1 H1 v p mo R1 q
        injection ei with ei
        subst ei
        exact ⟨_, q, h.finP p mo R1 (wk_str _)⟩
      · split at ei
        · rename_i n ds hs
          refine .inl (.inl ⟨io, ρ, S, R, re, ?_⟩)
          rw [e]
          intro io1 H1 v p mo R1 q
          injection ei with ei
          subst ei
          obtain ⟨a, rfl, ha⟩ := q
          obtain ⟨xs, hx, r⟩ := R1.ob _ _ _ hs ha
          exact ⟨a, rfl, ⟨xs, SqL.of hx⟩, h.finP p mo R1 (wk_lst R1 hs ha)⟩
        · cases ei
      · cases ei
/-- range(n), range(a, b), range(a, b, c) -/
def smallI (i : Int) : Bool := decide (-(2 ^ 62) ≤ i) && decide (i < 2 ^ 62)
def iRange1 (a : MA) : MI := fun ρ S => (a ρ S).bind fun ds S1 => match ds with
  | [.int j] => if smallI j = true then .ok ((List.range j.toNat).map fun i => .int (0 + (i : Nat)), always) S1 else .bad
  | _ => .bad
theorem smallI_ok {i : Int} (h : smallI i = true) : -(2 ^ 62) ≤ i ∧ i < 2 ^ 62 := by
  unfold smallI at h
  rw [Bool.and_eq_true] at h
  exact ⟨of_decide_eq_true h.1, of_decide_eq_true h.2⟩
theorem qi_range1 {a : Expr} {p pos : Pos} (hm : X.mg "range" = none) (ha : QA X C [a] ma) (hg : Gl X "range" := by rfl) (hs : starEach [a] X.env = [(false, eval a X.env)] := by rfl) : QI X C tg (.Call (.Name "range" p) [a] [] pos) (iRange1 ma) := by
  refine PI_imp (pi_range1 hg hm ha hs) ?_
  rintro σ H Q ⟨io, ρ, S, R, re, h⟩
  refine rdA_step R re h fun ds S1 io1 H1 vs p1 m1 R1 re1 q1 h1 => ?_
  split at h1
  · split at h1
    · rename_i j hj
      obtain ⟨v, r, rfl, q2, q3⟩ := q1
      have q2 : v = .int j := q2
      have q3 : r = [] := q3
      subst q2 q3
      obtain ⟨s1, s2⟩ := smallI_ok hj
      exact ⟨j, rfl, s1, s2, h1.fin R1 (wk_range 0 _)⟩
    · exact h1.elim
  · exact h1.elim
end
def mLoop (p : Pt) (body : MS) (chk : Sto → Bool) : List D → MS
  | [], ρ, S => if chk S = true then .nx ρ S else .bad
  | d :: r, ρ, S => if chk S = true then match p.put S ρ d with
      | some ρ1 => match body ρ1 S with
        | .nx ρ2 S2 => mLoop p body chk r ρ2 S2
        | .ct ρ2 S2 => mLoop p body chk r ρ2 S2
        | .bk ρ2 S2 => .nx ρ2 S2
        | .rt d S2 => .rt d S2
        | .ex c n ρ2 S2 => .ex c n ρ2 S2
        | .bad => .bad
      | none => .bad
    else .bad
def sFor (it : MI) (p : Pt) (body : MS) : MS := fun ρ S => (it ρ S).st ρ fun z S1 => mLoop p body z.2 z.1 ρ S1
theorem mLoop_chk {K : PySem.W.Frag} {C : Cn} {p : Pt} {body : MS} {chk : Sto → Bool} {ds : List D} {ρ : En} {S : Sto} {io : List Addr} {H : Hp} {E : Ends} (h : PoS K C io H (mLoop p body chk ds ρ S) E) : chk S = true := by
  cases ds with
  | nil =>
    unfold mLoop at h
    split at h
    · assumption
    · exact h.elim
  | cons d r =>
    unfold mLoop at h
    split at h
    · assumption
    · exact h.elim
section
variable {X : Cx} {C : Cn} {tg iter : Expr} {body : List Stmt} {it : MI} {p : Pt} {mb : MS} {pos : Pos}
theorem qs_for (hp : PassesOwn (model X.prog X.w) X.A X.env X.xe) (hc : X.calm = true) (hi : QI X C tg iter it) (hg : QP X tg p) (hb : QSs X C body mb)
    (hs : ∀ x, foldedSetIterable iter X.env x = pure x := by intro _; rfl) : QS X C (.For tg iter body [] pos) (sFor it p mb) := by
  refine PS_imp (ps_for hp hc hi hg hb hs) ?_
  rintro E σ H ⟨io, ρ, S, R, re, h⟩
  refine ⟨io, ρ, S, R, re, st_step (rel := rI X.K) re h fun z S1 io1 H1 J p1 m1 R1 re1 wk h1 => ?_⟩
  obtain ⟨ds, chk⟩ := z
  obtain ⟨G, Y, w, wg, wy⟩ := wk
  refine for_it w (fun i σ' H' => ∃ io' ρ' S', io1 <+: io' ∧ Mo H1 H' ∧ Rep X.K io' S' H' ∧ RE X.K io' H' ρ' σ' ∧ PoS X.K C io' H' (mLoop p mb chk (ds.drop i) ρ' S') E) ?_ ?_ ?_ ?_
  · exact ⟨io1, ρ, S1, List.prefix_rfl, Mo.refl _, R1, re1, h1⟩
  · rintro i σ' H' _ ⟨io', ρ', S', p', m', R', _, h'⟩
    exact wg io' S' H' p' m' R' (mLoop_chk h')
  · rintro i x σ' H' H2 hi ⟨io', ρ', S', p', m', R', re', h'⟩ y
    have hck := mLoop_chk h'
    obtain ⟨d, hd, mo2, R2, q⟩ := wy i io' S' H' x H2 p' m' R' hck hi y
    have hdr : ds.drop i = d :: ds.drop (i + 1) := by
      rw [List.drop_eq_getElem_cons hi]
      congr 1
      exact Option.some.inj ((List.getElem?_eq_getElem hi).symm.trans hd)
    rw [hdr] at h'
    have h2 := PoS.mono (List.prefix_rfl) mo2 h'
    unfold mLoop at h2
    rw [if_pos hck] at h2
    split at h2
    · rename_i ρ1 e1
      obtain ⟨σ1, r1, _, r3⟩ := Pt.ok R2 p (re'.mono (List.prefix_rfl) mo2) q e1
      refine r3 _ ⟨io', ρ1, S', R2, r1, ?_⟩
      have pm := m'.trans mo2
      generalize mb ρ1 S' = r at h2 ⊢
      cases r with
      | nx ρ2 S2 => exact fun io3 H3 σ3 p3 m3 R3 re3 => ⟨io3, ρ2, S2, p'.trans p3, pm.trans m3, R3, re3, PoS.mono p3 m3 h2⟩
      | ct ρ2 S2 => exact fun io3 H3 σ3 p3 m3 R3 re3 => ⟨io3, ρ2, S2, p'.trans p3, pm.trans m3, R3, re3, PoS.mono p3 m3 h2⟩
      | bk ρ2 S2 => exact h2
      | rt d S2 => exact h2
      | ex c n ρ2 S2 => exact h2
      | bad => exact h2
    · exact h2.elim
  · rintro σ' H' ⟨io', ρ', S', p', m', R', re', h'⟩
    rw [List.drop_length] at h'
    have hck := mLoop_chk h'
    unfold mLoop at h'
    rw [if_pos hck] at h'
    exact h'.next R' re'
end
def mWhile (t : MT) (body : MS) : Nat → MS
  | 0, _, _ => .bad
  | n + 1, ρ, S => (t ρ S).st ρ fun x S1 => if x = true then match body ρ S1 with
      | .nx ρ2 S2 => mWhile t body n ρ2 S2
      | .ct ρ2 S2 => mWhile t body n ρ2 S2
      | .bk ρ2 S2 => .nx ρ2 S2
      | .rt d S2 => .rt d S2
      | .ex c n ρ2 S2 => .ex c n ρ2 S2
      | .bad => .bad
    else .nx ρ S1
def sWhile (n : Nat) (t : MT) (body : MS) : MS := mWhile t body n
/-- nothing may leave a comprehension -/
def Cn.no (C : Cn) : Cn := ⟨C.cl, fun _ _ _ _ => False⟩
def Res.only {α : Type} : Res α → Res α
  | .ok a S => .ok a S
  | _ => .bad
def wipeE (ρ : En) : List Nat → En
  | [] => ρ
  | v :: vs => (wipeE ρ vs).set v none
def mCompL (p : Pt) (cond : MT) (elt : M) (chk : Sto → Bool) (n : Nat) (ρ : En) : List D → Sto → Res D
  | [], S => if chk S = true then .ok (.ref n) S else .bad
  | d :: r, S => if chk S = true then match p.put S ρ d with
      | some ρ1 => ((cond ρ1 S).only).bind fun b S1 => if b = true then ((elt ρ1 S1).only).bind fun x S2 => match S2[n]? with
          | some (.lst acc) => if acc.length < sizeLine then mCompL p cond elt chk n ρ r (S2.set n (.lst (acc ++ [x]))) else .bad
          | _ => .bad
        else mCompL p cond elt chk n ρ r S1
      | none => .bad
    else .bad
/-- vs: the slots of the comprehension's own names -/
def mComp (it : MI) (p : Pt) (cond : MT) (elt : M) (vs : List Nat) : M := fun ρ S => (it ρ S).bind fun z S1 => if p.within vs = true then mCompL p cond elt z.2 S1.length (wipeE ρ vs) z.1 (S1 ++ [.lst []]) else .bad
def tYesM : MT := fun _ S => .ok true S
abbrev QTs (X : Cx) (C : Cn) (ifs : List Expr) (t : MT) : Prop := PTs X ifs (rdT X.K C t)
theorem qts_nil {X : Cx} {C : Cn} : QTs X C [] tYesM := ⟨fun pins s σ H Q I ⟨io, ρ, S, R, re, h⟩ => (pts_nil (X := X)).run pins s σ H Q I (h.fin R rfl)⟩
theorem RE.wipe {K : PySem.W.Frag} {io : List Addr} {H : Hp} {ρ : En} {σ : L2.St} (h : RE K io H ρ σ) : ∀ vs : List Nat, RE K io H (wipeE ρ vs) (L2.wipe σ vs)
  | [] => h
  | v :: vs => by
    have ih := RE.wipe h vs
    refine ⟨?_, fun i d e => ?_⟩
    · show ((wipeE ρ vs).set v none).length = ((L2.wipe σ vs).set v none).length
      rw [List.length_set, List.length_set]
      exact ih.1
    · have e : ((wipeE ρ vs).set v none)[i]? = some (some d) := e
      show ∃ u, ((L2.wipe σ vs).set v none)[i]? = some (some u) ∧ _
      by_cases hv : v = i
      · subst hv
        by_cases hl : v < (wipeE ρ vs).length
        · rw [List.getElem?_set_self hl] at e
          cases e
        · rw [List.getElem?_eq_none (by rw [List.length_set]; omega)] at e
          cases e
      · rw [List.getElem?_set_ne hv] at e
        rw [List.getElem?_set_ne hv]
        exact ih.2 i d e
theorem only_po {α β : Type} {K : PySem.W.Frag} {rel : List Addr → Hp → α → β → Prop} {C : Cn} {σ : L2.St} {io : List Addr} {H : Hp} {r : Res α} {Q : β → Hp → Prop} {γ δ : Type} {relg : List Addr → Hp → γ → δ → Prop} {k : α → Sto → Res γ} {Qd : δ → Hp → Prop} {cl : Str → Value} {W : Value → Option Addr → Hp → Prop}
    (h : Po K relg cl W io H ((r.only).bind k) Qd) (hk : ∀ a S1 io1 H1 b, io <+: io1 → Mo H H1 → Rep K io1 S1 H1 → rel io1 H1 a b → Po K relg cl W io1 H1 (k a S1) Qd → Q b H1) : Po K rel C.no.cl (fun c d H' => C.no.W c d σ H') io H r Q := by
  cases r with
  | ok a S => exact fun io1 H1 b p m R q => hk a S io1 H1 b p m R q (Po.mono p m h)
  | exc c n S => exact h.elim
  | bad => exact h
theorem mCompL_chk {K : PySem.W.Frag} {cl : Str → Value} {W : Value → Option Addr → Hp → Prop} {p : Pt} {cond : MT} {elt : M} {chk : Sto → Bool} {n : Nat} {ρ : En} {ds : List D} {S : Sto} {io : List Addr} {H : Hp} {Q : VK} (h : Po K (rD K) cl W io H (mCompL p cond elt chk n ρ ds S) Q) : chk S = true := by
  cases ds with
  | nil =>
    unfold mCompL at h
    split at h
    · assumption
    · exact h.elim
  | cons d r =>
    unfold mCompL at h
    split at h
    · assumption
    · exact h.elim
section
variable {X : Cx} {C : Cn} {elt tg iter : Expr} {ifs : List Expr} {scope : Scope} {own : List (Str × Nat)} {pos : Pos} {it : MI} {p : Pt} {cond : MT} {me : M}
theorem lc_read {K : PySem.W.Frag} {σ : L2.St} {H : Hp} {Q : VK} {vs : List Nat} (h : rdE K C (mComp it p cond me vs) σ H Q) : tLc (rdI K C it) (p.tg K) (rdT K C.no cond) (rdE K C.no me) vs σ H Q := by
  obtain ⟨io, ρ, S, R, re, h⟩ := h
  refine ⟨io, ρ, S, R, re, Po.imp (relg := rI K) h fun z S1 io1 H1 J _ p1 m1 R1 wk h1 => ?_⟩
  obtain ⟨ds, chk⟩ := z
  split at h1
  · rename_i hw
    intro L hL
    have pp : io1 <+: io1 ++ [L] := List.prefix_append _ _
    have mL : Mo H1 (upd H1 L (.lst [])) := Mo.new hL
    have R2 : Rep K (io1 ++ [L]) (S1 ++ [.lst []]) (upd H1 L (.lst [])) := R1.new hL ⟨[], upd_same, rfl⟩
    have hn : (io1 ++ [L])[S1.length]? = some L := by
      rw [← R1.len]
      exact List.getElem?_concat_length
    obtain ⟨G, Y, w, wg, wy⟩ := wk
    have re2 : RE K (io1 ++ [L]) (upd H1 L (.lst [])) (wipeE ρ vs) (wipe σ vs) := ((re.mono p1 m1).mono pp mL).wipe vs
    refine lc_it w (fun i H' => ∃ io' S', io1 ++ [L] <+: io' ∧ Mo (upd H1 L (.lst [])) H' ∧ Rep K io' S' H' ∧ Po K (rD K) C.cl (fun c d H' => C.W c d σ H') io' H' (mCompL p cond me chk S1.length (wipeE ρ vs) (ds.drop i) S') Q) ?_ ?_ ?_ ?_
    · exact ⟨_, _, List.prefix_rfl, Mo.refl _, R2, Po.mono pp mL h1⟩
    · rintro i H' _ ⟨io', S', p', m', R', h'⟩
      exact wg io' S' H' (pp.trans p') (mL.trans m') R' (mCompL_chk h')
    · rintro i x H' H2 hi ⟨io', S', p', m', R', h'⟩ y
      have hck := mCompL_chk h'
      obtain ⟨d, hd, mo2, R3, q⟩ := wy i io' S' H' x H2 (pp.trans p') (mL.trans m') R' hck hi y
      have hdr : ds.drop i = d :: ds.drop (i + 1) := by
        rw [List.drop_eq_getElem_cons hi]
        congr 1
        exact Option.some.inj ((List.getElem?_eq_getElem hi).symm.trans hd)
      rw [hdr] at h'
      have h2 := Po.mono (List.prefix_rfl) mo2 h'
      unfold mCompL at h2
      rw [if_pos hck] at h2
      have pm := m'.trans mo2
      split at h2
      · rename_i ρ1 e1
        obtain ⟨σ1, r1, r2, r3⟩ := Pt.ok R3 p (re2.mono p' pm) q e1
        refine r3 _ ⟨?_, io', ρ1, S', R3, r1, only_po (rel := rB) (C := C) h2 fun b S4 io4 H4 b' p4 m4 R4 e h4 => ?_⟩
        · rw [r2 vs hw]
          have : ∀ (ws : List Nat), (∀ v ∈ ws, v ∈ vs) → wipe (wipe σ vs) ws = wipe σ vs := by
            intro ws
            induction ws with
            | nil => intro _; rfl
            | cons v ws ih =>
              intro hv
              show (wipe (wipe σ vs) ws).set v none = _
              rw [ih fun u hu => hv u (List.mem_cons_of_mem _ hu)]
              apply List.ext_getElem?
              intro j
              by_cases hj : v = j
              · subst hj
                by_cases hl : v < (wipe σ vs).length
                · rw [List.getElem?_set_self hl]
                  cases hz : (wipe σ vs)[v]? with
                  | none => rw [List.getElem?_eq_none_iff] at hz; omega
                  | some o =>
                    cases o with
                    | none => rfl
                    | some y => exact absurd (hv v List.mem_cons_self) (wipe_some hz).2
                · rw [List.getElem?_eq_none (by rw [List.length_set]; omega), List.getElem?_eq_none (by omega)]
              · rw [List.getElem?_set_ne hj]
          exact this vs fun v hv => hv
        · have e : b = b' := e
          subst e
          split at h4
          · rename_i hb
            rw [if_pos hb]
            refine ⟨io4, ρ1, S4, R4, r1.mono p4 m4, only_po (rel := rD K) (C := C) h4 fun x5 S5 io5 H5 y5 p5 m5 R5 q5 h5 => ?_⟩
            split at h5
            · rename_i acc es
              split at h5
              · rename_i hz
                have hn5 : io5[S1.length]? = some L := pre_get (p'.trans (p4.trans p5)) hn
                obtain ⟨ys, hy, ry⟩ := R5.ob _ _ _ es hn5
                obtain ⟨mo6, R6⟩ := R5.put (o := .lst (ys ++ [y5])) (ob := .lst (acc ++ [x5])) es hn5 fun mo => ⟨_, upd_same, (ry.append (RDs.one q5)).mono (List.prefix_rfl) mo⟩
                refine ⟨ys, hy, by rw [ry.length]; exact hz, io5, _, p'.trans (p4.trans p5), pm.trans (m4.trans (m5.trans mo6)), R6, Po.mono (List.prefix_rfl) mo6 h5⟩
              · exact h5.elim
            · exact h5.elim
          · rename_i hb
            rw [if_neg hb]
            exact ⟨io4, S4, p'.trans p4, pm.trans m4, R4, h4⟩
      · exact h2.elim
    · rintro H' ⟨io', S', p', m', R', h'⟩
      rw [List.drop_length] at h'
      have hck := mCompL_chk h'
      unfold mCompL at h'
      rw [if_pos hck] at h'
      exact h'.fin R' ⟨L, rfl, pre_get p' hn⟩
  · exact h1.elim
theorem qe_lc (hc : X.calm = true) (hN : X.N.Nodup) (hi : QI X C tg iter it) (ok : BlkOk X.N X.env.scope scope own)
    (hg : ∀ (s : Shared) (H : Hp) (Ca : Addr) (cl : List (Str × Addr)) (fp : List Addr), QP (X.blk s H scope (compEnvC scope cl Ca X.env) fp) tg p)
    (ht : ∀ (s : Shared) (H : Hp) (Ca : Addr) (cl : List (Str × Addr)) (fp : List Addr), QTs (X.blk s H scope (compEnvC scope cl Ca X.env) fp) C.no ifs cond)
    (he : ∀ (s : Shared) (H : Hp) (Ca : Addr) (cl : List (Str × Addr)) (fp : List Addr), QE (X.blk s H scope (compEnvC scope cl Ca X.env) fp) C.no elt me) (hs : ∀ x, foldedSetIterable iter X.env x = pure x := by intro _; rfl) :
    QE X C (.ListComp elt [⟨tg, iter, ifs, 0⟩] scope pos) (mComp it p cond me (own.map (·.2))) :=
  PE_imp (pe_lc hc hN hi ok hg ht he hs) fun _ _ _ h => lc_read h
end
end Mn
set_option Elab.async false
set_option linter.all false
set_option maxRecDepth 100000
set_option maxHeartbeats 4000000
namespace Mn
open PySem PySem.Spec PyProof.Rows L2
/-- the def at f keeps its promise wherever no repr is under way -/
structure FnG (P : Program) (w : World) (K : PySem.W.Frag) (mg : Str → Option Value) (base : Heap) (k : Nat) (f : Addr) (fd : FuncData) (ps : List Str) (sp : Sp) : Prop where
  len : ∀ vs H Q E, sp vs H Q E → vs.length = ps.length
  run : ∀ (A : Around) (outer : List Env) (s : Shared) (H : Hp) (args : Args) (us : List Value) (vs : List V) (Q : VK) (E : XK), Room k A → A.guards = some [] → Env0 P w K mg base A outer s H → BindsTo s fd args (ps.zip us) → Vals vs us →
    sp vs H Q E → codeAny (model P w) A (.call (.ref f) args) (CR (L2.CX P w) outer P w H s Q E) s
/-- what a mirror promises -/
def spF (K : PySem.W.Frag) (cl : Str → Value) (fn : F) : Sp := fun vs H Q E => ∃ io S ds, Rep K io S H ∧ RDs K io H ds vs ∧ Po K (rD K) cl (fun c d H' => E c d H') io H (fn ds S) Q
/-- a def of n parameters and l names in all -/
def mDef (n l : Nat) (m : MS) : F := fun ds S => if ds.length = n then match m (ds.map some ++ List.replicate (l - ds.length) none) S with
    | .nx _ S1 => .ok .non S1
    | .rt d S1 => .ok d S1
    | .ex c k _ S1 => .exc c k S1
    | _ => .bad
  else .bad
theorem re_start {K : PySem.W.Frag} {io : List Addr} {H : Hp} {N : List Str} {ds : List D} {vs : List V} (r : RDs K io H ds vs) : RE K io H (ds.map some ++ List.replicate (N.length - ds.length) none) (L2.start N vs) := by
  have hl := r.length
  unfold L2.start
  refine ⟨by rw [List.length_append, List.length_append, List.length_map, List.length_map, List.length_replicate, List.length_replicate, hl], fun i d e => ?_⟩
  by_cases hi : i < ds.length
  · rw [List.getElem?_append_left (by rw [List.length_map]; exact hi), List.getElem?_map] at e
    cases q : ds[i]? with
    | none =>
      rw [q] at e
      cases e
    | some d' =>
      rw [q] at e
      have e : some (some d') = some (some d) := e
      injection e with e
      injection e with e
      subst e
      obtain ⟨v, hv, rv⟩ := r.get q
      refine ⟨v, ?_, rv⟩
      rw [List.getElem?_append_left (by rw [List.length_map, hl]; exact hi), List.getElem?_map, hv]
      rfl
  · rw [List.getElem?_append_right (by rw [List.length_map]; omega), List.getElem?_replicate] at e
    split at e <;> cases e
section
variable {P : Program} {w : World} {K : PySem.W.Frag} {mg : Str → Option Value} {base : Heap} {cl : Str → Value}
theorem fg_of {x qual : Str} {params : Arguments} {body : List Stmt} {scope : Scope} {dvs : List V} {kws : List (Str × V)} {f : Addr} {fd : FuncData} {N ps : List Str} {k : Nat} {m : MS} (Fu : FunD K x qual params body scope dvs kws f fd) (Sc : FnScope N ps scope)
    (hbody : ∀ (cdv : Value) (A : Around) (outer : List Env) (s : Shared) (H : Hp) (E : XK), Room k (A.deeper (envOfC qual scope s.heap.objs.size f cdv)) → (A.deeper (envOfC qual scope s.heap.objs.size f cdv)).guards = some [] →
      QSs (cxOf (L2.CX P w) P w K mg base N qual scope f cdv A outer s H E) ⟨cl, fun c d _ H => E c d H⟩ body m) : FnG P w K mg base (k + 1) f fd ps (spF K cl (mDef ps.length N.length m)) := by
  obtain ⟨oc, od, dV, kV, doc, pm, an, cdv, ct, osl, efd, lk, hcd, _, _⟩ := Fu.ex
  subst efd
  have len : ∀ vs H Q E, spF K cl (mDef ps.length N.length m) vs H Q E → vs.length = ps.length := fun vs H Q E ⟨io, S, ds, _, r, h⟩ => by
    rw [r.length]
    unfold mDef at h
    split at h
    · assumption
    · exact h.elim
  refine ⟨len, fun A outer s H args us vs Q E room gds env hb rel hsp => ?_⟩
  have hl := len _ _ _ _ hsp
  have inK : K.In s.heap := env.mod.kin.keeps fun b o e => (env.bs b o e).1
  have slots : ∀ y ∈ ps.zip us, scope.names.lookup y.1 = some .local ∨ (scope.names.lookup y.1 = some .cell ∧ ((cellsFrom (s.heap.objs.size + 1) scope.names []).lookup y.1).isSome = true) := by
    rintro ⟨n, v⟩ hy
    exact (Sc.par n (List.of_mem_zip hy).1).elim Or.inl fun q => Or.inr ⟨q, PySem.W.cellsFrom_some _ _ _ (.inl q)⟩
  refine codeAny_call_function room.depth (inK _ _ lk) rfl Sc.co Sc.gen rfl (PySem.W.codeRec_of inK hcd) (hb _ _ _ _ ?_)
  refine wpAny_newFunctionEnv_cells Sc.kind slots fun ev hev s1 ic => ?_
  subst hev
  refine ⟨(env.mod.nolimit.keeps fun b o e => (env.bs b o e).1).keeps ic.toInCall.keep, codeAny_func ?_⟩
  obtain ⟨io, S, ds, R, r, h⟩ := hsp
  have I : Inv (cxOf (L2.CX P w) P w K mg base N qual scope f cdv A outer s H E) [] (L2.start N vs) H s1 := inv_start Sc room.hd env hl rel ic
  have hds : ds.length = ps.length := by rw [← r.length]; exact hl
  unfold mDef at h
  rw [if_pos hds] at h
  refine wpAny_mono ((hbody cdv A outer s H E (room.deeper _) gds).run [] s1 (L2.start N vs) H { nx := fun _ H' => Q .non H', rt := Q } I ⟨io, _, S, R, re_start r, ?_⟩) (fun fl s2 hs => ?_) fun e s2 hs => hs
  · show PoS K _ io H (m (ds.map some ++ List.replicate (N.length - ds.length) none) S) _
    generalize m (ds.map some ++ List.replicate (N.length - ds.length) none) S = rs at h ⊢
    cases rs with
    | nx ρ S1 => exact fun io' H' σ' p mo R' _ => h io' H' .non p mo R' rfl
    | rt d S1 => exact h
    | ex c n ρ S1 => exact fun io' H' σ' e p mo R' _ q => h io' H' e p mo R' q
    | bk ρ S1 => exact h.elim
    | ct ρ S1 => exact h.elim
    | bad => exact h.elim
  · cases fl with
    | ret u =>
      obtain ⟨v, σ', H', J, rv, q⟩ := hs
      exact ⟨v, H', J.os, J.bare, J.base, J.hok, rv, q⟩
    | next =>
      obtain ⟨σ', H', J, q⟩ := hs
      exact ⟨V.non, H', J.os, J.bare, J.base, J.hok, rfl, q⟩
    | brk =>
      obtain ⟨_, _, _, q⟩ := hs
      exact q.elim
    | cont =>
      obtain ⟨_, _, _, q⟩ := hs
      exact q.elim
theorem FnG.mono {j k : Nat} {f : Addr} {fd : FuncData} {ps : List Str} {sp : Sp} (G : FnG P w K mg base j f fd ps sp) (h : j ≤ k) : FnG P w K mg base k f fd ps sp := ⟨G.len, fun A outer s H args us vs Q E hr => G.run A outer s H args us vs Q E (hr.mono h)⟩
/-- a def that never ends well promises nothing -/
theorem FnG.bad {k : Nat} {f : Addr} {fd : FuncData} {ps : List Str} : FnG P w K mg base k f fd ps (spF K cl fun _ _ => .bad) := ⟨fun vs H Q E ⟨_, _, _, _, _, h⟩ => h.elim, fun A outer s H args us vs Q E _ _ _ _ _ ⟨_, _, _, _, _, h⟩ => h.elim⟩
end
section
variable {X : Cx} {C : Cn} {k : Nat} {f : Addr} {fd : FuncData} {ps : List Str} {fn : F} {x : Str} {p pos : Pos} {e : Expr} {es : List Expr} {ma : MA}
theorem run_g {pins : List (Addr × Obj)} {σ : L2.St} {H : Hp} {s : Shared} {Q : VK} {args : Args} {us : List Value} {vs : List V} (G : FnG X.prog X.w X.K X.mg X.base k f fd ps (spF X.K C.cl fn)) (hr : Room k X.A) (hg : X.A.guards = some []) (tk : Takes X C.W) (I : Inv X pins σ H s)
    (hb : BindsTo s fd args (ps.zip us)) (r : Vals vs us) (h : spF X.K C.cl fn vs H Q (WE C.W σ)) : codeAny (model X.prog X.w) X.A (.call (.ref f) args) (fun r s' => match r with | .ok (.ret u) => EP X pins σ Q u s' | .ok _ => False | .error e => X.xe e s') s := by
  refine codeAny_mono (G.run X.A X.stack s H args us vs Q (WE C.W σ) hr hg I.env0 hb r h) fun r s' hq => ?_
  cases r with
  | error e => exact passAt tk σ pins H s e s' I hq
  | ok fl =>
    cases fl with
    | ret u => exact I.after hq
    | _ => exact hq
theorem qe_call (G : FnG X.prog X.w X.K X.mg X.base k f fd ps (spF X.K C.cl fn)) (hr : Room k X.A) (hgd : X.A.guards = some []) (hm : X.mg x = some (.ref f)) (hk : PySem.W.keepIn X.K (.ref f) = true) (hb : Binds X.K fd ps []) (tk : Takes X C.W) (ha : QA X C (e :: es) ma)
    (hg : Gl X x := by rfl) (hdb : (x == ("__debug__" : Str)) = false := by decide) (he : starEach (e :: es) X.env = (false, eval e X.env) :: starEach es X.env := by rfl) (hpl : (backTo pos (starEach es X.env)).any (·.1) = false := by rfl) :
    QE X C (.Call (.Name x p) (e :: es) [] pos) (mCB fn ma) := by
  refine ⟨fun pins s σ H Q I h => ?_⟩
  obtain ⟨io, ρ, S, R, re, h⟩ := h
  have ra : rdA X.K C ma σ H fun vs H1 => spF X.K C.cl fn vs H1 Q (WE C.W σ) := rdA_step R re h fun ds S1 io1 H1 vs p1 m1 R1 re1 q1 h1 => ⟨io1, S1, ds, R1, q1, h1⟩
  refine wpAny_Call_Name_kw (ld_glob I hg hm ?_ hdb)
  refine PySem.W.callWith_K (h₀ := X.base) I.ok.mod.kin hk (thn (ha.run pos pins s σ H _ I ra) fun us s1 ⟨vs, H1, I1, r, q⟩ => ⟨I1.kIn, ?_⟩) he hpl
  have hl : us.length = ps.length := by rw [← r.length]; exact G.len _ _ _ _ q
  have b := hb s1 us I1.kIn (by rw [List.append_nil]; exact hl)
  rw [List.append_nil] at b
  refine wpAny_call (codeAny_mono (run_g G hr hgd tk I1 b r q) fun z s' hz => ?_)
  cases z with
  | error e => exact hz
  | ok fl => cases fl <;> exact hz
abbrev QK (X : Cx) (C : Cn) (ks : List Keyword) (m : MA) : Prop := PK X ks (rdA X.K C m)
theorem PK_imp {ks : List Keyword} {t t' : TA} (h : PK X ks t) (hi : ∀ σ H Q, t' σ H Q → t σ H Q) : PK X ks t' := ⟨fun pos pins s σ H Q I q => h.run pos pins s σ H Q I (hi σ H Q q)⟩
theorem qk_nil : QK X C [] aNil := PK_imp pk_nil fun σ H Q ⟨io, ρ, S, R, re, h⟩ => h.fin R rfl
end
section
variable {P : Program} {w : World} {K : PySem.W.Frag} {mg mb : Str → Option Value} {cl : Str → Value} {k : Nat} {fa a : Addr} {fd : FuncData} {x : Str} {fn : F} {s₁ : Shared} {vs : List Value} {ns : List Int}
/-- the law's own call, from what its mirror makes of the script -/
theorem law_call_g (KX : K.In s₁.heap) (hns : s₁.heap.Ns mainGlobals mg) (hb : s₁.heap.Ns builtinsNs mb) (hbb : ∀ x : Str, x ≠ "__name__" → mb x = bootBuiltins x) (hlim : s₁.heap.NoLimit) (hg : s₁.gens = #[])
    (ha : s₁.heap.get? a = some { cls := .type "list", data := .seq vs.toArray }) (hi : IntsAre vs ns) (hl : ns.length ≤ sizeLine) (hr : Room k callerA)
    (G : ∀ base : Heap, K.In base → base.Ns mainGlobals mg → FnG P w K mg base k fa fd [x] (spF K cl fn)) (hbind : ∀ (s : Shared) (u : Value), BindsTo s fd ⟨[u], []⟩ [(x, u)])
    (hfn : ∃ S', fn [.fls (ns.map D.int)] [] = .ok (.bl true) S') :
    codeAny (model P w) callerA (.call (.ref fa) ⟨[.ref a], []⟩) (fun r s' => r = .ok (.ret (.bool true)) ∧ OldK s₁.heap s'.heap ∧ s'.os = s₁.os ∧ AllBare s'.gens) s₁ := by
  have rv := vals_ints hi
  obtain ⟨S', hS'⟩ := hfn
  -- H: the abstract heap that knows of the script alone, or of nothing
  suffices core : ∀ H : Hp, (∀ b, H b = none ∨ (b = a ∧ H b = some (.frz { cls := .type "list", data := .seq vs.toArray } (.lst (ns.map V.int))))) → FzL K H a (ns.map V.int) → (H a ≠ none → K.lookup a = none) →
      codeAny (model P w) callerA (.call (.ref fa) ⟨[.ref a], []⟩) (fun r s' => r = .ok (.ret (.bool true)) ∧ OldK s₁.heap s'.heap ∧ s'.os = s₁.os ∧ AllBare s'.gens) s₁ by
    cases hk : K.lookup a with
    | some o =>
      have e := KX a o hk
      rw [ha] at e
      cases e
      exact core (fun _ => none) (fun _ => .inl rfl) (.inr ⟨_, vs.toArray, _, hk, rfl, rfl, rfl, by rw [List.size_toArray, hi.length]; exact hl, by simpa using rv⟩) fun z => absurd rfl z
    | none =>
      refine core (fun b => if b = a then some (.frz { cls := .type "list", data := .seq vs.toArray } (.lst (ns.map V.int))) else none) (fun b => ?_) (.inl ⟨_, if_pos rfl⟩) fun _ => hk
      by_cases e : b = a
      · exact .inr ⟨e, if_pos e⟩
      · exact .inl (if_neg e)
  intro H hA hF hK
  have known : ∀ {b : Addr} {u : HO}, H b = some u → b = a ∧ u = .frz { cls := .type "list", data := .seq vs.toArray } (.lst (ns.map V.int)) := fun {b u} e => by
    rcases hA b with z | ⟨z, q⟩
    · rw [z] at e
      cases e
    · rw [q] at e
      exact ⟨z, (Option.some.inj e).symm⟩
  have ok : HOk P w H s₁.heap := fun b u e => by
    obtain ⟨rfl, rfl⟩ := known e
    exact ⟨ha, by rw [List.length_map]; exact hl, vs, _, rv, ha⟩
  have off : ∀ {b : Addr} {o : Obj}, s₁.heap.get? b = some o → b ≠ a → (hidT s₁.heap H).get? b = some o := fun {b o} e n => hidT_get e (by
    cases q : H b with
    | none => rfl
    | some u => exact absurd (known q).1 n)
  have dictOff : ∀ {b : Addr} {mm : Str → Option Value}, s₁.heap.Ns b mm → (hidT s₁.heap H).Ns b mm := fun {b mm} ⟨o, es, ep, e, d, r⟩ => ⟨o, es, ep, off e (fun z => by
    subst z
    rw [ha] at e
    cases e
    cases d), d, r⟩
  have kOff : K.In (hidT s₁.heap H) := fun b o e => by
    by_cases z : b = a
    · refine hidT_get (KX b o e) ?_
      cases q : H b with
      | none => rfl
      | some u =>
        have := hK (by rw [← z, q]; simp)
        rw [z, this] at e
        cases e
    · exact off (KX b o e) z
  have mod : Mod K mg (hidT s₁.heap H) := by
    obtain ⟨mc, h1, h2⟩ := hlim
    exact ⟨kOff, dictOff hns, ⟨mb, dictOff hb, hbb⟩, ⟨mc, dictOff h1, h2⟩⟩
  have env : Env0 P w K mg (hidT s₁.heap H) callerA [] s₁ H := ⟨rfl, mod, fun b o e => of_hidT e, Nat.le_of_eq (hidT_size _ _), trivial, (fun b hb => by cases hb), ok, .of_eq hg⟩
  have sp : spF K cl fn [.ref a] H (fun v _ => v = .bl true) (fun _ _ _ => False) := by
    refine ⟨[], [], [.fls (ns.map D.int)], ⟨rfl, (fun i j b e => by simp at e), (fun n o b e => by simp at e)⟩, RDs.one ⟨a, _, rfl, hF, RDs.of_ints ns⟩, ?_⟩
    rw [hS']
    exact fun _ _ _ _ _ _ q => q
  refine codeAny_mono ((G _ kOff (dictOff hns)).run callerA [] s₁ H ⟨[.ref a], []⟩ [.ref a] [.ref a] _ _ hr rfl env (hbind s₁ (.ref a)) (.cons rfl .nil) sp) fun r s' h => ?_
  cases r with
  | error e =>
    obtain ⟨_, _, _, _, _, _, _, _, _, _, _, _, z⟩ := h
    exact z.elim
  | ok fl =>
    cases fl with
    | ret u =>
      obtain ⟨v, H', os, bare, un, hok', r', q⟩ := h
      have q : v = .bl true := q
      subst q
      have r' : u = Value.bool true := r'
      subst r'
      refine ⟨rfl, OldK.of_keep fun b o e => ?_, os, bare⟩
      cases q : H b with
      | none => exact un.keep b o e q (by intro z; cases z) (by simp)
      | some u =>
        obtain ⟨rfl, rfl⟩ := known q
        obtain ⟨e2, _⟩ := hok' _ _ (un.frzs _ _ _ q)
        rw [ha] at e
        cases e
        exact e2
    | _ => exact False.elim h
end
/-- a law: F gives the written part and the function, hlaw what the mirror makes of every script -/
theorem walk_g {l : PySem.W.OpenLaw} {n k : Nat} {q : Program} {loose : List Str} {XP : (Str → Option Value) → Heap → Prop} {YP : World → Heap → Prop} {d : DefRec} {x : Str} {fn : F} (hn : l.most = some n) (hn2 : n ≤ sizeLine) (hdf : d.params.defaults = []) (hr : Room k callerA)
    (Fx : ∀ (w : World) (mg : Str → Option Value) (fa : Addr) (h : Heap), YP w h → h.Ns mainGlobals mg → mg d.name = some (.ref fa) →
      ∃ (K : PySem.W.Frag) (fd : FuncData) (cl : Str → Value), K.In h ∧ (∀ (s : Shared) (u : Value), BindsTo s fd ⟨[u], []⟩ [(x, u)]) ∧ ∀ base : Heap, K.In base → base.Ns mainGlobals mg → FnG l.prog w K mg base k fa fd [x] (spF K cl fn))
    (hlaw : ∀ ns : List Int, ns.length ≤ n → ∃ S', fn [.fls (ns.map D.int)] [] = .ok (.bl true) S') : PySem.W.WalkO q loose XP YP l.row.toRowW d [] (fun f vs => PySem.call f vs) := by
  refine Att.attach_call hn hdf fun w s₀ s₁ mg mb fa o pm cd doc a vs ns G Y ho hd hcd hmg hobj hints hlen hg => ?_
  obtain ⟨K, fd, cl, KX, hb, hF⟩ := Fx w mg fa _ Y G.T.g hmg
  exact law_call_g KX G.T.g G.T.b G.T.builtins G.T.nolimit hg hobj hints (Nat.le_trans hlen hn2) hr hF hb (hlaw ns hlen)
end Mn
set_option Elab.async false
set_option linter.all false
set_option maxRecDepth 100000
set_option maxHeartbeats 4000000
namespace Mn
open PySem PySem.Spec PyProof.Rows L2
def mulOk (i j : Int) : Bool := (decide (-(2 ^ 64) < i) && decide (i < 2 ^ 64)) || (decide (-(2 ^ 64) < j) && decide (j < 2 ^ 64)) || decide (i.natAbs.log2 + j.natAbs.log2 < 1000000)
def powOk (i j : Int) : Bool := decide (0 ≤ j) && decide ((Builtin.Int.intBits i : Int) * j ≤ 2 ^ 27)
def divOk (j : Int) : Bool := decide (0 < j) && decide (j < 1073741824)
/-- * of ints, of a list or a tuple and an int -/
def fMul : D → D → Sto → Res D := fun x y S => match x, y with
  | .int i, .int j => if mulOk i j = true then .ok (.int (i * j)) S else .bad
  | .ref n, .int k => match S[n]? with
    | some (.lst ds) => if smallI k = true ∧ ds.length * k.toNat ≤ sizeLine then .ok (.ref S.length) (S ++ [.lst (List.replicate k.toNat ds).flatten]) else .bad
    | _ => .bad
  | _, _ => .bad
theorem RDs.rep {K : PySem.W.Frag} {io : List Addr} {H : Hp} {ds : List D} {vs : List V} (r : RDs K io H ds vs) : ∀ n : Nat, RDs K io H (List.replicate n ds).flatten (List.replicate n vs).flatten
  | 0 => rfl
  | n + 1 => by
    rw [List.replicate_succ, List.replicate_succ, List.flatten_cons, List.flatten_cons]
    exact r.append (RDs.rep r n)
section
variable {X : Cx}
theorem os_mul : OpS X (binaryOp .Mult) fMul := by
  refine OpS.of (((op_mul.or op_mulW)).or op_rep) fun cl W io S d e x y H Q R q1 q2 z => ?_
  unfold fMul at z
  split at z
  · split at z
    · rename_i i j hc
      unfold mulOk at hc
      rw [Bool.or_eq_true, Bool.or_eq_true, Bool.and_eq_true, Bool.and_eq_true] at hc
      have z := z.fin R (show RD X.K io H (.int (i * j)) (.int (i * j)) from rfl)
      rcases hc with (⟨h1, h2⟩ | ⟨h1, h2⟩) | h
      · exact .inl (.inl ⟨i, j, q1, q2, .inl ⟨of_decide_eq_true h1, of_decide_eq_true h2⟩, z⟩)
      · exact .inl (.inl ⟨i, j, q1, q2, .inr ⟨of_decide_eq_true h1, of_decide_eq_true h2⟩, z⟩)
      · exact .inl (.inr ⟨i, j, q1, q2, (of_decide_eq_true h : i.natAbs.log2 + j.natAbs.log2 < 1000000), z⟩)
    · exact z.elim
  · rename_i n k
    split at z
    · rename_i ds hs
      split at z
      · rename_i hc
        obtain ⟨p, rfl, hp⟩ := q1
        obtain ⟨xs, hx, r⟩ := R.ob _ _ _ hs hp
        have hl := r.length
        obtain ⟨s1, s2⟩ := smallI_ok hc.1
        refine .inr ⟨p, k, xs, rfl, q2, hx, by omega, by omega, by rw [hl]; exact hc.2, fun t ht => ?_⟩
        have pp : io <+: io ++ [t] := List.prefix_append _ _
        refine z.finP pp (Mo.new ht) (R.new ht ⟨_, upd_same, (r.rep _).mono pp (Mo.new ht)⟩) ⟨t, rfl, ?_⟩
        rw [← R.len]
        exact List.getElem?_concat_length
      · exact z.elim
    · exact z.elim
  · exact z.elim
abbrev fDiv := fI (fun _ j => divOk j) fun i j => .int (i / j)
theorem os_div : OpS X (binaryOp .FloorDiv) fDiv := os_I op_fdiv fun _ _ h => by
  unfold divOk at h
  rw [Bool.and_eq_true] at h
  exact ⟨of_decide_eq_true h.1, of_decide_eq_true h.2⟩
abbrev fPow := fI powOk fun i j => .int (i ^ j.toNat)
theorem op_powX : OpR X (binaryOp .Pow) (L2.rI (fun i j => 0 ≤ j ∧ (Builtin.Int.intBits i : Int) * j ≤ 2 ^ 27) fun i j => .int (i ^ j.toNat)) := opI fun _ _ _ _ _ _ _ hc q => pow_int hc.1 hc.2 q
theorem os_pow : OpS X (binaryOp .Pow) fPow := os_I op_powX fun _ _ h => by
  unfold powOk at h
  rw [Bool.and_eq_true] at h
  exact ⟨of_decide_eq_true h.1, of_decide_eq_true h.2⟩
end
def cAbs : F := fun ds S => match ds with
  | [.int i] => .ok (.int (if i < 0 then -i else i)) S
  | _ => .bad
def cInt : F := fun ds S => match ds with
  | [.int i] => .ok (.int i) S
  | [.bl k] => .ok (.int (if k then 1 else 0)) S
  | _ => .bad
def cMax : F := fun ds S => match ds with
  | [.int i, .int j] => .ok (.int (if j > i then j else i)) S
  | _ => .bad
def cMin : F := fun ds S => match ds with
  | [.int i, .int j] => .ok (.int (if j < i then j else i)) S
  | _ => .bad
def cLen : F := fun ds S => match ds with
  | [.str x] => if x.length ≤ sizeLine then .ok (.int (x.length : Nat)) S else .bad
  | [.tup xs] => .ok (.int (xs.length : Nat)) S
  | [.fls xs] => .ok (.int (xs.length : Nat)) S
  | [.ref n] => match S[n]? with
    | some (.lst xs) => .ok (.int (xs.length : Nat)) S
    | _ => .bad
  | _ => .bad
/-- the truths of a list -/
def blsOf : List D → Option (List Bool)
  | [] => some []
  | .bl b :: r => (blsOf r).map (b :: ·)
  | _ :: _ => none
theorem blsOf_eq : ∀ {ds : List D} {bs : List Bool}, blsOf ds = some bs → ds = bs.map D.bl
  | [], bs, h => by
    have h : some [] = some bs := h
    injection h with h
    subst h
    rfl
  | d :: r, bs, h => by
    cases d with
    | bl b =>
      have h : (blsOf r).map (b :: ·) = some bs := h
      obtain ⟨t, ht, rfl⟩ := Option.map_eq_some_iff.mp h
      rw [blsOf_eq ht]
      rfl
    | _ => cases h
def cAll : F := fun ds S => match ds with
  | [.ref n] => match S[n]? with
    | some (.lst xs) => match blsOf xs with
      | some bs => .ok (.bl (bs.all id)) S
      | none => .bad
    | _ => .bad
  | _ => .bad
def cTuple : F := fun ds S => match ds with
  | [.tup xs] => .ok (.tup xs) S
  | [.fls xs] => .ok (.tup xs) S
  | [.ref n] => match S[n]? with
    | some (.lst xs) => .ok (.tup xs) S
    | _ => .bad
  | _ => .bad
section
variable {K : PySem.W.Frag} {io : List Addr} {H : Hp}
theorem rds1 {d : D} {vs : List V} (q : RDs K io H [d] vs) : ∃ v, vs = [v] ∧ RD K io H d v := by
  obtain ⟨v, r, rfl, q1, q2⟩ := q
  have q2 : r = [] := q2
  subst q2
  exact ⟨v, rfl, q1⟩
theorem rds2 {d e : D} {vs : List V} (q : RDs K io H [d, e] vs) : ∃ v w, vs = [v, w] ∧ RD K io H d v ∧ RD K io H e w := by
  obtain ⟨v, r, rfl, q1, q2⟩ := q
  obtain ⟨w, rfl, q3⟩ := rds1 q2
  exact ⟨v, w, rfl, q1, q3⟩
end
section
variable {X : Cx}
theorem cs_abs : CaS X (.builtin "abs") cAbs := by
  refine CaS.of call_abs fun cl W io S ds vs H Q R q z => ?_
  unfold cAbs at z
  split at z
  · obtain ⟨v, rfl, q0⟩ := rds1 q
    have q0 : v = _ := q0
    subst q0
    exact ⟨_, rfl, z.fin R rfl⟩
  · exact z.elim
theorem cs_int : CaS X (.type "int") cInt := by
  refine CaS.of call_int1 fun cl W io S ds vs H Q R q z => ?_
  unfold cInt at z
  split at z
  · obtain ⟨v, rfl, q0⟩ := rds1 q
    have q0 : v = _ := q0
    subst q0
    exact .inl ⟨_, rfl, z.fin R rfl⟩
  · obtain ⟨v, rfl, q0⟩ := rds1 q
    have q0 : v = _ := q0
    subst q0
    exact .inr ⟨_, rfl, z.fin R rfl⟩
  · exact z.elim
theorem cs_max (hc : X.calm = true) : CaS X (.builtin "max") cMax := by
  refine CaS.of (call_max2 hc) fun cl W io S ds vs H Q R q z => ?_
  unfold cMax at z
  split at z
  · obtain ⟨v, w, rfl, q1, q2⟩ := rds2 q
    have q1 : v = _ := q1
    have q2 : w = _ := q2
    subst q1 q2
    exact ⟨_, _, rfl, z.fin R rfl⟩
  · exact z.elim
theorem cs_min (hc : X.calm = true) : CaS X (.builtin "min") cMin := by
  refine CaS.of (call_min2 hc) fun cl W io S ds vs H Q R q z => ?_
  unfold cMin at z
  split at z
  · obtain ⟨v, w, rfl, q1, q2⟩ := rds2 q
    have q1 : v = _ := q1
    have q2 : w = _ := q2
    subst q1 q2
    exact ⟨_, _, rfl, z.fin R rfl⟩
  · exact z.elim
theorem cs_len : CaS X (.builtin "len") cLen := by
  refine CaS.of call_len fun cl W io S ds vs H Q R q z => ?_
  unfold cLen at z
  split at z
  · split at z
    · rename_i x hz
      obtain ⟨v, rfl, q0⟩ := rds1 q
      have q0 : v = _ := q0
      subst q0
      exact ⟨_, x.length, rfl, ⟨hz, rfl⟩, z.fin R rfl⟩
    · exact z.elim
  · rename_i xs
    obtain ⟨v, rfl, q0⟩ := rds1 q
    obtain ⟨a, ys, rfl, h1, h2⟩ := q0
    exact ⟨_, xs.length, rfl, .inr ⟨ys, h1.1, h2.length.symm⟩, z.fin R rfl⟩
  · rename_i xs
    obtain ⟨v, rfl, q0⟩ := rds1 q
    obtain ⟨a, ys, rfl, h1, h2⟩ := q0
    exact ⟨_, xs.length, rfl, .inl ⟨ys, h1.sq, h2.length.symm⟩, z.fin R rfl⟩
  · split at z
    · rename_i n xs hs
      obtain ⟨v, rfl, q0⟩ := rds1 q
      obtain ⟨a, rfl, ha⟩ := q0
      obtain ⟨ys, hy, r⟩ := R.ob _ _ _ hs ha
      exact ⟨_, xs.length, rfl, .inl ⟨ys, SqL.of hy, r.length.symm⟩, z.fin R rfl⟩
    · exact z.elim
  · exact z.elim
theorem cs_all (hc : X.calm = true) : CaS X (.builtin "all") cAll := by
  refine CaS.of (cr_all hc) fun cl W io S ds vs H Q R q z => ?_
  unfold cAll at z
  split at z
  · split at z
    · rename_i n xs hs
      split at z
      · rename_i bs hb
        obtain ⟨v, rfl, q0⟩ := rds1 q
        obtain ⟨a, rfl, ha⟩ := q0
        obtain ⟨ys, hy, r⟩ := R.ob _ _ _ hs ha
        rw [blsOf_eq hb] at r
        have e := r.bls
        subst e
        exact ⟨a, bs, rfl, SqL.of hy, z.fin R rfl⟩
      · exact z.elim
    · exact z.elim
  · exact z.elim
end
end Mn
set_option Elab.async false
set_option linter.all false
set_option maxRecDepth 100000
set_option maxHeartbeats 4000000
namespace Mn
open PySem PySem.Spec PyProof.Rows L2
inductive Sc where
  | non
  | bl (b : Bool)
  | int (i : Int)
  | str (x : Str)
def Sc.eq : Sc → Sc → Bool
  | .non, .non => true
  | .bl a, .bl b => a == b
  | .bl a, .int j => (if a then 1 else 0) == j
  | .int i, .bl b => i == (if b then 1 else 0)
  | .int i, .int j => i == j
  | .str a, .str b => a == b
  | _, _ => false
inductive Sh where
  | sc (c : Sc)
  | tp (ds : List D)
  | ls (ds : List D)
def shD (S : Sto) : D → Option Sh
  | .non => some (.sc .non)
  | .bl b => some (.sc (.bl b))
  | .int i => some (.sc (.int i))
  | .str x => some (.sc (.str x))
  | .tup ds => some (.tp ds)
  | .fls ds => some (.ls ds)
  | .ref n => match S[n]? with
    | some (.lst ds) => some (.ls ds)
    | _ => none
def andO : List (Option Bool) → Option Bool
  | [] => some true
  | none :: _ => none
  | some b :: r => (andO r).map (b && ·)
def Sh.eqW (e : D → D → Option Bool) : Sh → Sh → Option Bool
  | .sc a, .sc b => some (a.eq b)
  | .tp a, .tp b => (andO (List.zipWith e a b)).map (· && (a.length == b.length))
  | .ls a, .ls b => if a.length = b.length then andO (List.zipWith e a b) else some false
  | _, _ => some false
def eqN : Nat → Sto → D → D → Option Bool
  | 0, _, _, _ => none
  | k + 1, S, x, y => match shD S x, shD S y with
    | some a, some b => a.eqW (eqN k S) b
    | _, _ => none
theorem andO_all : ∀ {l : List (Option Bool)} {b : Bool}, andO l = some b → ∃ bs : List Bool, l = bs.map some ∧ b = bs.all id
  | [], b, h => by
    have h : some true = some b := h
    injection h with h
    exact ⟨[], rfl, h.symm⟩
  | none :: r, b, h => by cases h
  | some c :: r, b, h => by
    have h : (andO r).map (c && ·) = some b := h
    obtain ⟨t, ht, rfl⟩ := Option.map_eq_some_iff.mp h
    obtain ⟨bs, rfl, rfl⟩ := andO_all ht
    exact ⟨c :: bs, rfl, rfl⟩
/-- what a value is, seen by its shape -/
inductive ShV (K : PySem.W.Frag) (io : List Addr) (H : Hp) (h : Heap) : Sh → Value → Prop
  | non : ShV K io H h (.sc .non) .none
  | bl (b : Bool) : ShV K io H h (.sc (.bl b)) (.bool b)
  | int (i : Int) (t : Tok) : ShV K io H h (.sc (.int i)) (.int i t)
  | str (x : Str) (t : Tok) : ShV K io H h (.sc (.str x)) (.str x t)
  | tp {ds : List D} {l : Addr} {xs : List V} {its : List Value} : h.IsTuple l its.toArray → Vals xs its → RDs K io H ds xs → ShV K io H h (.tp ds) (.ref l)
  | ls {ds : List D} {l : Addr} {xs : List V} {its : List Value} : h.IsList l its.toArray → Vals xs its → RDs K io H ds xs → ShV K io H h (.ls ds) (.ref l)
section
variable {X : Cx} {pins : List (Addr × Obj)} {σ : L2.St} {H : Hp} {s : Shared} {io : List Addr} {S : Sto}
theorem shV_of (I : Inv X pins σ H s) (R : Rep X.K io S H) {d : D} {v : V} {u : Value} {sh : Sh} (q : RD X.K io H d v) (r : RelV v u) (h : shD S d = some sh) : ShV X.K io H s.heap sh u := by
  unfold shD at h
  split at h
  · injection h with h; subst h
    have q : v = _ := q; subst q
    have r : u = _ := r; subst r
    exact .non
  · injection h with h; subst h
    have q : v = _ := q; subst q
    have r : u = _ := r; subst r
    exact .bl _
  · injection h with h; subst h
    have q : v = _ := q; subst q
    obtain ⟨t, rfl⟩ := r
    exact .int _ _
  · injection h with h; subst h
    have q : v = _ := q; subst q
    obtain ⟨t, rfl⟩ := r
    exact .str _ _
  · injection h with h; subst h
    obtain ⟨a, xs, rfl, hs, rs⟩ := q
    have r : u = _ := r; subst r
    obtain ⟨its, rv, p, _⟩ := I.tuple hs.1
    exact .tp p rv rs
  · injection h with h; subst h
    obtain ⟨a, xs, rfl, hs, rs⟩ := q
    have r : u = _ := r; subst r
    obtain ⟨its, rv, p, _⟩ := I.list hs.sq
    exact .ls p.isList rv rs
  · split at h
    · rename_i n ds hs
      injection h with h; subst h
      obtain ⟨a, rfl, ha⟩ := q
      have r : u = _ := r; subst r
      obtain ⟨xs, hx, rs⟩ := R.ob _ _ _ hs ha
      obtain ⟨its, rv, p, _⟩ := I.list (SqL.of hx)
      exact .ls p.isList rv rs
    · cases h
theorem list_same {h : Heap} {l : Addr} {a b : Array Value} (h1 : h.IsList l a) (h2 : h.IsList l b) : a = b := by
  obtain ⟨o, e, _, n, d⟩ := h1
  obtain ⟨o', e', _, n', d'⟩ := h2
  rw [e] at e'; cases e'
  rw [d] at d'
  injection d' with d1 d2
theorem tuple_same {h : Heap} {l : Addr} {a b : Array Value} (h1 : h.IsTuple l a) (h2 : h.IsTuple l b) : a = b := by
  obtain ⟨o, e, _, n, d⟩ := h1
  obtain ⟨o', e', _, n', d'⟩ := h2
  rw [e] at e'; cases e'
  rw [d] at d'
  injection d' with d1 d2
theorem list_sameL {h : Heap} {l : Addr} {a b : List Value} (h1 : h.IsList l a.toArray) (h2 : h.IsList l b.toArray) : a = b := by simpa using congrArg Array.toList (list_same h1 h2)
theorem tuple_sameL {h : Heap} {l : Addr} {a b : List Value} (h1 : h.IsTuple l a.toArray) (h2 : h.IsTuple l b.toArray) : a = b := by simpa using congrArg Array.toList (tuple_same h1 h2)
theorem RDs.zip {K : PySem.W.Frag} {io : List Addr} {H : Hp} {e : D → D → Option Bool} : ∀ {a b : List D} {vs ws : List V} {us zs : List Value} {bs : List Bool} (he : List.zipWith e a b = bs.map some) (r1 : RDs K io H a vs) (r2 : RDs K io H b ws) (q1 : Vals vs us) (q2 : Vals ws zs)
    (j : Nat) (h1 : j < us.length) (h2 : j < zs.length), ∃ x y v w b', a[j]? = some x ∧ b[j]? = some y ∧ RD K io H x v ∧ RD K io H y w ∧ RelV v us[j] ∧ RelV w zs[j] ∧ e x y = some b' ∧ bs[j]? = some b' := by
  intro a b vs ws us zs bs he r1 r2 q1 q2 j h1 h2
  have l1 := r1.length
  have l2 := r2.length
  have l3 := q1.length
  have l4 := q2.length
  obtain ⟨v, hv, rv⟩ := r1.get (i := j) (d := a[j]'(by omega)) (by simp)
  obtain ⟨w, hw, rw'⟩ := r2.get (i := j) (d := b[j]'(by omega)) (by simp)
  obtain ⟨u, hu, ru⟩ := q1.get hv
  obtain ⟨z, hz, rz⟩ := q2.get hw
  have hz' : (List.zipWith e a b)[j]? = some (e (a[j]'(by omega)) (b[j]'(by omega))) := by
    rw [List.getElem?_zipWith]
    simp [List.getElem?_eq_getElem (show j < a.length by omega), List.getElem?_eq_getElem (show j < b.length by omega)]
  rw [he, List.getElem?_map] at hz'
  obtain ⟨b', hb, hb'⟩ := Option.map_eq_some_iff.mp hz'
  refine ⟨_, _, v, w, b', by simp, by simp, rv, rw', ?_, ?_, hb'.symm, hb⟩
  · have : us[j] = u := by
      have e1 := List.getElem?_eq_getElem h1
      rw [hu] at e1
      exact (Option.some.inj e1).symm
    rw [this]; exact ru
  · have : zs[j] = z := by
      have e1 := List.getElem?_eq_getElem h2
      rw [hz] at e1
      exact (Option.some.inj e1).symm
    rw [this]; exact rz
/-- equal to itself -/
theorem eqN_same (I : Inv X pins σ H s) (R : Rep X.K io S H) : ∀ (k : Nat) {d e : D} {v w : V} {u : Value} {b : Bool}, RD X.K io H d v → RD X.K io H e w → RelV v u → RelV w u → eqN k S d e = some b → b = true
  | 0, _, _, _, _, _, _, _, _, _, _, h => by cases h
  | k + 1, d, e, v, w, u, b, q1, q2, r1, r2, h => by
    unfold eqN at h
    split at h
    · rename_i x y h1 h2
      have s1 := shV_of I R q1 r1 h1
      have s2 := shV_of I R q2 r2 h2
      have items : ∀ {ds es : List D} {xs ys : List V} {its : List Value} {bs : List Bool}, List.zipWith (eqN k S) ds es = bs.map some → RDs X.K io H ds xs → RDs X.K io H es ys → Vals xs its → Vals ys its → bs.all id = true := by
        intro ds es xs ys its bs he a1 a2 a3 a4
        rw [List.all_eq_true]
        intro c hc
        obtain ⟨j, hj, hj'⟩ := List.mem_iff_getElem.mp hc
        have ll : (List.zipWith (eqN k S) ds es).length = bs.length := by rw [he, List.length_map]
        rw [List.length_zipWith] at ll
        have l1 := a1.length
        have l3 := a3.length
        obtain ⟨x, y, v', w', b', _, _, c1, c2, c3, c4, c5, c6⟩ := RDs.zip he a1 a2 a3 a4 j (by omega) (by omega)
        rw [List.getElem?_eq_getElem hj, hj'] at c6
        injection c6 with c6
        rw [c6]
        exact eqN_same I R k c1 c2 c3 c4 c5
      cases s1 with
      | non => cases s2 with
        | non => injection h with h; exact h.symm
      | bl c => cases s2 with
        | bl _ => injection h with h; rw [← h]; exact beq_self_eq_true c
      | int i t => cases s2 with
        | int _ _ => injection h with h; rw [← h]; exact beq_self_eq_true i
      | str i t => cases s2 with
        | str _ _ => injection h with h; rw [← h]; exact beq_self_eq_true i
      | tp p rv rs => cases s2 with
        | tp p' rv' rs' =>
          have e1 := tuple_sameL p p'
          subst e1
          obtain ⟨c, hc, hb⟩ := Option.map_eq_some_iff.mp (show (andO _).map _ = some b from h)
          obtain ⟨bs, e1, e2⟩ := andO_all hc
          rw [← hb, e2, items e1 rs rs' rv rv']
          have := rs.length; have := rs'.length; have := rv.length; have := rv'.length
          simp; omega
        | ls p' rv' rs' =>
          obtain ⟨o, e1, c1, _⟩ := p
          obtain ⟨o', e2, c2, _⟩ := p'
          rw [e1] at e2; cases e2
          rw [c1] at c2
          exact absurd c2 (by decide)
      | ls p rv rs => cases s2 with
        | ls p' rv' rs' =>
          have e1 := list_sameL p p'
          subst e1
          have := rs.length; have := rs'.length; have := rv.length; have := rv'.length
          have h : (if _ = _ then andO (List.zipWith (eqN k S) _ _) else some false) = some b := h
          rw [if_pos (by omega)] at h
          obtain ⟨bs, e1, e2⟩ := andO_all h
          rw [e2, items e1 rs rs' rv rv']
        | tp p' rv' rs' =>
          obtain ⟨o, e1, c1, _⟩ := p
          obtain ⟨o', e2, c2, _⟩ := p'
          rw [e1] at e2; cases e2
          rw [c1] at c2
          exact absurd c2 (by decide)
    · cases h
structure Eq3 (A : Around) (s : Shared) (u z : Value) (b : Bool) : Prop where
  rc : SeqAt.RcAt A s u z b
  ne : SeqAt.RcNeAt A s u z (!b)
  eq : SeqAt.EqAt A s u z b
theorem eq3_n (I : Inv X pins σ H s) (R : Rep X.K io S H) : ∀ (k : Nat) (A : Around), A.units + k ≤ cLine → ∀ {d e : D} {v w : V} {u z : Value} {b : Bool}, RD X.K io H d v → RD X.K io H e w → RelV v u → RelV w z → eqN k S d e = some b → Eq3 A s u z b
  | 0, _, _, _, _, _, _, _, _, _, _, _, _, _, h => by cases h
  | k + 1, A, hu, d, e, v, w, u, z, b, q1, q2, r1, r2, h0 => by
    have h := h0
    unfold eqN at h
    split at h
    · rename_i x y h1 h2
      have s1 := shV_of I R q1 r1 h1
      have s2 := shV_of I R q2 r2 h2
      have ul : A.units < cLine := by omega
      have ui : A.in1.units + k ≤ cLine := by show A.units + 1 + k ≤ cLine; omega
      cases s1 with
      | non => cases s2 with
        | non => injection h with h; subst h; exact ⟨.none_none, .none_none, .same _⟩
        | bl c => injection h with h; subst h; exact ⟨.none_bool _, .none_bool _, .none_bool _⟩
        | int c t => injection h with h; subst h; exact ⟨.none_int _ _, .none_int _ _, .none_int _ _⟩
        | str c t => injection h with h; subst h; exact ⟨.none_str _ _, .none_str _ _, .none_str _ _⟩
        | tp p rv rs => injection h with h; subst h; exact ⟨.none_tuple p ul, .none_tuple p ul, .none_tuple p ul⟩
        | ls p rv rs => injection h with h; subst h; exact ⟨.none_list p ul, .none_list p ul, .none_list p ul⟩
      | bl a => cases s2 with
        | non => injection h with h; subst h; exact ⟨.bool_none _, .bool_none _, .bool_none _⟩
        | bl c => injection h with h; subst h; exact ⟨.bool_bool _ _, .bool_bool _ _, .bool_bool _ _⟩
        | int c t => injection h with h; subst h; exact ⟨.bool_int _ _ _, .bool_int _ _ _, .bool_int _ _ _⟩
        | str c t => injection h with h; subst h; exact ⟨.bool_str _ _ _, .bool_str _ _ _, .bool_str _ _ _⟩
        | tp p rv rs => injection h with h; subst h; exact ⟨.bool_tuple _ p ul, .bool_tuple _ p ul, .bool_tuple _ p ul⟩
        | ls p rv rs => injection h with h; subst h; exact ⟨.bool_list _ p ul, .bool_list _ p ul, .bool_list _ p ul⟩
      | int a t' => cases s2 with
        | non => injection h with h; subst h; exact ⟨.int_none _ _, .int_none _ _, .int_none _ _⟩
        | bl c => injection h with h; subst h; exact ⟨.int_bool _ _ _, .int_bool _ _ _, .int_bool _ _ _⟩
        | int c t => injection h with h; subst h; exact ⟨.int_int _ _ _ _, .int_int _ _ _ _, .int_int _ _ _ _⟩
        | str c t => injection h with h; subst h; exact ⟨.int_str _ _ _ _, .int_str _ _ _ _, .int_str _ _ _ _⟩
        | tp p rv rs => injection h with h; subst h; exact ⟨.int_tuple _ _ p ul, .int_tuple _ _ p ul, .int_tuple _ _ p ul⟩
        | ls p rv rs => injection h with h; subst h; exact ⟨.int_list _ _ p ul, .int_list _ _ p ul, .int_list _ _ p ul⟩
      | str a t' => cases s2 with
        | non => injection h with h; subst h; exact ⟨.str_none _ _, .str_none _ _, .str_none _ _⟩
        | bl c => injection h with h; subst h; exact ⟨.str_bool _ _ _, .str_bool _ _ _, .str_bool _ _ _⟩
        | int c t => injection h with h; subst h; exact ⟨.str_int _ _ _ _, .str_int _ _ _ _, .str_int _ _ _ _⟩
        | str c t => injection h with h; subst h; exact ⟨.str_str _ _ _ _, .str_str _ _ _ _, .str_str _ _ _ _⟩
        | tp p rv rs => injection h with h; subst h; exact ⟨.str_tuple _ _ p ul, .str_tuple _ _ p ul, .str_tuple _ _ p ul⟩
        | ls p rv rs => injection h with h; subst h; exact ⟨.str_list _ _ p ul, .str_list _ _ p ul, .str_list _ _ p ul⟩
      | @tp ds l xs its p rv rs => cases s2 with
        | non => injection h with h; subst h; exact ⟨.tuple_none p ul, .tuple_none p ul, .tuple_none p ul⟩
        | bl c => injection h with h; subst h; exact ⟨.tuple_bool _ p ul, .tuple_bool _ p ul, .tuple_bool _ p ul⟩
        | int c t => injection h with h; subst h; exact ⟨.tuple_int _ _ p ul, .tuple_int _ _ p ul, .tuple_int _ _ p ul⟩
        | str c t => injection h with h; subst h; exact ⟨.tuple_str _ _ p ul, .tuple_str _ _ p ul, .tuple_str _ _ p ul⟩
        | ls p' rv' rs' => injection h with h; subst h; exact ⟨.tuple_list p p' ul, .tuple_list p p' ul, .tuple_list p p' ul⟩
        | @tp ds' l' xs' its' p' rv' rs' =>
          obtain ⟨c, hc, hb⟩ := Option.map_eq_some_iff.mp (show (andO _).map _ = some b from h)
          obtain ⟨bs, e1, e2⟩ := andO_all hc
          have l1 := rs.length; have l2 := rs'.length; have l3 := rv.length; have l4 := rv'.length
          have lz : bs.length = min its.length its'.length := by
            have := congrArg List.length e1
            rw [List.length_zipWith, List.length_map] at this
            omega
          have each : ∀ j (j1 : j < its.toArray.size) (j2 : j < its'.toArray.size), SeqAt.EqAt A.in1 s its.toArray[j] its'.toArray[j] (bs.getD j false) := fun j j1 j2 => by
            obtain ⟨x, y, v', w', b', _, _, c1, c2, c3, c4, c5, c6⟩ := RDs.zip e1 rs rs' rv rv' j (by simpa using j1) (by simpa using j2)
            have := (eq3_n I R k A.in1 ui c1 c2 c3 c4 c5).eq
            rw [List.getD_eq_getElem?_getD, c6]
            simpa using this
          have tot : ((List.range (min its.toArray.size its'.toArray.size)).all (fun j => bs.getD j false) && its.toArray.size == its'.toArray.size) = b := by
            rw [← hb, e2, List.size_toArray, List.size_toArray, ← lz, L2.all_range, show (its.length == its'.length) = (ds.length == ds'.length) by rw [← l3, ← l4, l1, l2]]
          have rc := SeqAt.RcAt.tuples p p' ul each
          have rn := SeqAt.RcNeAt.tuples p p' ul each
          rw [tot] at rc rn
          refine ⟨rc, rn, ?_⟩
          by_cases hl : l = l'
          · subst hl
            have : b = true := eqN_same I R (k + 1) q1 q2 r1 r2 h0
            rw [this]
            exact .same _
          · exact .of_refs hl rc
      | @ls ds l xs its p rv rs => cases s2 with
        | non => injection h with h; subst h; exact ⟨.list_none p ul, .list_none p ul, .list_none p ul⟩
        | bl c => injection h with h; subst h; exact ⟨.list_bool _ p ul, .list_bool _ p ul, .list_bool _ p ul⟩
        | int c t => injection h with h; subst h; exact ⟨.list_int _ _ p ul, .list_int _ _ p ul, .list_int _ _ p ul⟩
        | str c t => injection h with h; subst h; exact ⟨.list_str _ _ p ul, .list_str _ _ p ul, .list_str _ _ p ul⟩
        | tp p' rv' rs' => injection h with h; subst h; exact ⟨.list_tuple p p' ul, .list_tuple p p' ul, .list_tuple p p' ul⟩
        | @ls ds' l' xs' its' p' rv' rs' =>
          have l1 := rs.length; have l2 := rs'.length; have l3 := rv.length; have l4 := rv'.length
          have fin : SeqAt.RcAt A s (.ref l) (.ref l') b → SeqAt.RcNeAt A s (.ref l) (.ref l') (!b) → Eq3 A s (.ref l) (.ref l') b := fun rc rn => by
            refine ⟨rc, rn, ?_⟩
            by_cases hl : l = l'
            · subst hl
              have : b = true := eqN_same I R (k + 1) q1 q2 r1 r2 h0
              rw [this]
              exact .same _
            · exact .of_refs hl rc
          have h : (if ds.length = ds'.length then andO (List.zipWith (eqN k S) ds ds') else some false) = some b := h
          split at h
          · rename_i hll
            obtain ⟨bs, e1, e2⟩ := andO_all h
            have lz : bs.length = its.length := by
              have := congrArg List.length e1
              rw [List.length_zipWith, List.length_map] at this
              omega
            have each : ∀ j (j1 : j < its.toArray.size) (j2 : j < its'.toArray.size), SeqAt.EqAt A.in1 s its.toArray[j] its'.toArray[j] (bs.getD j false) := fun j j1 j2 => by
              obtain ⟨x, y, v', w', b', _, _, c1, c2, c3, c4, c5, c6⟩ := RDs.zip e1 rs rs' rv rv' j (by simpa using j1) (by simpa using j2)
              have := (eq3_n I R k A.in1 ui c1 c2 c3 c4 c5).eq
              rw [List.getD_eq_getElem?_getD, c6]
              simpa using this
            have tot : (List.range its.toArray.size).all (fun j => bs.getD j false) = b := by
              rw [e2, List.size_toArray, ← lz, L2.all_range]
            have hz : its.toArray.size = its'.toArray.size := by simp; omega
            have rc := SeqAt.RcAt.lists p p' hz ul each
            have rn := SeqAt.RcNeAt.lists p p' hz ul each
            rw [tot] at rc rn
            exact fin rc rn
          · injection h with h
            subst h
            have hz : (its.toArray.size != its'.toArray.size) = true := by simp; omega
            exact fin (.lists_lengths p p' hz ul) (.lists_lengths p p' hz ul)
    · cases h
end
abbrev eqK : Nat := 150
def fEq : D → D → Sto → Res D := fun x y S => match eqN eqK S x y with
  | some b => .ok (.bl b) S
  | none => .bad
def fNe : D → D → Sto → Res D := fun x y S => match eqN eqK S x y with
  | some b => .ok (.bl (!b)) S
  | none => .bad
/-- x in a tuple, a list, a text -/
def inN (S : Sto) (x : D) (ys : List D) : Option Bool := ((andO (ys.map fun y => (eqN eqK S y x).map (!·)))).map (!·)
def inS (x z : Str) : Bool := match x.cps.toList with
  | [c] => decide (c ∈ z.cps.toList)
  | _ => !(Builtin.Str.occurrences z x 0 z.length 1).isEmpty
def inW (S : Sto) (x : D) : D → Option Bool
  | .str z => match x with
    | .str x => some (inS x z)
    | _ => none
  | y => match shD S y with
    | some (.tp ys) => inN S x ys
    | some (.ls ys) => inN S x ys
    | _ => none
def fIn : D → D → Sto → Res D := fun x y S => match inW S x y with
  | some b => .ok (.bl b) S
  | none => .bad
def fNotIn : D → D → Sto → Res D := fun x y S => match inW S x y with
  | some b => .ok (.bl (!b)) S
  | none => .bad
section
variable {X : Cx}
theorem os_eq (hu : X.A.units + eqK ≤ cLine) : OpS X (compareOp .Eq) fEq := by
  intro pins s σ H x y v u Q I rx ry q
  obtain ⟨cl, W, io, S, d, e, R, q1, q2, z⟩ := q
  unfold fEq at z
  split at z
  · rename_i b hb
    exact (eq3_n I R eqK X.A hu q1 q2 rx ry hb).rc _ _ _ _ ⟨.bl b, H, I, rfl, z.fin R rfl⟩
  · exact z.elim
theorem os_ne (hu : X.A.units + eqK ≤ cLine) : OpS X (compareOp .NotEq) fNe := by
  intro pins s σ H x y v u Q I rx ry q
  obtain ⟨cl, W, io, S, d, e, R, q1, q2, z⟩ := q
  unfold fNe at z
  split at z
  · rename_i b hb
    exact (eq3_n I R eqK X.A hu q1 q2 rx ry hb).ne _ _ _ _ ⟨.bl (!b), H, I, rfl, z.fin R rfl⟩
  · exact z.elim
end
end Mn
set_option Elab.async false
set_option linter.all false
set_option maxRecDepth 100000
set_option maxHeartbeats 4000000
namespace Mn
open PySem PySem.Spec PyProof.Rows L2
def isB (a b : String) : Bool := a == b || (a == "bool" && b == "int")
def mIsi (T : String) (a : M) : M := fun ρ S => (a ρ S).bind fun d S => if kOf S d = "?" then .bad else .ok (.bl (isB (kOf S d) T)) S
mutual
def D.pyG (f : Nat → Option PyData) : D → Option PyData
  | .non => some .none
  | .bl b => some (.bool b)
  | .int i => some (.int i)
  | .str x => some (.str x)
  | .tup ds => (D.pysG f ds).map .tuple
  | .fls ds => (D.pysG f ds).map .list
  | .ref n => f n
def D.pysG (f : Nat → Option PyData) : List D → Option (List PyData)
  | [] => some []
  | d :: r => match D.pyG f d, D.pysG f r with
    | some p, some ps => some (p :: ps)
    | _, _ => none
end
def fStripC : D → F := fun x ds S => match x, ds with
  | .str a, [.str b] => if a.length ≤ sizeLine then .ok (.str (Txt.stripChars a b)) S else .bad
  | _, _ => .bad
def fAppend : D → F := fun x ds S => match x, ds with
  | .ref n, [d] => match S[n]? with
    | some (.lst xs) => if xs.length < sizeLine then .ok .non (S.set n (.lst (xs ++ [d]))) else .bad
    | _ => .bad
  | _, _ => .bad
def sPut (o i : M) (m : M) : MS := fun ρ S => (m ρ S).st ρ fun d S => (o ρ S).st ρ fun x S => (i ρ S).st ρ fun y S => match x, y with
  | .ref n, .int k => match S[n]? with
    | some (.lst xs) => match ixN xs.length k with
      | some j => .nx ρ (S.set n (.lst (xs.set j d)))
      | none => .bad
    | _ => .bad
  | _, _ => .bad
section
variable {X : Cx} {C : Cn} {o i e : Expr} {mo mi m : M} {pos pos' : Pos}
theorem qs_put (he : QE X C e m) (ho : QE X C o mo) (hi : QE X C i mi) (hs : swapsWithSole [.Subscript o i pos'] e pos.line X.env = pure false := by rfl) (hw : swappedStores [.Subscript o i pos'] e X.env = pure none := by rfl)
    (h1 : (assignEach [.Subscript o i pos'] X.env).map (·.2) = [assign (.Subscript o i pos') X.env] := by rfl)
    (ha : ∀ v, assign (.Subscript o i pos') X.env v = (do
      let ov ← holding [v] (eval o X.env)
      let iv ← holding [v, ov] (eval i X.env)
      standAt pos'
      holding [v, ov, iv] (setItem ov iv v)
      release [v, ov, iv] []) := by intro _; rfl) : QS X C (.Assign [.Subscript o i pos'] e pos) (sPut mo mi m) := by
  refine PS_imp (ps_asg he (pg_sub ho hi set_list ha) hs hw h1) ?_
  rintro E σ H ⟨io, ρ, S, R, re, h⟩
  refine rdE_st R re h fun d S1 io1 H1 v p1 m1 R1 re1 q1 h1 => ?_
  refine rdE_st R1 re1 h1 fun x S2 io2 H2 w p2 m2 R2 re2 q2 h2 => ?_
  refine rdE_st R2 re2 h2 fun y S3 io3 H3 u p3 m3 R3 re3 q3 h3 => ?_
  split at h3
  · rename_i n k
    split at h3
    · rename_i xs hs
      split at h3
      · rename_i j hj
        have q2 := q2.mono p3 m3
        have q1 := q1.mono (p2.trans p3) (m2.trans m3)
        obtain ⟨a, rfl, ha⟩ := q2
        have q3 : u = _ := q3
        subst q3
        obtain ⟨ws, hw, rs⟩ := R3.ob _ _ _ hs ha
        refine ⟨a, ws, k, j, rfl, rfl, hw, by rw [rs.length]; exact hj, ?_⟩
        obtain ⟨mo, R'⟩ := R3.put (o := .lst (ws.set j v)) (ob := .lst (xs.set j d)) hs ha fun mo => ⟨_, upd_same, (RDs.set q1 j rs).mono (List.prefix_rfl) mo⟩
        exact h3 io3 _ σ (List.prefix_rfl) mo R' (re3.mono (List.prefix_rfl) mo)
      · exact h3.elim
    · exact h3.elim
  · exact h3.elim
end
end Mn
set_option Elab.async false
set_option linter.all false
set_option maxRecDepth 100000
set_option maxHeartbeats 4000000
namespace Mn
open PySem PySem.Spec PyProof.Rows L2
end Mn
set_option Elab.async false
set_option linter.all false
set_option maxRecDepth 100000
set_option maxHeartbeats 4000000
namespace Mn
open PySem PySem.Spec PyProof.Rows L2
def keyD : D → Option Key
  | .int i => some (.inl i)
  | .str x => some (.inr x)
  | _ => none
def valD {κ : Type} [DecidableEq κ] (kvs : List (κ × D)) (k : κ) : Option D := (kvs.find? fun kv => decide (kv.1 = k)).map (·.2)
def putD {κ : Type} [DecidableEq κ] (kvs : List (κ × D)) (k : κ) (d : D) : List (κ × D) :=
  if (kvs.any fun kv => decide (kv.1 = k)) = true then kvs.map (fun kv => if kv.1 = k then (kv.1, d) else kv) else kvs ++ [(k, d)]
def mergeD (kvs more : List (Key × D)) : List (Key × D) := more.foldl (fun acc kv => putD acc kv.1 kv.2) kvs
theorem keyD_rel {K : PySem.W.Frag} {io : List Addr} {H : Hp} {d : D} {v : V} {k : Key} (h : keyD d = some k) (q : RD K io H d v) : v = kV k := by
  cases d with
  | int i =>
    injection h with h
    subst h
    exact q
  | str i =>
    injection h with h
    subst h
    exact q
  | _ => cases h
section
variable {κ : Type} [DecidableEq κ] {K : PySem.W.Frag} {io : List Addr} {H : Hp}
theorem RKs.length : ∀ {kvs : List (κ × D)} {ws : List (κ × V)}, RKs K io H kvs ws → ws.length = kvs.length
  | [], _, h => by
    have h : _ = [] := h
    subst h
    rfl
  | _ :: _, _, ⟨v, r, e, _, h2⟩ => by
    subst e
    exact congrArg Nat.succ (RKs.length h2)
theorem RKs.val (k : κ) : ∀ {kvs : List (κ × D)} {ws : List (κ × V)}, RKs K io H kvs ws → (valD kvs k = none → valV ws k = none) ∧ ∀ d, valD kvs k = some d → ∃ v, valV ws k = some v ∧ RD K io H d v
  | [], _, h => by
    have h : _ = [] := h
    subst h
    exact ⟨fun _ => rfl, fun d h => by cases h⟩
  | (k0, d0) :: r, _, ⟨v, t, e, h1, h2⟩ => by
    subst e
    obtain ⟨a, b⟩ := RKs.val k h2
    by_cases hk : k0 = k
    · have e1 : valD ((k0, d0) :: r) k = some d0 := by simp [valD, List.find?_cons, hk]
      rw [e1, valV_pos (p := (k0, v)) hk]
      exact ⟨fun z => (by cases z), fun d z => (by injection z with z; subst z; exact ⟨v, rfl, h1⟩)⟩
    · have e1 : valD ((k0, d0) :: r) k = valD r k := by simp [valD, List.find?_cons, hk]
      rw [e1, valV_neg (p := (k0, v)) hk]
      exact ⟨a, b⟩
theorem RKs.any (k : κ) : ∀ {kvs : List (κ × D)} {ws : List (κ × V)}, RKs K io H kvs ws → (ws.any fun kv => decide (kv.1 = k)) = (kvs.any fun kv => decide (kv.1 = k))
  | [], _, h => by
    have h : _ = [] := h
    subst h
    rfl
  | (k0, d0) :: r, _, ⟨v, t, e, h1, h2⟩ => by
    subst e
    rw [List.any_cons, List.any_cons, RKs.any k h2]
theorem RKs.over (k : κ) {d : D} {v : V} (q : RD K io H d v) : ∀ {kvs : List (κ × D)} {ws : List (κ × V)}, RKs K io H kvs ws → RKs K io H (kvs.map fun kv => if kv.1 = k then (kv.1, d) else kv) (ws.map fun kv => if kv.1 = k then (kv.1, v) else kv)
  | [], _, h => by
    have h : _ = [] := h
    subst h
    rfl
  | (k0, d0) :: r, _, ⟨w, t, e, h1, h2⟩ => by
    subst e
    rw [List.map_cons, List.map_cons]
    by_cases hk : k0 = k
    · rw [if_pos hk, if_pos hk]
      exact ⟨v, _, rfl, q, RKs.over k q h2⟩
    · rw [if_neg hk, if_neg hk]
      exact ⟨w, _, rfl, h1, RKs.over k q h2⟩
theorem RKs.snoc (k : κ) {d : D} {v : V} (q : RD K io H d v) : ∀ {kvs : List (κ × D)} {ws : List (κ × V)}, RKs K io H kvs ws → RKs K io H (kvs ++ [(k, d)]) (ws ++ [(k, v)])
  | [], _, h => by
    have h : _ = [] := h
    subst h
    exact ⟨v, [], rfl, q, rfl⟩
  | (k0, d0) :: r, _, ⟨w, t, e, h1, h2⟩ => by
    subst e
    exact ⟨w, _, rfl, h1, RKs.snoc k q h2⟩
theorem RKs.put (k : κ) {d : D} {v : V} {kvs : List (κ × D)} {ws : List (κ × V)} (q : RD K io H d v) (h : RKs K io H kvs ws) : RKs K io H (putD kvs k d) (putK ws k v) := by
  unfold putD putK
  rw [h.any k]
  split
  · exact h.over k q
  · exact h.snoc k q
theorem RKs.merge : ∀ {more : List (Key × D)} {zs : List (Key × V)} {kvs : List (Key × D)} {ws : List (Key × V)}, RKs K io H more zs → RKs K io H kvs ws → RKs K io H (mergeD kvs more) (mergeK ws zs)
  | [], _, _, _, h, h' => by
    have h : _ = [] := h
    subst h
    exact h'
  | (k, d) :: r, _, _, _, ⟨v, t, e, h1, h2⟩, h' => by
    subst e
    have g := RKs.merge h2 (h'.put k h1)
    exact g
end
abbrev MP := En → Sto → Res (List (D × D))
def pNil : MP := fun _ S => .ok [] S
def pCons (k v : M) (r : MP) : MP := fun ρ S => (k ρ S).bind fun x S => (v ρ S).bind fun y S => (r ρ S).bind fun ps S => .ok ((x, y) :: ps) S
/-- the keys of the pairs -/
def keysD : List (D × D) → Option (List (Key × D))
  | [] => some []
  | (k, d) :: r => match keyD k, keysD r with
    | some x, some t => some ((x, d) :: t)
    | _, _ => none
def mDisp (m : MP) : M := fun ρ S => (m ρ (S ++ [.dct []])).bind fun ps S1 => match keysD ps with
  | some kvs => if kvs.length ≤ 15 ∧ S1[S.length]? = some (.dct []) then .ok (.ref S.length) (S1.set S.length (.dct (mergeD [] kvs))) else .bad
  | none => .bad
def RPs (K : PySem.W.Frag) (io : List Addr) (H : Hp) : List (D × D) → List (V × V) → Prop
  | [], ws => ws = []
  | (k, d) :: r, ws => ∃ v w t, ws = (v, w) :: t ∧ RD K io H k v ∧ RD K io H d w ∧ RPs K io H r t
theorem RPs.mono {K : PySem.W.Frag} {io io' : List Addr} {H H' : Hp} (p : io <+: io') (m : Mo H H') : ∀ {ds : List (D × D)} {vs : List (V × V)}, RPs K io H ds vs → RPs K io' H' ds vs
  | [], _, h => h
  | _ :: _, _, ⟨v, w, r, e, h1, h2, h3⟩ => ⟨v, w, r, e, h1.mono p m, h2.mono p m, RPs.mono p m h3⟩
theorem RPs.keys {K : PySem.W.Frag} {io : List Addr} {H : Hp} : ∀ {ds : List (D × D)} {vs : List (V × V)} {kvs : List (Key × D)}, RPs K io H ds vs → keysD ds = some kvs → ∃ ws, vs = ws.map (fun kv => (kV kv.1, kv.2)) ∧ RKs K io H kvs ws
  | [], _, _, h, e => by
    have h : _ = [] := h
    subst h
    have e : some [] = some _ := e
    injection e with e
    subst e
    exact ⟨[], rfl, rfl⟩
  | (k, d) :: r, _, _, ⟨v, w, t, e, h1, h2, h3⟩, z => by
    subst e
    unfold keysD at z
    split at z
    · rename_i x t' e1 e2
      injection z with z
      subst z
      obtain ⟨ws, rfl, q⟩ := RPs.keys h3 e2
      exact ⟨(x, w) :: ws, by rw [List.map_cons, keyD_rel e1 h1], w, ws, rfl, h2, q⟩
    · cases z
section
variable {X : Cx} {C : Cn} {pos : Pos}
/-- the pairs' derivation -/
structure QPr (X : Cx) (C : Cn) (pos : Pos) (keys : List (Option Expr)) (values : List Expr) (m : MP) : Prop where
  ex : ∃ trs, PPs X pos keys values trs ∧ ∀ σ H Q, (∃ io ρ S, Rep X.K io S H ∧ RE X.K io H ρ σ ∧ Po X.K (RPs X.K) C.cl (fun c d H' => C.W c d σ H') io H (m ρ S) Q) → tPairs trs σ H Q
theorem qpr_nil : QPr X C pos [] [] pNil := ⟨[], pps_nil, fun σ H Q ⟨io, ρ, S, R, re, h⟩ => h.fin R rfl⟩
theorem qpr_cons {k v : Expr} {ks : List (Option Expr)} {vs : List Expr} {mk mv : M} {r : MP} (hk : QE X C k mk) (hv : QE X C v mv) (hr : QPr X C pos ks vs r) : QPr X C pos (some k :: ks) (v :: vs) (pCons mk mv r) := by
  obtain ⟨trs, p1, p2⟩ := hr.ex
  refine ⟨_, pps_cons hk hv p1, ?_⟩
  rintro σ H Q ⟨io, ρ, S, R, re, h⟩
  refine rdE_step R re h fun x S1 io1 H1 v1 p1 m1 R1 re1 q1 h1 => ?_
  refine rdE_step R1 re1 h1 fun y S2 io2 H2 v2 pr2 m2 R2 re2 q2 h2 => ?_
  refine p2 _ _ _ ⟨io2, ρ, S2, R2, re2, ?_⟩
  refine Po.imp (relg := RPs X.K) h2 fun ps S3 io3 H3 vs3 _ pr3 m3 R3 q3 h3 => ?_
  exact h3.fin R3 ⟨v1, v2, vs3, rfl, q1.mono (pr2.trans pr3) (m2.trans m3), q2.mono pr3 m3, q3⟩
theorem qe_disp {keys : List (Option Expr)} {values : List Expr} {m : MP} (h : QPr X C pos keys values m) (hall : keys.all (·.isSome) = true := by rfl) (hl : keys.length = values.length := by rfl) (h0 : keys ≠ [] := by exact fun z => by cases z) (h15 : keys.length ≤ 15 := by decide) :
    QE X C (.Dict keys values pos) (mDisp m) := by
  obtain ⟨trs, p1, p2⟩ := h.ex
  refine PE_imp (pe_disp p1 hall hl h0 h15) ?_
  rintro σ H Q ⟨io, ρ, S, R, re, h⟩ t ht
  have pp : io <+: io ++ [t] := List.prefix_append _ _
  have R0 : Rep X.K (io ++ [t]) (S ++ [.dct []]) (upd H t (.dK [])) := R.new ht ⟨_, upd_same, rfl⟩
  refine p2 _ _ _ ⟨io ++ [t], ρ, S ++ [.dct []], R0, re.mono pp (Mo.new ht), ?_⟩
  have h' := Po.mono (H' := upd H t (.dK [])) pp (Mo.new ht) h
  refine Po.imp (relg := RPs X.K) h' fun ps S1 io1 H1 vs1 _ pr1 m1 R1 q1 h1 => ?_
  split at h1
  · rename_i kvs hk
    split at h1
    · rename_i hc
      obtain ⟨ws, rfl, rk⟩ := q1.keys hk
      have ha : io1[S.length]? = some t := by
        refine pre_get pr1 ?_
        rw [← R.len]
        exact List.getElem?_concat_length
      obtain ⟨xs, hx, rx⟩ := R1.ob _ _ _ hc.2 ha
      have rx : xs = [] := rx
      subst rx
      refine ⟨hx, ws, rfl, by rw [rk.length]; exact hc.1, ?_⟩
      obtain ⟨mo, R2⟩ := R1.put (o := .dK (mergeK [] ws)) (ob := .dct (mergeD [] kvs)) hc.2 ha fun mo => ⟨_, upd_same, (RKs.merge rk (show RKs X.K io1 H1 [] [] from rfl)).mono (List.prefix_rfl) mo⟩
      exact h1.finP (List.prefix_rfl) mo R2 ⟨t, rfl, ha⟩
    · exact h1.elim
  · exact h1.elim
end
section
variable {X : Cx} {C : Cn} {k n : Nat} {is : List Nat} {f : Addr} {fd : FuncData} {ps ks : List Str} {fn : F} {x : Str} {p pos : Pos} {e : Expr} {es : List Expr} {kws : List Keyword} {ma mk : MA} {nm : Option Str} {kpos : Pos} {m : M}
theorem qk_cons (ha : QE X C e m) (hr : QK X C kws mk) : QK X C (⟨nm, e, kpos⟩ :: kws) (aCons m mk) := by
  refine PK_imp (pk_cons ha hr) ?_
  rintro σ H Q ⟨io, ρ, S, R, re, h⟩
  refine rdE_step R re h fun d S1 io1 H1 v p1 m1 R1 re1 q1 h1 => ?_
  refine rdA_step R1 re1 h1 fun ds S2 io2 H2 vs p2 m2 R2 re2 q2 h2 => ?_
  exact h2.fin R2 ⟨v, vs, rfl, q1.mono p2 m2, q2⟩
end
end Mn
set_option Elab.async false
set_option linter.all false
set_option maxRecDepth 100000
set_option maxHeartbeats 4000000
namespace Mn
open PySem PySem.Spec PyProof.Rows L2 RZ
/-- a sequence in the heap: a tuple (true), a list (false); its iterator -/
def SqB : Bool → Heap → Addr → Array Value → Prop
  | true, h, l, xs => h.IsTuple l xs
  | false, h, l, xs => h.IsList l xs
def ItB : Bool → Heap → Addr → Addr → Nat → Prop
  | true, h, it, l, i => h.IsTupleIter it l i
  | false, h, it, l, i => h.IsListIter it l i
def itName : Bool → String
  | true => "tuple_iterator"
  | false => "list_iterator"
def SqK (K : PySem.W.Frag) : Bool → Hp → Addr → List V → Prop
  | true, H, a, xs => SqT K H a xs
  | false, H, a, xs => SqL K H a xs
section
variable {h h' : Heap} {k : Bool} {l it c : Addr} {xs : Array Value} {i : Nat}
theorem SqB.ext (q : SqB k h l xs) (e : Heap.ExtBut c h h') (ne : l ≠ c) : SqB k h' l xs := by
  cases k with
  | true => exact Heap.IsTuple.extBut q e ne
  | false => exact Heap.IsList.extBut q e ne
theorem ItB.ext (q : ItB k h it l i) (e : Heap.ExtBut c h h') (ne : it ≠ c) : ItB k h' it l i := by
  cases k with
  | true => exact Heap.IsTupleIter.extBut q e ne
  | false => exact Heap.IsListIter.extBut q e ne
theorem ItB.moved (q : ItB k h it l i) (e : ∀ o, h.get? it = some o → h'.get? it = some o) : ItB k h' it l i := by
  cases k with
  | true => exact Heap.IsTupleIter.at q e
  | false => exact Heap.IsListIter.at q e
theorem ItB.there (q : ItB k h it l i) : ∃ o, h.get? it = some o ∧ ∃ vs, o.data = .fields vs := by
  cases k with
  | true => obtain ⟨o, e, _, d⟩ := q; exact ⟨o, e, _, d⟩
  | false => obtain ⟨o, e, _, d⟩ := q; exact ⟨o, e, _, d⟩
theorem SqB.there (q : SqB k h l xs) : ∃ o, h.get? l = some o := by
  cases k with
  | true => obtain ⟨o, e, _⟩ := q; exact ⟨o, e⟩
  | false => obtain ⟨o, e, _⟩ := q; exact ⟨o, e⟩
end
section
variable {prog : Program} {w : World} {A : Around} {E : Value → Shared → Prop} {s : Shared} {k : Bool} {it l : Addr} {i : Nat} {xs : Array Value}
theorem step_b {x : Value} {Q : Value → Shared → Prop} (a : ItB k s.heap it l i) (b : SqB k s.heap l xs) (hx : xs[i]? = some x) (q : ∀ h', ItB k h' it l (i + 1) → Heap.SameBut it s.heap h' → Q x { s with heap := h' }) : wpAny (model prog w) A (Builtin.SmallTypes.nextOf (.ref it)) Q E s := by
  cases k with
  | true => exact nextOf_tuple_item a b hx q
  | false => exact wpAny_nextOf_list_item a b hx q
theorem stop_b {Q : Value → Shared → Prop} (hh : A.handled = none) (a : ItB k s.heap it l i) (b : SqB k s.heap l xs) (hx : xs[i]? = none) (q : ∀ h' e, Heap.ExtBut it s.heap h' → (∃ o, h'.get? e = some o ∧ o.cls = .type "StopIteration") → E (.ref e) { s with heap := h' }) : wpAny (model prog w) A (Builtin.SmallTypes.nextOf (.ref it)) Q E s := by
  cases k with
  | true => exact nextOf_tuple_end hh a b hx q
  | false => exact wpAny_nextOf_list_end hh a b hx q
theorem ItB.made (h : Heap) : ItB k (h.push { cls := .type (itName k), data := .fields #[.ref l, .int 0 0] }) h.objs.size l 0 := by
  cases k with
  | true => exact ⟨_, Heap.get?_push_size _ rfl, rfl, rfl⟩
  | false => exact ⟨_, Heap.get?_push_size _ rfl, rfl, rfl⟩
end
abbrev zb1 (k : Bool) (h : Heap) (l1 : Addr) : Heap := h.push { cls := .type (itName k), data := .fields #[.ref l1, .int 0 0] }
section
variable {X : Cx} {pins : List (Addr × Obj)} {σ : L2.St} {H : Hp} {s : Shared} {k : Bool} {a : Addr} {xs ys : List V}
theorem sqK_of (I : Inv X pins σ H s) (q : SqK X.K k H a xs) : ∃ its : List Value, Vals xs its ∧ SqB k s.heap a its.toArray := by
  cases k with
  | true =>
    obtain ⟨its, r, p, _⟩ := I.tuple q
    exact ⟨its, r, p⟩
  | false =>
    obtain ⟨its, r, p, _⟩ := I.list q
    exact ⟨its, r, p.isList⟩
theorem sqK_inj (I : Inv X pins σ H s) (q : SqK X.K k H a xs) (q' : SqK X.K k H a ys) : xs = ys := by
  cases k with
  | true => exact I.tuple_inj q q'
  | false => exact I.list_inj q q'
end
/-- a list or tuple as a source of zip -/
structure SrcB (K : PySem.W.Frag) (k : Bool) (a : Addr) (io : List Addr) (H : Hp) (ds : List D) (chk : Sto → Bool) : Prop where
  now : ∃ xs, SqK K k H a xs ∧ RDs K io H ds xs
  later : ∀ io' S' H', io <+: io' → Mo H H' → Rep K io' S' H' → chk S' = true → ∃ xs, SqK K k H' a xs ∧ RDs K io' H' ds xs
theorem srcB_of {K : PySem.W.Frag} {io : List Addr} {S : Sto} {H : Hp} {d : D} {v : V} {z : It0} (R : Rep K io S H) (q : RD K io H d v) (h : itD S d = some z) (ns : kOf S d ≠ "str") : ∃ k a, v = .ref a ∧ SrcB K k a io H z.1 z.2 := by
  unfold itD at h
  split at h
  · injection h with h
    subst h
    obtain ⟨a, xs, rfl, hs, r⟩ := q
    exact ⟨true, a, rfl, ⟨xs, hs.1, r⟩, fun io' S' H' p m R' _ => ⟨xs, m.sqT hs.1, r.mono p m⟩⟩
  · injection h with h
    subst h
    obtain ⟨a, xs, rfl, hs, r⟩ := q
    exact ⟨false, a, rfl, ⟨xs, hs.sq, r⟩, fun io' S' H' p m R' _ => ⟨xs, (m.fzL hs).sq, r.mono p m⟩⟩
  · exact absurd rfl ns
  · rename_i n
    split at h
    · rename_i ds hs
      injection h with h
      subst h
      obtain ⟨a, rfl, ha⟩ := q
      obtain ⟨xs, hx, r⟩ := R.ob _ _ _ hs ha
      refine ⟨false, a, rfl, ⟨xs, SqL.of hx, r⟩, fun io' S' H' p m R' c => ?_⟩
      have c : S'[n]? = some (.lst ds) := of_decide_eq_true c
      obtain ⟨ys, h1, h2⟩ := R'.ob _ _ _ c (pre_get p ha)
      exact ⟨ys, SqL.of h1, h2⟩
    · cases h
  · cases h
end Mn
set_option Elab.async false
set_option linter.all false
set_option maxRecDepth 100000
set_option maxHeartbeats 4000000
namespace Mn
open PySem PySem.Spec PyProof.Rows L2
mutual
def chkD (K : PySem.W.Frag) : D → Value → Bool
  | .non, .none => true
  | .bl b, .bool c => b == c
  | .int i, .int j _ => decide (i = j)
  | .str x, .str y _ => decide (x = y)
  | .tup ds, .ref a => match K.lookup a with
    | some ⟨.type c, _, .seq its _, _⟩ => decide (c = "tuple") && (decide (its.size ≤ sizeLine) && (!isTrail ds && chkDs K ds its.toList))
    | _ => false
  | .fls ds, .ref a => match K.lookup a with
    | some ⟨.type c, none, .seq its _, _⟩ => decide (c = "list") && (decide (its.size ≤ sizeLine) && chkDs K ds its.toList)
    | _ => false
  | _, _ => false
def chkDs (K : PySem.W.Frag) : List D → List Value → Bool
  | [], [] => true
  | d :: ds, u :: us => chkD K d u && chkDs K ds us
  | _, _ => false
end
mutual
theorem chkD_ok {K : PySem.W.Frag} : ∀ {d : D} {u : Value}, chkD K d u = true → KD K d u
  | .non, u, h => by
    cases u with
    | none => exact ⟨.non, rfl, fun _ _ => rfl⟩
    | _ => cases h
  | .bl b, u, h => by
    cases u with
    | bool c =>
      have h : (b == c) = true := h
      rw [eq_of_beq h]
      exact ⟨.bl c, rfl, fun _ _ => rfl⟩
    | _ => cases h
  | .int i, u, h => by
    cases u with
    | int j t =>
      have h : i = j := of_decide_eq_true h
      rw [h]
      exact ⟨.int j, ⟨t, rfl⟩, fun _ _ => rfl⟩
    | _ => cases h
  | .str x, u, h => by
    cases u with
    | str y t =>
      have h : x = y := of_decide_eq_true h
      rw [h]
      exact ⟨.str y, ⟨t, rfl⟩, fun _ _ => rfl⟩
    | _ => cases h
  | .tup ds, u, h => by
    cases u with
    | ref a =>
      unfold chkD at h
      split at h
      · rename_i c _ its n _ q
        obtain ⟨h1, h2⟩ := He.ba h
        obtain ⟨h3, h4⟩ := He.ba h2
        obtain ⟨h5, h4⟩ := He.ba h4
        obtain ⟨vs, rv, rs⟩ := chkDs_ok h4
        exact ⟨.ref a, rfl, fun io H => ⟨a, vs, rfl, ⟨.inr ⟨_, its, n, q, congrArg Value.type (of_decide_eq_true h1), rfl, of_decide_eq_true h3, rv⟩, fun z => by rw [z] at h5; cases h5⟩, rs io H⟩⟩
      · cases h
    | _ => cases h
  | .fls ds, u, h => by
    cases u with
    | ref a =>
      unfold chkD at h
      split at h
      · rename_i c its n _ q
        obtain ⟨h1, h2⟩ := He.ba h
        obtain ⟨h3, h4⟩ := He.ba h2
        obtain ⟨vs, rv, rs⟩ := chkDs_ok h4
        exact ⟨.ref a, rfl, fun io H => ⟨a, vs, rfl, .inr ⟨_, its, n, q, congrArg Value.type (of_decide_eq_true h1), rfl, rfl, of_decide_eq_true h3, rv⟩, rs io H⟩⟩
      · cases h
    | _ => cases h
  | .ref n, u, h => by cases u <;> cases h
theorem chkDs_ok {K : PySem.W.Frag} : ∀ {ds : List D} {us : List Value}, chkDs K ds us = true → ∃ vs, Vals vs us ∧ ∀ io H, RDs K io H ds vs
  | [], us, h => by
    cases us with
    | nil => exact ⟨[], .nil, fun _ _ => rfl⟩
    | cons _ _ => cases h
  | d :: ds, us, h => by
    cases us with
    | nil => cases h
    | cons u us =>
      obtain ⟨h1, h2⟩ := He.ba (show (chkD K d u && chkDs K ds us) = true from h)
      obtain ⟨v, r1, q1⟩ := chkD_ok h1
      obtain ⟨vs, r2, q2⟩ := chkDs_ok h2
      exact ⟨v :: vs, .cons r1 r2, fun io H => ⟨v, vs, rfl, q1 io H, q2 io H⟩⟩
end
/-- the module's constants, its tables -/
structure Cs where
  cons : List (Str × D) := []
  tabs : List (Str × List (Str × D)) := []
  free : List Str := []
  more : List He.Fa := []
def Cs.ok (c : Cs) (K : PySem.W.Frag) : Bool := (c.cons.all fun p => match PySem.W.nsIn K mainGlobals p.1 with
    | some (some u) => chkD K p.2 u
    | _ => false) && ((c.tabs.all fun p => p.2.all fun q => match PySem.W.nsIn K (He.ga K p.1) q.1 with
    | some (some u) => chkD K q.2 u
    | _ => false) && (c.free.all fun x => (He.Fa.free x).ok K))
def Cs.fa (c : Cs) (fn : List He.DefD) : List He.Fa := ((fn.map fun d => .glo d.at_.1) ++ c.tabs.map fun p => .glo p.1) ++ c.more
def Cs.ts (c : Cs) : List He.Tab := c.tabs.map fun p => (fun K => He.ga K p.1, p.2.map (·.1))
abbrev AlM : Type := Bool × He.AlT
/-- what the head tells -/
def SaysM (c : Cs) (fn : List He.DefD) (w : World) (K : PySem.W.Frag) : Prop := c.ok K = true ∧ He.SaysT (c.fa fn) fn c.ts w K
/-- what the bodies lean on -/
structure Amb (w : World) (K : PySem.W.Frag) (mg : Str → Option Value) (c : Cs) (fn : List He.DefD) : Prop where
  def_ : ∀ (i : Nat) {d : He.DefD}, fn[i]? = some d → ∃ fd, FunD K d.name d.qual d.params d.body d.scope (d.dvs K) (d.kws K) (He.fAd K d.at_) fd
  glo : ∀ (i : Nat) {d : He.DefD}, fn[i]? = some d → d.at_.2 = none → mg d.at_.1 = some (.ref (He.fAd K d.at_))
  con : ∀ (i : Nat) {x : Str} {d : D}, c.cons[i]? = some (x, d) → ∃ u, mg x = some u ∧ KD K d u
  tab : ∀ (i : Nat) {x : Str} {kvs : List (Str × D)}, c.tabs[i]? = some (x, kvs) → mg x = some (.ref (He.ga K x)) ∧ (∃ es n, KDict K w (He.ga K x) es n) ∧ ∀ q ∈ kvs, ∃ u, PySem.W.nsIn K (He.ga K x) q.1 = some (some u) ∧ KD K q.2 u
  tabN : ∀ (i : Nat) {x : Str} {kvs : List (Str × D)}, c.tabs[i]? = some (x, kvs) → ∀ z, (∀ q ∈ kvs, q.1 ≠ z) → PySem.W.nsIn K (He.ga K x) z = some none
  free : ∀ (i : Nat) {x : Str}, c.free[i]? = some x → mg x = none
  more : ∀ (i : Nat) {f : He.Fa}, c.more[i]? = some f → f.ok K = true
  mglo : ∀ (i : Nat) {x : Str}, c.more[i]? = some (.glo x) → mg x = some (.ref (He.ga K x))
theorem nsIn_no {K : PySem.W.Frag} {P : Params} {a : Addr} {ks : List Str} {z : Str} (h : He.dicW K a = some (He.keysIn P ks)) (hz : ∀ k ∈ ks, k ≠ z) : PySem.W.nsIn K a z = some none := by
  unfold He.dicW at h
  split at h
  · rename_i c es n sl q
    split at h
    · have h := Option.some.inj h
      have each : ∀ e ∈ es.toList, ∃ k t, e.key = .str k t ∧ k ≠ z := fun e he => by
        have m : He.keyOf e ∈ es.toList.map He.keyOf := List.mem_map.mpr ⟨e, he, rfl⟩
        rw [h] at m
        obtain ⟨k, hk, e2⟩ := List.mem_map.mp m
        unfold He.keyOf at e2
        split at e2
        · rename_i x t hx
          injection e2 with e2
          injection e2 with e3 e4
          exact ⟨x, t, hx, e3 ▸ hz k hk⟩
        · cases e2
      have e1 : es.toList.find? (·.key.isStr z) = none := List.find?_eq_none.mpr fun e he => by
        obtain ⟨k, t, hk, hn⟩ := each e he
        rw [hk]
        simpa [Value.isStr] using hn
      have e2 : es.toList.any (·.refKey) = false := by
        rw [List.any_eq_false]
        intro e he
        obtain ⟨k, t, hk, hn⟩ := each e he
        simp [DictEntry.refKey, hk]
      unfold PySem.W.nsIn
      rw [q]
      dsimp only
      rw [e1]
      dsimp only
      rw [e2]
      rfl
    · cases h
  · cases h
theorem amb_of {w : World} {K : PySem.W.Frag} {h : Heap} {mg : Str → Option Value} {c : Cs} {fn : List He.DefD} (X : K.In h) (G : h.Ns mainGlobals mg) (s : SaysM c fn w K) : Amb w K mg c fn := by
  obtain ⟨ok, sT⟩ := s
  obtain ⟨o1, o2⟩ := He.ba ok
  obtain ⟨o2, o3⟩ := He.ba o2
  refine ⟨fun i d h => sT.d.def_ i h, fun i d h hm => ?_, fun i x d h => ?_, fun i x kvs h => ⟨?_, ?_, fun q hq => ?_⟩, fun i x kvs h z hz => ?_, fun i x h => ?_, fun i f h => ?_, fun i x h => ?_⟩
  · have hf : (c.fa fn)[i]? = some (.glo d.at_.1) := by
      unfold Cs.fa
      have hl : i < (fn.map fun d => He.Fa.glo d.at_.1).length := by
        rw [List.length_map]
        exact (List.getElem?_eq_some_iff.mp h).1
      rw [List.getElem?_append_left (by rw [List.length_append]; omega), List.getElem?_append_left hl, List.getElem?_map, h]
      rfl
    have q := He.glo_ok X G (sT.d.fact i hf)
    rw [q]
    unfold He.fAd
    rw [hm]
  · have q := List.all_eq_true.mp o1 _ (List.mem_of_getElem? h)
    have q : (match PySem.W.nsIn K mainGlobals x with
      | some (some u) => chkD K d u
      | _ => false) = true := q
    split at q
    · rename_i u e
      exact ⟨u, PySem.W.mg_of X G e, chkD_ok q⟩
    · cases q
  · have hf : (c.fa fn)[fn.length + i]? = some (.glo x) := by
      unfold Cs.fa
      have hi := (List.getElem?_eq_some_iff.mp h).1
      rw [List.getElem?_append_left (by rw [List.length_append, List.length_map, List.length_map]; omega), List.getElem?_append_right (by rw [List.length_map]; omega), List.length_map, Nat.add_sub_cancel_left, List.getElem?_map, h]
      rfl
    exact He.glo_ok X G (sT.d.fact (fn.length + i) hf)
  · have ht : c.ts[i]? = some (fun K => He.ga K x, kvs.map (·.1)) := by
      unfold Cs.ts
      rw [List.getElem?_map, h]
      rfl
    exact sT.tab i ht
  · have q1 := List.all_eq_true.mp (List.all_eq_true.mp o2 _ (List.mem_of_getElem? h)) q hq
    have q1 : (match PySem.W.nsIn K (He.ga K x) q.1 with
      | some (some u) => chkD K q.2 u
      | _ => false) = true := q1
    split at q1
    · rename_i u e
      exact ⟨u, e, chkD_ok q1⟩
    · cases q1
  · have ht : c.ts[i]? = some (fun K => He.ga K x, kvs.map (·.1)) := by
      unfold Cs.ts
      rw [List.getElem?_map, h]
      rfl
    have e : c.ts.map (fun t => He.dicW K (t.1 K)) = c.ts.map fun t => some (He.keysIn w.params t.2) := congrArg (fun z : He.AlT => z.2) sT
    have e2 : (c.ts.map fun t => He.dicW K (t.1 K))[i]? = (c.ts.map fun t => some (He.keysIn w.params t.2))[i]? := by rw [e]
    rw [List.getElem?_map, List.getElem?_map, ht] at e2
    refine nsIn_no (Option.some.inj e2) fun k hk => ?_
    obtain ⟨q, hq, rfl⟩ := List.mem_map.mp hk
    exact hz q hq
  · exact He.free_ok X G (List.all_eq_true.mp o3 _ (List.mem_of_getElem? h))
  · have hf : (c.fa fn)[fn.length + c.tabs.length + i]? = some f := by
      unfold Cs.fa
      rw [List.getElem?_append_right (by rw [List.length_append, List.length_map, List.length_map]; omega), List.length_append, List.length_map, List.length_map, Nat.add_sub_cancel_left, h]
    exact sT.d.fact _ hf
  · have hf : (c.fa fn)[fn.length + c.tabs.length + i]? = some (.glo x) := by
      unfold Cs.fa
      rw [List.getElem?_append_right (by rw [List.length_append, List.length_map, List.length_map]; omega), List.length_append, List.length_map, List.length_map, Nat.add_sub_cancel_left, h]
    exact He.glo_ok X G (sT.d.fact _ hf)
/-- the i-th def keeps its mirror's promise -/
structure FG (P : Program) (w : World) (K : PySem.W.Frag) (mg : Str → Option Value) (base : Heap) (cl : Str → Value) (k : Nat) (d : He.DefD) (ps : List Str) (fn : F) : Prop where
  ex : ∃ (f : Addr) (fd : FuncData), FunD K d.name d.qual d.params d.body d.scope [] (d.kws K) f fd ∧ (f = He.fAd K d.at_ ∧ (d.at_.2 = none → mg d.at_.1 = some (.ref f))) ∧ PySem.W.keepIn K (.ref f) = true ∧ Binds K fd ps [] ∧ FnG P w K mg base (2 * k) f fd ps (spF K cl fn)
theorem FG.mono {P : Program} {w : World} {K : PySem.W.Frag} {mg : Str → Option Value} {base : Heap} {cl : Str → Value} {j k : Nat} {x : He.DefD} {ps : List Str} {fn : F} (G : FG P w K mg base cl j x ps fn) (h : j ≤ k) : FG P w K mg base cl k x ps fn := by
  obtain ⟨f, fd, h0, h1, h2, h3, h4⟩ := G.ex
  exact ⟨f, fd, h0, h1, h2, h3, h4.mono (by omega)⟩
theorem fg_def {P : Program} {w : World} {K : PySem.W.Frag} {mg : Str → Option Value} {base : Heap} {cl : Str → Value} {c : Cs} {fn : List He.DefD} (a : Amb w K mg c fn) (i : Nat) {d : He.DefD} {ps N : List Str} {k : Nat} {m : MS} (h : fn[i]? = some d) (hd : d.dfl = []) (Sc : FnScope N ps d.scope)
    (hb : ∀ (kV doc pm : Value) (an : Option Addr) (cdv ct : Value) (us : List Value), us.length = ps.length → bindArgs (PySem.W.fnOf d.name d.qual d.params d.body d.scope .none kV doc pm an cdv ct) ⟨us, []⟩ = pure (ps.zip us))
    (hbody : ∀ (f : Addr) (cdv : Value) (A : Around) (outer : List Env) (s : Shared) (H : Hp) (E : XK), Room (2 * k + 1) (A.deeper (envOfC d.qual d.scope s.heap.objs.size f cdv)) → (A.deeper (envOfC d.qual d.scope s.heap.objs.size f cdv)).guards = some [] →
      QSs (cxOf (L2.CX P w) P w K mg base N d.qual d.scope f cdv A outer s H E) ⟨cl, fun c d _ H => E c d H⟩ d.body m) : FG P w K mg base cl (k + 1) d ps (mDef ps.length N.length m) := by
  obtain ⟨fd, Fu⟩ := a.def_ i h
  have e : d.dvs K = [] := by unfold He.DefD.dvs; rw [hd]; rfl
  rw [e] at Fu
  exact ⟨_, fd, Fu, ⟨rfl, fun hm => a.glo i h hm⟩, Fu.kp, Fu.bindsN hb, fg_of Fu Sc fun cdv A outer s H E r g => hbody _ cdv A outer s H E r g⟩
theorem fg_bad {P : Program} {w : World} {K : PySem.W.Frag} {mg : Str → Option Value} {base : Heap} {cl : Str → Value} {c : Cs} {fn : List He.DefD} (a : Amb w K mg c fn) (i : Nat) {d : He.DefD} {ps : List Str} (h : fn[i]? = some d) (hd : d.dfl = [])
    (hb : ∀ (kV doc pm : Value) (an : Option Addr) (cdv ct : Value) (us : List Value), us.length = ps.length → bindArgs (PySem.W.fnOf d.name d.qual d.params d.body d.scope .none kV doc pm an cdv ct) ⟨us, []⟩ = pure (ps.zip us)) : FG P w K mg base cl 0 d ps fun _ _ => .bad := by
  obtain ⟨fd, Fu⟩ := a.def_ i h
  have e : d.dvs K = [] := by unfold He.DefD.dvs; rw [hd]; rfl
  rw [e] at Fu
  exact ⟨_, fd, Fu, ⟨rfl, fun hm => a.glo i h hm⟩, Fu.kp, Fu.bindsN hb, .bad⟩
theorem fd_inj {K : PySem.W.Frag} {x qual x' qual' : Str} {params params' : Arguments} {body body' : List Stmt} {scope scope' : Scope} {dvs dvs' : List V} {kws kws' : List (Str × V)} {f : Addr} {fd fd' : FuncData} (a : FunD K x qual params body scope dvs kws f fd) (b : FunD K x' qual' params' body' scope' dvs' kws' f fd') : fd = fd' := by
  obtain ⟨_, _, _, _, _, _, _, _, _, _, e, l, _, _, _⟩ := a.ex
  obtain ⟨_, _, _, _, _, _, _, _, _, _, e', l', _, _, _⟩ := b.ex
  rw [l] at l'
  injection l' with l'
  injection l' with _ _ l' _
  injection l' with l'
theorem room_q {k : Nat} {A : Around} (r : Room k A) : A.units + eqK ≤ cLine := by have := r.un; unfold eqK; omega
theorem room_i {k : Nat} {A : Around} (r : Room k A) : A.units + 1 + eqK ≤ cLine := by have := r.un; unfold eqK; omega
theorem room_p {k : Nat} {A : Around} (r : Room k A) : A.units + 152 ≤ cLine := by have := r.un; omega
theorem room_1 {k : Nat} {A : Around} (r : Room k A) : A.units + 1 < cLine := by have := r.un; omega
def sPar (i j : Nat) (m : MA) : MS := fun ρ S => (m ρ S).st ρ fun ds S1 => match ds with
  | [d, e] => .nx ((ρ.set i (some d)).set j (some e)) S1
  | _ => .bad
/-- a table: text keys -/
def tabD (kvs : List (Str × D)) (x : Str) : Option D := (kvs.find? fun q => decide (q.1 = x)).map (·.2)
def mTab (kvs : List (Str × D)) (a : M) : M := fun ρ S => (a ρ S).bind fun d S => match d with
  | .str x => match tabD kvs x with
    | some e => .ok e S
    | none => .bad
  | _ => .bad
/-- nothing is let out of a comprehension -/
theorem takes_no (X : Cx) : Takes X fun _ _ _ _ => False := fun u s' ⟨_, _, _, _, _, _, _, _, _, _, _, _, _, _, _, _, z⟩ => z.elim
def fNeg : D → Sto → Res D := fun x S => match x with
  | .int i => .ok (.int (-i)) S
  | _ => .bad
section
variable {X : Cx} {C : Cn} {c : Cs} {fn : List He.DefD} {e : Expr} {es : List Expr} {m : M} {ma : MA} {p pos : Pos} {k : Nat} {x : Str} {dd : He.DefD} {ps : List Str} {fnc : F}
theorem us_neg : UnR X (unaryOp .USub) (rd1 X.K fNeg) := by
  intro pins s σ H x v Q I rx q
  obtain ⟨cl, W, io, S, d, R, q1, z⟩ := q
  unfold fNeg at z
  split at z
  · exact un_neg pins s σ H x v Q I rx ⟨_, q1, z.fin R rfl⟩
  · exact z.elim
theorem qe_fn (G : FG X.prog X.w X.K X.mg X.base C.cl k dd ps fnc) (hr : Room (2 * k) X.A) (hgd : X.A.guards = some []) (tk : Takes X C.W) (ha : QA X C (e :: es) ma)
    (hx : dd.at_ = (x, none) := by rfl) (hg : Gl X x := by rfl) (hdb : (x == ("__debug__" : Str)) = false := by decide) (he : starEach (e :: es) X.env = (false, eval e X.env) :: starEach es X.env := by rfl) (hpl : (backTo pos (starEach es X.env)).any (·.1) = false := by rfl) :
    QE X C (.Call (.Name x p) (e :: es) [] pos) (mCB fnc ma) := by
  obtain ⟨f, fd, h0, ⟨_, h1⟩, h2, h3, h4⟩ := G.ex
  have h1 : X.mg x = some (.ref f) := by
    have := h1 (by rw [hx])
    rw [hx] at this
    exact this
  exact qe_call h4 hr hgd h1 h2 h3 tk ha hg hdb he hpl
end
end Mn
set_option Elab.async false
set_option linter.all false
set_option maxRecDepth 100000
set_option maxHeartbeats 4000000
namespace Mn
open PySem PySem.Spec PyProof.Rows L2
/-- an instance of c: its place, its attributes -/
def insD (S : Sto) (c : Str) : D → Option (Nat × List (Str × D))
  | .ref n => match S[n]? with
    | some (.ins c' fs) => if c' = c then some (n, fs) else none
    | _ => none
  | _ => none
/-- e.f of an instance of c -/
def mAtt (c f : Str) (m : M) : M := fun ρ S => (m ρ S).bind fun d S1 => match insD S1 c d with
  | some (_, fs) => match fs.lookup f with
    | some e => .ok e S1
    | none => .bad
  | none => .bad
/-- o.f += v, ints -/
def sAttAdd (c f : Str) (mo mv : M) : MS := fun ρ S => (mo ρ S).st ρ fun x S1 => match insD S1 c x with
  | some (n, fs) => match fs.lookup f with
    | some (.int i) => (mv ρ S1).st ρ fun y S2 => match y with
      | .int j => match S2[n]? with
        | some (.ins c' fs') => if c' = c ∧ fs'.length < 1000 then .nx ρ (S2.set n (.ins c (putFD f (.int (i + j)) fs'))) else .bad
        | _ => .bad
      | _ => .bad
    | _ => .bad
  | none => .bad
/-- o.m(..) -/
def mMeth (c m : Str) (fn : F) (mo : M) (ma : MA) : M := fun ρ S => (mo ρ S).bind fun x S1 => match insD S1 c x with
  | some (_, fs) => if fs.lookup m = none then (ma ρ S1).bind fun ds S2 => fn (x :: ds) S2 else .bad
  | none => .bad
section
variable {X : Cx} {C : Cn} {o e v : Expr} {es : List Expr} {mo mv m : M} {ma : MA} {c f mn : Str} {pos pos' tpos apos p : Pos} {k : Nat} {dd : He.DefD} {ps : List Str} {fnc : F} {x : Str}
/-- a new instance of c: its mirror's store -/
theorem Rep.ins {K : PySem.W.Frag} {io : List Addr} {S : Sto} {H : Hp} (R : Rep K io S H) {xa dx : Addr} (h1 : H xa = none) (h2 : H dx = none) (hne : dx ≠ xa) (c : Str) : Mo H (upd (upd H dx (.own xa)) xa (.ins (He.ga K c) dx [])) ∧ Rep K (io ++ [xa]) (S ++ [.ins c []]) (upd (upd H dx (.own xa)) xa (.ins (He.ga K c) dx [])) := by
  have ha : upd H dx (.own xa) xa = none := by rw [upd_ne (Ne.symm hne)]; exact h1
  refine ⟨(Mo.new h2).trans (Mo.new ha), ?_⟩
  exact (R.tup (o := .own xa) h2).new ha ⟨dx, [], upd_same, rfl⟩
end
end Mn
set_option Elab.async false
set_option linter.all false
set_option maxRecDepth 100000
set_option maxHeartbeats 4000000
namespace Mn
open PySem PySem.Spec PyProof.Rows L2 RZ
abbrev en2 (k : Bool) (h : Heap) (l : Addr) : Heap := (zb1 k h l).push { cls := .type "enumerate", data := .fields #[.none, .bool false, .ref h.objs.size, rawInt 0, .none, .none] }
theorem meets_enumB (k : Bool) (l : Addr) (xs : Array Value) :
    Meets (Builtin.«enumerate.__new__» ⟨[.type "enumerate", .ref l], []⟩) (fun _ R s => SqB k s.heap l xs ∧ R (.ok (.ret (.ref (zb1 k s.heap l).objs.size))) { s with heap := en2 k s.heap l }) :=
  .of_wp fun prog w A R s h => by
    obtain ⟨hp, g, d, tk, os⟩ := s
    obtain ⟨q, h⟩ := h
    have hsub := sub_enumerate
    cases k
    · have e : Heap.IsList (Shared.heap ⟨hp, g, d, tk, os⟩) l xs := q
      obtain ⟨ol, hl, r⟩ := id e
      wp_walk using AutoSeq1.wpAny_loadPart' hl
      refine wpAny_stack_any fun st => wpAny_pure ?_
      split
      · rename_i c _ _ _ _ _
        cases (c == Value.type "enumerate") <;> (wp_walk using AutoSeq1.wpAny_loadPart' hl, wpAny_pyIter_list e; exact ⟨_, rfl, h⟩)
      · wp_walk using AutoSeq1.wpAny_loadPart' hl, wpAny_pyIter_list e
        exact ⟨_, rfl, h⟩
    · have e : Heap.IsTuple (Shared.heap ⟨hp, g, d, tk, os⟩) l xs := q
      obtain ⟨ol, hl, r⟩ := id e
      wp_walk using AutoSeq1.wpAny_loadPart' hl
      refine wpAny_stack_any fun st => wpAny_pure ?_
      split
      · rename_i c _ _ _ _ _
        cases (c == Value.type "enumerate") <;> (wp_walk using AutoSeq1.wpAny_loadPart' hl, wpAny_pyIter_tuple e; exact ⟨_, rfl, h⟩)
      · wp_walk using AutoSeq1.wpAny_loadPart' hl, wpAny_pyIter_tuple e
        exact ⟨_, rfl, h⟩
section
variable {prog : Program} {w : World} {A : Around} {E : Value → Shared → Prop} {s : Shared} {k : Bool} {l : Addr} {xs : Array Value}
theorem call_enumB {Q : Value → Shared → Prop} (b : SqB k s.heap l xs)
    (q : ∀ h', IsEnum h' (s.heap.objs.size + 1) s.heap.objs.size 0 .none → ItB k h' s.heap.objs.size l 0 → (∀ c o, s.heap.get? c = some o → h'.get? c = some o) → Q (.ref (s.heap.objs.size + 1)) { s with heap := h' }) : wpAny (model prog w) A (call (.type "enumerate") [.ref l]) Q E s := by
  refine callType_new F.called_enumerate (by decide) (F.typeCall_enumerate_1 _) (F.newCall_enumerate_1 _) (fun obj => F.args_object_init_2 obj _) F.entry_enumerate_new (meets_enumB k l xs) ⟨b, ?_⟩
  have c1 : (zb1 k s.heap l).objs.size = s.heap.objs.size + 1 := Heap.size_push ..
  have g : (en2 k s.heap l).get? (zb1 k s.heap l).objs.size = some _ := Heap.get?_push_size _ rfl
  have i : ItB k (en2 k s.heap l) s.heap.objs.size l 0 := (ItB.made (k := k) (l := l) s.heap).moved fun o e => Heap.get?_push_of_some _ e
  rw [c1] at g
  rw [c1]
  exact ⟨⟨_, g, rfl⟩, q _ g i fun c o e => Heap.get?_push_of_some _ (Heap.get?_push_of_some _ e)⟩
theorem enumB_next {e it : Addr} {i : Nat} {x old : Value} {Q : Value → Shared → Prop}
    (he : IsEnum s.heap e it i old) (hit : ItB k s.heap it l i) (hl : SqB k s.heap l xs) (hx : xs[i]? = some x) (hne : e ≠ it)
    (hQ : ∀ h', IsEnumOut h' e it ((i : Int) + 1) x s.heap.objs.size → ItB k h' it l (i + 1) → h'.get? s.heap.objs.size = some { cls := .type "tuple", data := .seq #[.int i s.toks, x] } → (∀ b o, b ≠ e → b ≠ it → s.heap.get? b = some o → h'.get? b = some o) → Q (.ref s.heap.objs.size) { s with heap := h', toks := s.toks + 1 }) :
    wpAny (model prog w) A (Builtin.«enumerate.__next__» ⟨[.ref e], []⟩) (fun fin s' => ∃ v, fin = .done (.ret v) ∧ Q v s') E s := by
  obtain ⟨hp, g, d, tk, os⟩ := s
  show wpAny _ _ (field (.ref e) 2 >>= _) _ _ _
  refine wpAny_bind (wpAny_field he rfl (x := .ref it) rfl (wpAny_bind (step_b hit hl hx fun ha hit1 hs1 => ?_)))
  replace hs1 : Heap.SameBut it hp ha := hs1
  have he1 : IsEnum ha e it i old := (hs1.2 e hne).trans he
  show wpAny _ _ (field (.ref e) 3 >>= _) _ _ ⟨ha, g, d, tk, os⟩
  refine wpAny_bind (wpAny_field he1 rfl (x := rawInt i) rfl ?_)
  show wpAny _ _ (field (.ref e) 4 >>= _) _ _ ⟨ha, g, d, tk, os⟩
  refine wpAny_bind (wpAny_field he1 rfl (x := .none) rfl ?_)
  show wpAny _ _ (mkInt i >>= _) _ _ ⟨ha, g, d, tk, os⟩
  refine wpAny_bind (wpAny_mkInt ?_)
  show wpAny _ _ (setField (.ref e) 3 (rawInt ((i : Int) + 1)) >>= _) _ _ ⟨ha, g, d, tk + 1, os⟩
  refine wpAny_bind (wpAny_setField_rec he1 (by simp) fun hb he2 hs2 => ?_)
  replace hs2 : Heap.SameBut e ha hb := hs2
  replace he2 : IsEnum hb e it ((i : Int) + 1) old := he2
  show wpAny _ _ (setField (.ref e) 4 .none >>= _) _ _ ⟨hb, g, d, tk + 1, os⟩
  refine wpAny_bind (wpAny_setField_rec he2 (by simp) fun hc he3 hs3 => ?_)
  replace hs3 : Heap.SameBut e hb hc := hs3
  replace he3 : IsEnum hc e it ((i : Int) + 1) old := he3
  show wpAny _ _ (newTuple [.int i tk, x] >>= _) _ _ ⟨hc, g, d, tk + 1, os⟩
  refine wpAny_bind (wpAny_newTuple ?_)
  have he4 : IsEnum (hc.push { cls := .type "tuple", data := .seq #[.int i tk, x] }) e it ((i : Int) + 1) old := Heap.get?_push_of_some _ he3
  generalize hh : hc.push { cls := .type "tuple", data := .seq #[.int i tk, x] } = hd at he4
  have hsz : hc.objs.size = hp.objs.size := by rw [hs3.1, hs2.1, hs1.1]
  have hel : e < hp.objs.size := Heap.lt_size he
  have ht4 : hd.get? hp.objs.size = some { cls := .type "tuple", data := .seq #[.int i tk, x] } := by rw [← hh, ← hsz]; exact Heap.get?_push_size _ rfl
  have hk4 : ∀ b o, b ≠ e → b ≠ it → hp.get? b = some o → hd.get? b = some o := fun b o h1 h2 hb => by
    rw [← hh]; exact Heap.get?_push_of_some _ (hs3.extBut b o h1 (hs2.extBut b o h1 (hs1.extBut b o h2 hb)))
  have hit4 : ItB k hd it l (i + 1) := by
    rw [← hh]
    exact ((hit1.ext hs2.extBut (Ne.symm hne)).ext hs3.extBut (Ne.symm hne)).moved fun o q => Heap.get?_push_of_some _ q
  show wpAny _ _ (Builtin.SmallTypes.ownedTupleIsFree (.ref e) >>= _) _ _ ⟨hd, g, d, tk + 1, os⟩
  rw [hsz]
  clear hh he3 hs3 he2 hs2 he1 hs1 hit1 hsz hc hb ha
  refine wpAny_bind ?_
  unfold Builtin.SmallTypes.ownedTupleIsFree
  refine wpAny_bind (wpAny_field he4 rfl (x := .none) rfl (wpAny_pure ?_))
  simp only [if_true]
  refine wpAny_bind (wpAny_rule ?_)
  refine wpAny_bind (wpAny_field he4 rfl (x := old) rfl ?_)
  refine wpAny_bind (wpAny_setField_rec he4 (by simp) fun h5 he5 hs5 => ?_)
  replace hs5 : Heap.SameBut e hd h5 := hs5
  replace he5 : IsEnum h5 e it ((i : Int) + 1) x := he5
  show wpAny _ _ (Builtin.SmallTypes.ownedTupleHandOut (.ref e) (.ref hp.objs.size) >>= _) _ _ ⟨h5, g, d, tk + 1, os⟩
  refine wpAny_bind ?_
  unfold Builtin.SmallTypes.ownedTupleHandOut
  refine wpAny_bind (wpAny_setField_rec he5 (by simp) fun h6 he6 hs6 => ?_)
  replace hs6 : Heap.SameBut e h5 h6 := hs6
  replace he6 : IsEnumOut h6 e it ((i : Int) + 1) x hp.objs.size := he6
  refine wpAny_setField_rec he6 (by simp) fun h7 he7 hs7 => ?_
  replace hs7 : Heap.SameBut e h6 h7 := hs7
  replace he7 : IsEnumOut h7 e it ((i : Int) + 1) x hp.objs.size := he7
  refine wpAny_bind (wpAny_letGo (wpAny_pure ⟨_, rfl, hQ h7 he7 ?_ ?_ ?_⟩))
  · exact ((hit4.ext hs5.extBut (Ne.symm hne)).ext hs6.extBut (Ne.symm hne)).ext hs7.extBut (Ne.symm hne)
  · exact hs7.extBut _ _ (Nat.ne_of_gt hel) (hs6.extBut _ _ (Nat.ne_of_gt hel) (hs5.extBut _ _ (Nat.ne_of_gt hel) ht4))
  · exact fun b o h1 h2 hb => hs7.extBut b o h1 (hs6.extBut b o h1 (hs5.extBut b o h1 (hk4 b o h1 h2 hb)))
theorem enumB_item {e it : Addr} {i : Nat} {x old : Value} {Q : Option Value → Shared → Prop}
    (he : IsEnum s.heap e it i old) (hit : ItB k s.heap it l i) (hl : SqB k s.heap l xs) (hx : xs[i]? = some x) (hne : e ≠ it)
    (hQ : ∀ h', IsEnumOut h' e it ((i : Int) + 1) x s.heap.objs.size → ItB k h' it l (i + 1) → h'.get? s.heap.objs.size = some { cls := .type "tuple", data := .seq #[.int i s.toks, x] } → (∀ b o, b ≠ e → b ≠ it → s.heap.get? b = some o → h'.get? b = some o) → Q (some (.ref s.heap.objs.size)) { s with heap := h', toks := s.toks + 1 }) :
    wpAny (model prog w) A (pyNext (.ref e)) Q E s := by
  have hT : s.TypeIs (.ref e) "enumerate" := ⟨_, he, rfl⟩
  unfold pyNext
  exact wpAny_bind (wpAny_attempt (wpAny_callSpecial?_slot (name := Str.ofString "__next__") hT F.slot_enumerate_next
    (wpAny_call_entry F.slot_enumerate_next hT F.entry_enumerate_next (enumB_next he hit hl hx hne fun h' a b c d => wpAny_pure (hQ h' a b c d)) (F.args_enumerate_next_1 _))))
theorem enumB_end {e it : Addr} {i : Nat} {old : Value} {Q : Option Value → Shared → Prop} (hh : A.handled = none)
    (he : IsEnum s.heap e it i old) (hit : ItB k s.heap it l i) (hl : SqB k s.heap l xs) (hx : xs[i]? = none) (hQ : ∀ h', Heap.ExtBut it s.heap h' → Q none { s with heap := h' }) : wpAny (model prog w) A (pyNext (.ref e)) Q E s := by
  have hT : s.TypeIs (.ref e) "enumerate" := ⟨_, he, rfl⟩
  unfold pyNext
  refine wpAny_bind (wpAny_attempt (wpAny_callSpecial?_slot (name := Str.ofString "__next__") hT F.slot_enumerate_next (wpAny_call_entry F.slot_enumerate_next hT F.entry_enumerate_next ?_ (F.args_enumerate_next_1 _))))
  show wpAny _ _ (field (.ref e) 2 >>= _) _ _ _
  refine wpAny_bind (wpAny_field he rfl (x := .ref it) rfl (wpAny_bind (stop_b hh hit hl hx fun h' x he' hx' => ?_)))
  obtain ⟨o, ho, hc⟩ := hx'
  exact wpAny_bind (wpAny_isInstance (T := "StopIteration") (b := true) ⟨o, ho, hc⟩ isSubtype_stop (wpAny_pure (hQ _ he')))
end
/-- the sequence at a as it stands at each turn, each item in a new pair -/
def ItN (K : PySem.W.Frag) (k : Bool) (a : Addr) : It :=
  ⟨fun i H => ∃ (xs : List V) (x : V), SqK K k H a xs ∧ xs[i]? = some x, fun i H v H' => ∃ T x, v = .ref T ∧ H T = none ∧ H' = upd H T (.tup [.int (i : Nat), x]) ∧ ∀ xs, SqK K k H a xs → xs[i]? = some x, fun i H => ∃ xs : List V, SqK K k H a xs ∧ xs.length ≤ i⟩
theorem turnN {P : Program} {w : World} {K : PySem.W.Frag} {k : Bool} {elts : List Expr} {kk : Nat} {tpos : Pos} (a e it : Addr) :
    Turn P w K (.Tuple elts kk tpos) (ItN K k a) [e, it] e (fun i h => (∃ old, IsEnum h e it ((i : Nat) : Int) old) ∧ ItB k h it a i ∧ e ≠ it) where
  mem := by simp
  obj := fun i h st b hb => by
    obtain ⟨⟨old, he⟩, hi, _⟩ := st
    obtain ⟨o, ho, vs, hd⟩ := hi.there
    have e' : b = e ∨ b = it := by simpa using hb
    rcases e' with z | z
    · rw [z]; exact ⟨_, he, fun v q => nomatch q⟩
    · rw [z]; exact ⟨o, ho, fun v q => by rw [hd] at q; cases q⟩
  keep := fun i h h' st kp => let ⟨⟨old, he⟩, hi, hne⟩ := st; ⟨⟨old, kp e (by simp) _ he⟩, hi.moved fun o q => kp it (by simp) o q, hne⟩
  item := by
    intro X hP hw hK hc i pins s σ H E I hf st hg
    subst hP hw hK
    obtain ⟨⟨old, he⟩, hit, hne⟩ := st
    obtain ⟨xs, x, hq, hx⟩ := hg
    obtain ⟨its, rv, p⟩ := sqK_of I hq
    obtain ⟨u, hu, ru⟩ := rv.get hx
    have hel : e < s.heap.objs.size := Heap.lt_size he
    have hil : it < s.heap.objs.size := by obtain ⟨_, q, _⟩ := hit.there; exact Heap.lt_size q
    refine enumB_item he hit p (x := u) (by simpa using hu) hne fun h' ho hit' hT hk => ?_
    refine ⟨_, rfl, wpAny_letOwnedTupleGo_enum (s := { s with heap := h', toks := s.toks + 1 }) ho fun h'' he' sb => ?_⟩
    have hT2 : h''.get? s.heap.objs.size = some { cls := .type "tuple", data := .seq #[.int i s.toks, u] } := (sb.2 _ (Nat.ne_of_gt hel)).trans hT
    have new : ObjOk X.prog X.w (upd H s.heap.objs.size (.tup [.int (i : Nat), x])) h'' s.heap.objs.size (.tup [.int (i : Nat), x]) :=
      ⟨by show 2 ≤ sizeLine; decide, [.int i s.toks, u], .cons ⟨_, rfl⟩ (.cons ru .nil), ⟨_, hT2, rfl, _, rfl⟩⟩
    have I1 : Inv X pins σ (upd H s.heap.objs.size (.tup [.int (i : Nat), x])) { s with heap := h'', toks := s.toks + 1 } :=
      I.turnedNew (ch := [e, it]) (fun b ob hb q => (sb.2 b (fun z => hb (by simp [z]))).trans (hk b ob (fun z => hb (by simp [z])) (fun z => hb (by simp [z])) q)) hf (Nat.le_refl _) new
    refine ⟨.ref s.heap.objs.size, _, I1, rfl, ⟨_, x, rfl, I.hok.fresh (Nat.le_refl _), rfl, fun ys hy => by rw [sqK_inj I hy hq]; exact hx⟩, ⟨⟨u, ?_⟩, hit'.moved fun o q => (sb.2 it (Ne.symm hne)).trans q, hne⟩, fun b hb => ?_⟩
    · have e1 : ((i + 1 : Nat) : Int) = (i : Int) + 1 := by omega
      rw [e1]; exact he'
    · have hb' : b < s.heap.objs.size := by
        have e' : b = e ∨ b = it := by simpa using hb
        rcases e' with z | z
        · rw [z]; exact hel
        · rw [z]; exact hil
      rw [upd_ne (Nat.ne_of_lt hb')]
      exact (hf b hb).1
  done := by
    intro X hP hw hK hc i pins s σ H E I hf st hg
    subst hP hw hK
    obtain ⟨⟨old, he⟩, hit, hne⟩ := st
    obtain ⟨xs, hq, hx⟩ := hg
    obtain ⟨its, rv, p⟩ := sqK_of I hq
    obtain ⟨f0, f1, f2, f3, f4, f5⟩ := hf it (by simp)
    have hl := rv.length
    exact enumB_end (I.ok.hd hc) he hit p (by simp; omega) fun h' eb => ⟨rfl, I.turned (t' := s.toks) (fun b o hb q => eb b o hb q) f0 f1 f3 f4 f5⟩
  self := fun A i s Q E st h => let ⟨⟨_, he⟩, _⟩ := st; wpAny_pyIter_enum he h
/-- what enumerate walks -/
def numD : Nat → List D → List D
  | _, [] => []
  | n, d :: r => .tup [.int (n : Nat), d] :: numD (n + 1) r
theorem numD_len : ∀ (ds : List D) (n : Nat), (numD n ds).length = ds.length
  | [], _ => rfl
  | _ :: r, n => congrArg Nat.succ (numD_len r (n + 1))
theorem numD_get : ∀ (ds : List D) (n i : Nat) {d : D}, ds[i]? = some d → (numD n ds)[i]? = some (.tup [.int ((n + i : Nat) : Int), d])
  | [], _, i, d, h => by simp at h
  | x :: r, n, 0, d, h => by
    have h : some x = some d := h
    injection h with h
    subst h
    rfl
  | x :: r, n, i + 1, d, h => by
    have h : r[i]? = some d := by simpa using h
    have := numD_get r (n + 1) i h
    show (numD (n + 1) r)[i]? = _
    rw [this, show n + 1 + i = n + (i + 1) by omega]
def iEnum2 (a : MA) : MI := fun ρ S => (a ρ S).bind fun ds S1 => match ds with
  | [x] => match itD S1 x with
    | some p => if kOf S1 x = "str" then .bad else .ok (numD 0 p.1, p.2) S1
    | none => .bad
  | _ => .bad
theorem wk_enum {K : PySem.W.Frag} {io : List Addr} {H : Hp} {k : Bool} {a : Addr} {ds : List D} {c1 : Sto → Bool} (p : SrcB K k a io H ds c1) : WkD K (ItN K k a) io H (numD 0 ds) c1 := by
  refine ⟨fun H' => ∃ xs, SqK K k H' a xs ∧ xs.length = ds.length, fun i H' v H2 => ∃ T x, v = .ref T ∧ H' T = none ∧ H2 = upd H' T (.tup [.int (i : Nat), x]) ∧ ∀ xs, SqK K k H' a xs → xs[i]? = some x, ?_, ?_, ?_⟩
  · rw [numD_len]
    refine ⟨fun i H' hi ⟨xs, q1, l1⟩ => ⟨xs, xs[i]'(by omega), q1, by simp⟩, fun H' ⟨xs, q1, l1⟩ => ⟨xs, q1, by omega⟩, fun i H' x H2 hi g y => y⟩
  · intro io' S' H' p1 m1 R' hc
    obtain ⟨xs, q1, r1⟩ := p.later io' S' H' p1 m1 R' hc
    exact ⟨xs, q1, r1.length⟩
  · intro i io' S' H' v H2 p1 m1 R' hc hi y
    obtain ⟨xs, q1, r1⟩ := p.later io' S' H' p1 m1 R' hc
    obtain ⟨T, x, rfl, hT, rfl, f1⟩ := y
    obtain ⟨d, e1, rd1⟩ := r1.back (f1 xs q1)
    refine ⟨.tup [.int (i : Nat), d], by rw [numD_get ds 0 i e1, Nat.zero_add], Mo.new hT, R'.tup hT, T, _, rfl, STr.of upd_same, (RDs.two (show RD K io' H' (.int (i : Nat)) (.int (i : Nat)) from rfl) rd1).mono (List.prefix_rfl) (Mo.new hT)⟩
section
variable {X : Cx} {C : Cn} {e : Expr} {ma : MA} {p pos tpos : Pos} {elts : List Expr} {kk : Nat}
theorem qi_enum (hm : X.mg "enumerate" = none) (ha : QA X C [e] ma) (hg : Gl X "enumerate" := by rfl) (hs : starEach [e] X.env = [(false, eval e X.env)] := by rfl) : QI X C (.Tuple elts kk tpos) (.Call (.Name "enumerate" p) [e] [] pos) (iEnum2 ma) := by
  refine ⟨fun pins s σ H R I h => ?_⟩
  obtain ⟨io, ρ, S, R0, re, h⟩ := h
  have ra : rdA X.K C ma σ H fun vs H1 => ∃ k a xs, vs = [V.ref a] ∧ SqK X.K k H1 a xs ∧ R (ItN X.K k a) H1 := by
    refine rdA_step R0 re h fun ds S1 io1 H1 vs p1 m1 R1 re1 q1 h1 => ?_
    split at h1
    · rename_i x
      split at h1
      · rename_i z e1
        split at h1
        · exact h1.elim
        · rename_i ns
          obtain ⟨v, rfl, r1⟩ := rds1 q1
          obtain ⟨k, a, rfl, s1⟩ := srcB_of R1 r1 e1 ns
          obtain ⟨xs, g1, _⟩ := s1.now
          exact ⟨k, a, xs, rfl, g1, h1.fin R1 (wk_enum s1)⟩
      · exact h1.elim
    · exact h1.elim
  refine Call_ (ld_blt I hg hm boot_enumerate (PyProof.Rows.callWith_type1 (thn (ha.run pos pins s σ H _ I ra) fun us s1 ⟨vs, H1, I1, r1, q1⟩ => ?_) hs rfl))
  obtain ⟨k, a, xs, rfl, g1, q⟩ := q1
  obtain ⟨u, rfl, ru⟩ := vals1 r1
  have ru : u = Value.ref a := ru
  subst ru
  obtain ⟨its, w1, b1⟩ := sqK_of I1 g1
  refine call_enumB b1 fun h' he hit hk => wpAny_pyIter_enum he ?_
  have I2 : Inv X pins σ H1 { s1 with heap := h' } := I1.kept (t' := s1.toks) hk
  refine ⟨s1.heap.objs.size + 1, [s1.heap.objs.size + 1, s1.heap.objs.size], _, _, H1, rfl, I2, turnN a (s1.heap.objs.size + 1) s1.heap.objs.size, ⟨⟨.none, he⟩, hit, Nat.succ_ne_self _⟩, fun b hb => ?_, q⟩
  have e' : b = s1.heap.objs.size + 1 ∨ b = s1.heap.objs.size := by simpa using hb
  have hle : s1.heap.objs.size ≤ b := by
    rcases e' with z | z
    · rw [z]; exact Nat.le_add_right _ _
    · rw [z]; exact Nat.le_refl _
  exact I1.fpOk hle (I1.hok.fresh hle)
end
end Mn
set_option Elab.async false
set_option linter.all false
set_option maxRecDepth 100000
set_option maxHeartbeats 4000000
namespace Mn
open PySem PySem.Spec PyProof.Rows L2
end Mn
namespace Mn
/-- turns of a while loop, at most -/
def wN : Nat := 1000000
end Mn
set_option Elab.async false
set_option linter.all false
set_option maxRecDepth 100000
set_option maxHeartbeats 4000000
namespace Mn
open PySem PySem.Spec PyProof.Rows L2
/-- {} for paths -/
def mNewT : M := fun ρ S => .ok (.ref S.length) (S ++ [.dtt []])
section
variable {X : Cx} {C : Cn} {o i e : Expr} {mo mi me : M} {pos pos' : Pos}
theorem qe_newT : QE X C (.Dict [] [] pos) mNewT := by
  refine PE_imp pe_dnewT ?_
  rintro σ H Q ⟨io, ρ, S, R, re, h⟩ p hp
  have pp : io <+: io ++ [p] := List.prefix_append _ _
  refine h.finP pp (Mo.new hp) (R.new hp ⟨_, upd_same, rfl⟩) ⟨p, rfl, ?_⟩
  rw [← R.len]
  exact List.getElem?_concat_length
end
end Mn
set_option Elab.async false
set_option linter.all false
set_option maxRecDepth 100000
set_option maxHeartbeats 4000000
namespace MnT
open PySem PySem.W PySem.Calls PyProof.Rows SrtO
def IsInts (h : Heap) (v : Value) (ns : List Int) : Prop := ∃ (a : Addr) (o : Obj) (its : Array Value) (n : Nat), v = .ref a ∧ h.get? a = some o ∧ o.cls = .type "tuple" ∧ o.data = .seq its n ∧ IntsAre its.toList ns
theorem IsInts.keeps {h h' : Heap} {v : Value} {ns : List Int} (x : IsInts h v ns) (k : ∀ b o, v = .ref b → o.cls = .type "tuple" → h.get? b = some o → h'.get? b = some o) : IsInts h' v ns := by
  obtain ⟨a, o, its, n, e, g, c, d, i⟩ := x
  exact ⟨a, o, its, n, e, k _ _ e c g, c, d, i⟩
end MnT
namespace Mn
open PySem PySem.Spec PyProof.Rows L2
end Mn
set_option Elab.async false
set_option linter.all false
set_option maxRecDepth 100000
set_option maxHeartbeats 4000000
namespace Mn
open PySem PySem.Spec PyProof.Rows L2
end Mn
set_option Elab.async false
set_option linter.all false
set_option maxRecDepth 100000
set_option maxHeartbeats 4000000
namespace Mn
open PySem PySem.Spec PyProof.Rows L2
end Mn
set_option Elab.async false
set_option linter.all false
set_option maxRecDepth 100000
set_option maxHeartbeats 4000000
namespace Mn
open PySem PySem.Spec PyProof.Rows L2
/-- a key as data -/
def keyP : Key → PyData
  | .inl i => .int i
  | .inr x => .str x
mutual
/-- what can be shown: dicts by texts and ints, too -/
inductive DpX (K : PySem.W.Frag) (H : Hp) : V → PyData → Prop
  | non : DpX K H .non .none
  | bl (b : Bool) : DpX K H (.bl b) (.bool b)
  | int (i : Int) : DpX K H (.int i) (.int i)
  | str (x : Str) : DpX K H (.str x) (.str x)
  | lst {a : Addr} {xs : List V} {ds : List PyData} : SqL K H a xs → DpXs K H xs ds → DpX K H (.ref a) (.list ds)
  | tup {a : Addr} {xs : List V} {ds : List PyData} : SqT K H a xs → DpXs K H xs ds → DpX K H (.ref a) (.tuple ds)
  | dct {a : Addr} {ws : List (Key × V)} {kvs : List (PyData × PyData)} : H a = some (.dK ws) → kvs.map (·.1) = ws.map (fun q => keyP q.1) → DpXs K H (ws.map (·.2)) (kvs.map (·.2)) → DpX K H (.ref a) (.dict kvs)
  | dtt {a : Addr} : H a = some (.dT []) → DpX K H (.ref a) (.dict [])
inductive DpXs (K : PySem.W.Frag) (H : Hp) : List V → List PyData → Prop
  | nil : DpXs K H [] []
  | cons {v : V} {vs : List V} {d : PyData} {ds : List PyData} : DpX K H v d → DpXs K H vs ds → DpXs K H (v :: vs) (d :: ds)
end
/-- the modules' dict is written -/
def smB (K : PySem.W.Frag) : Bool := match K.lookup sysModules with
  | some ⟨.type t, _, _, _⟩ => t == "dict"
  | _ => false
theorem smB_ok {K : PySem.W.Frag} (h : smB K = true) : ∃ o, K.lookup sysModules = some o ∧ o.cls = .type "dict" := by
  unfold smB at h
  split at h
  · rename_i t d x sl e
    have e2 := beq_iff_eq.mp h
    subst e2
    exact ⟨_, e, rfl⟩
  · cases h
section
variable {X : Cx} {pins : List (Addr × Obj)} {σ : L2.St} {H : Hp} {s : Shared}
theorem not_sm (hs : smB X.K = true) (I : Inv X pins σ H s) {a : Addr} {o : Obj} (ho : s.heap.get? a = some o) (hc : o.cls ≠ .type "dict") : a ≠ sysModules := fun z => by
  obtain ⟨o', e, hc'⟩ := smB_ok hs
  have q := I.kIn _ _ e
  rw [← z, ho] at q
  have q := Option.some.inj q
  subst q
  exact hc hc'
theorem keys_read {h : Heap} {P : Program} {w : World} {es : List DictEntry} {kvs : List (Key × Value)} (p : Pairs (mixKind P w) es kvs) : ReadsAll h (es.map (·.key)) (kvs.map fun q => keyP q.1) [] := by
  induction p with
  | nil => exact ReadsAll.nil
  | cons hk hv t ih =>
    rename_i e kv es kvs
    rcases keyIs_shape hk with ⟨i, t, e1, e2⟩ | ⟨x, t, e1, e2⟩
    · have r : Reads h e.key (keyP kv.1) [] := by
        rw [e1, e2]
        exact Reads.int i t
      exact ReadsAll.cons r ih
    · have r : Reads h e.key (keyP kv.1) [] := by
        rw [e1, e2]
        exact Reads.str x t
      exact ReadsAll.cons r ih
theorem pairs_val {P : Program} {w : World} {es : List DictEntry} {kvs : List (Key × Value)} (p : Pairs (mixKind P w) es kvs) : es.map (·.val) = kvs.map (·.2) := by
  induction p with
  | nil => rfl
  | cons hk hv t ih =>
    rw [List.map_cons, List.map_cons, hv, ih]
theorem kv_vals : ∀ {ws : List (Key × V)} {vs : List (Key × Value)}, KV ws vs → Vals (ws.map (·.2)) (vs.map (·.2)) ∧ ws.map (·.1) = vs.map (·.1)
  | _, _, .nil => ⟨.nil, rfl⟩
  | _, _, .cons r t => ⟨.cons r.2 (kv_vals t).1, by rw [List.map_cons, List.map_cons, r.1, (kv_vals t).2]⟩
mutual
theorem DpX.reads (hs : smB X.K = true) (I : Inv X pins σ H s) : ∀ {v : V} {d : PyData}, DpX X.K H v d → ∀ u : Value, RelV v u → ∃ as, Reads s.heap u d as ∧ sysModules ∉ as
  | _, _, .non, _, r => by
    cases r
    exact ⟨_, Reads.none, by simp⟩
  | _, _, .bl b, _, r => by
    cases r
    exact ⟨_, Reads.bool b, by simp⟩
  | _, _, .int i, _, r => by
    obtain ⟨t, rfl⟩ := r
    exact ⟨_, Reads.int i t, by simp⟩
  | _, _, .str x, _, r => by
    obtain ⟨t, rfl⟩ := r
    exact ⟨_, Reads.str x t, by simp⟩
  | _, _, .lst hq ha, _, r => by
    cases r
    obtain ⟨its, rv, ⟨o, n, ho, hc, _, hd⟩, _⟩ := I.list hq
    obtain ⟨as, hr, hn⟩ := DpXs.reads hs I ha its rv
    refine ⟨_, Reads.list ho hc hd hr, fun z => ?_⟩
    rcases List.mem_cons.mp z with z | z
    · exact not_sm hs I ho (by rw [hc]; decide) z.symm
    · exact hn z
  | _, _, .tup hq ha, _, r => by
    cases r
    obtain ⟨its, rv, ⟨o, ho, hc, n, hd⟩, _⟩ := I.tuple hq
    obtain ⟨as, hr, hn⟩ := DpXs.reads hs I ha its rv
    exact ⟨_, Reads.tuple ho hc hd hr, hn⟩
  | _, _, .dct (a := a) (ws := ws) (kvs := kvs) ha hk hd, _, r => by
    cases r
    have z : ObjOk X.prog X.w H s.heap a (.dK ws) := I.hok a _ ha
    obtain ⟨_, nsm, vs, kv, o, es, ep, ho, hx, hdt, _, hp, _⟩ := z
    obtain ⟨rv, ek⟩ := kv_vals kv
    obtain ⟨as, hr, hn⟩ := DpXs.reads hs I hd _ rv
    have kr := keys_read (h := s.heap) hp
    have e1 : kvs.map (·.1) = vs.map fun q => keyP q.1 := by
      rw [hk]
      have q : (ws.map (·.1)).map keyP = (vs.map (·.1)).map keyP := by rw [ek]
      rw [List.map_map, List.map_map] at q
      exact q
    rw [← e1] at kr
    rw [← pairs_val hp] at hr
    refine ⟨_, Reads.dict ho hx.1 hdt kr hr, fun z => ?_⟩
    rcases List.mem_append.mp z with z | z
    · rcases List.mem_cons.mp z with z | z
      · rw [← z] at nsm
        simp at nsm
      · cases z
    · exact hn z
  | _, _, .dtt (a := a) ha, _, r => by
    cases r
    have z : ObjOk X.prog X.w H s.heap a (.dT []) := I.hok a _ ha
    obtain ⟨_, nsm, xs, px, o, es, ep, ho, hx, hdt, he, _⟩ := z
    cases px
    have he : es.toList = [] := he
    refine ⟨[a] ++ [], Reads.dict ho hx.1 hdt (by rw [he]; exact ReadsAll.nil) (by rw [he]; exact ReadsAll.nil), fun z => ?_⟩
    have z : sysModules = a := by simpa using z
    rw [← z] at nsm
    simp at nsm
theorem DpXs.reads (hs : smB X.K = true) (I : Inv X pins σ H s) : ∀ {vs : List V} {ds : List PyData}, DpXs X.K H vs ds → ∀ us : List Value, Vals vs us → ∃ as, ReadsAll s.heap us ds as ∧ sysModules ∉ as
  | _, _, .nil, _, r => by
    cases r
    exact ⟨_, ReadsAll.nil, by simp⟩
  | _, _, .cons h1 h2, _, r => by
    cases r with
    | cons r1 r2 =>
      obtain ⟨as, q1, n1⟩ := DpX.reads hs I h1 _ r1
      obtain ⟨bs, q2, n2⟩ := DpXs.reads hs I h2 _ r2
      exact ⟨_, ReadsAll.cons q1 q2, fun z => (List.mem_append.mp z).elim n1 n2⟩
end
end
def pyX : Nat → Sto → Nat → Option PyData
  | 0, _, _ => none
  | k + 1, S, n => match S[n]? with
    | some (.lst ds) => (D.pysG (pyX k S) ds).map .list
    | some (.dct kvs) => (D.pysG (pyX k S) (kvs.map (·.2))).map fun ps => .dict ((kvs.map fun q => keyP q.1).zip ps)
    | some (.dtt []) => some (.dict [])
    | _ => none
def pyDX (S : Sto) (d : D) : Option PyData := d.pyG (pyX 40 S)
mutual
theorem dpx_of {K : PySem.W.Frag} {io : List Addr} {H : Hp} {f : Nat → Option PyData} (hf : ∀ n p a, f n = some p → io[n]? = some a → DpX K H (.ref a) p) : ∀ {d : D} {v : V} {p : PyData}, RD K io H d v → d.pyG f = some p → DpX K H v p
  | .non, v, p, q, h => by
    have q : v = _ := q; subst q
    have h : some _ = some p := h
    injection h with h; subst h
    exact .non
  | .bl b, v, p, q, h => by
    have q : v = _ := q; subst q
    have h : some _ = some p := h
    injection h with h; subst h
    exact .bl _
  | .int b, v, p, q, h => by
    have q : v = _ := q; subst q
    have h : some _ = some p := h
    injection h with h; subst h
    exact .int _
  | .str b, v, p, q, h => by
    have q : v = _ := q; subst q
    have h : some _ = some p := h
    injection h with h; subst h
    exact .str _
  | .tup ds, v, p, q, h => by
    obtain ⟨a, xs, rfl, hs, rs⟩ := q
    obtain ⟨ps, hp, rfl⟩ := Option.map_eq_some_iff.mp (show (D.pysG f ds).map PyData.tuple = some p from h)
    exact .tup hs.1 (dpxs_of hf rs hp)
  | .fls ds, v, p, q, h => by
    obtain ⟨a, xs, rfl, hs, rs⟩ := q
    obtain ⟨ps, hp, rfl⟩ := Option.map_eq_some_iff.mp (show (D.pysG f ds).map PyData.list = some p from h)
    exact .lst hs.sq (dpxs_of hf rs hp)
  | .ref n, v, p, q, h => by
    obtain ⟨a, rfl, ha⟩ := q
    exact hf n p a h ha
theorem dpxs_of {K : PySem.W.Frag} {io : List Addr} {H : Hp} {f : Nat → Option PyData} (hf : ∀ n p a, f n = some p → io[n]? = some a → DpX K H (.ref a) p) : ∀ {ds : List D} {vs : List V} {ps : List PyData}, RDs K io H ds vs → D.pysG f ds = some ps → DpXs K H vs ps
  | [], vs, ps, q, h => by
    have q : vs = [] := q; subst q
    have h : some [] = some ps := h
    injection h with h; subst h
    exact .nil
  | d :: r, vs, ps, ⟨v, t, e, q1, q2⟩, h => by
    subst e
    unfold D.pysG at h
    split at h
    · rename_i p ps' h1 h2
      injection h with h; subst h
      exact .cons (dpx_of hf q1 h1) (dpxs_of hf q2 h2)
    · cases h
end
theorem rks_vals {K : PySem.W.Frag} {io : List Addr} {H : Hp} : ∀ {ds : List (Key × D)} {ws : List (Key × V)}, RKs K io H ds ws → RDs K io H (ds.map (·.2)) (ws.map (·.2)) ∧ ds.map (·.1) = ws.map (·.1)
  | [], _, h => by
    have h : _ = [] := h
    subst h
    exact ⟨rfl, rfl⟩
  | (k, d) :: r, _, ⟨v, t, e, h1, h2⟩ => by
    subst e
    obtain ⟨q1, q2⟩ := rks_vals h2
    exact ⟨⟨v, _, rfl, h1, q1⟩, by rw [List.map_cons, List.map_cons, q2]⟩
theorem pysX_len {f : Nat → Option PyData} : ∀ {ds : List D} {ps : List PyData}, D.pysG f ds = some ps → ps.length = ds.length
  | [], ps, h => by
    have h : some [] = some ps := h
    injection h with h
    subst h
    rfl
  | d :: r, ps, h => by
    unfold D.pysG at h
    split at h
    · rename_i p ps' h1 h2
      injection h with h
      subst h
      rw [List.length_cons, List.length_cons, pysX_len h2]
    · cases h
theorem pyX_ok {K : PySem.W.Frag} {io : List Addr} {H : Hp} {S : Sto} (R : Rep K io S H) : ∀ (k n : Nat) (p : PyData) (a : Addr), pyX k S n = some p → io[n]? = some a → DpX K H (.ref a) p
  | 0, _, _, _, h, _ => by cases h
  | k + 1, n, p, a, h, ha => by
    unfold pyX at h
    split at h
    · rename_i ds hs
      obtain ⟨ps, hp, rfl⟩ := Option.map_eq_some_iff.mp h
      obtain ⟨xs, hx, rs⟩ := R.ob _ _ _ hs ha
      exact .lst (SqL.of hx) (dpxs_of (pyX_ok R k) rs hp)
    · rename_i kvs hs
      obtain ⟨ps, hp, rfl⟩ := Option.map_eq_some_iff.mp h
      obtain ⟨ws, hw, rk⟩ := R.ob _ _ _ hs ha
      obtain ⟨rv, ek⟩ := rks_vals rk
      have hl := pysX_len hp
      rw [List.length_map] at hl
      refine .dct hw ?_ ?_
      · rw [List.map_fst_zip (by rw [List.length_map, hl]; exact Nat.le_refl _)]
        have q : (kvs.map (·.1)).map keyP = (ws.map (·.1)).map keyP := by rw [ek]
        rw [List.map_map, List.map_map] at q
        exact q
      · rw [List.map_snd_zip (by rw [List.length_map, hl]; exact Nat.le_refl _)]
        exact dpxs_of (pyX_ok R k) rv hp
    · rename_i hs
      injection h with h
      subst h
      obtain ⟨ws, hw, rk⟩ := R.ob _ _ _ hs ha
      have rk : ws = [] := rk
      subst rk
      exact .dtt hw
    · cases h
def cReprX : F := fun ds S => match ds with
  | [d] => match pyDX S d with
    | some p => if (p.showable && decide (p.shown.length ≤ sizeLine) && decide (p.depth ≤ 150)) = true then .ok (.str p.shown) S else .bad
    | none => .bad
  | _ => .bad
section
variable {X : Cx}
theorem cs_reprX (hs : smB X.K = true) (hu : X.A.units + 152 ≤ cLine) (hg : X.A.guards = some []) : CaS X (.builtin "repr") cReprX := by
  intro pins s σ H xs us Q I r h
  obtain ⟨cl, W, io, S, ds, R, q, z⟩ := h
  unfold cReprX at z
  split at z
  · split at z
    · rename_i d p hp
      split at z
      · rename_i hc
        rw [Bool.and_eq_true, Bool.and_eq_true] at hc
        obtain ⟨⟨c1, c2⟩, c3⟩ := hc
        have c2 := of_decide_eq_true c2
        have c3 := of_decide_eq_true c3
        obtain ⟨v, rfl, q0⟩ := rds1 q
        have fin : ∀ h' u tk, (∀ b o, s.heap.get? b = some o → h'.get? b = some o) → EP X pins σ Q (.str p.shown u) { s with heap := h', toks := tk } := fun h' u tk hk =>
          ⟨.str p.shown, H, I.kept hk, ⟨_, rfl⟩, z.fin R rfl⟩
        have fin0 : EP X pins σ Q (.str p.shown s.toks) { s with toks := s.toks + 1 } := ⟨.str p.shown, H, I.tok _, ⟨_, rfl⟩, z.fin R rfl⟩
        have dp := dpx_of (f := pyX 40 S) (pyX_ok R 40) q0 hp
        obtain ⟨u, rfl, ru⟩ := vals1 r
        obtain ⟨as, rr, nsm⟩ := DpX.reads hs I dp u ru
        cases dp with
        | non =>
          have ru : u = _ := ru
          subst ru
          exact PySem.P.repr_of_none fin0
        | bl b =>
          have ru : u = _ := ru
          subst ru
          exact PySem.P.repr_of_bool fin0
        | int i =>
          obtain ⟨t, rfl⟩ := ru
          exact PySem.P.repr_of_int (by simpa [PyData.showable] using c1) fin0
        | str x =>
          obtain ⟨t, rfl⟩ := ru
          exact PySem.P.repr_of_str fin0 c2
        | lst _ _ =>
          have ru : u = _ := ru
          subst ru
          exact repr_of_reads' rr c1 (fun _ => nsm) hg (by omega) (fun _ _ e => e) fin c2
        | tup _ _ =>
          have ru : u = _ := ru
          subst ru
          exact repr_of_reads' rr c1 (fun _ => nsm) hg (by omega) (fun _ _ e => e) fin c2
        | dct _ _ _ =>
          have ru : u = _ := ru
          subst ru
          exact repr_of_reads' rr c1 (fun _ => nsm) hg (by omega) (fun _ _ e => e) fin c2
        | dtt _ =>
          have ru : u = _ := ru
          subst ru
          exact repr_of_reads' rr c1 (fun _ => nsm) hg (by omega) (fun _ _ e => e) fin c2
      · exact z.elim
    · exact z.elim
  · exact z.elim
end
end Mn
set_option Elab.async false
set_option linter.all false
set_option maxRecDepth 100000
set_option maxHeartbeats 4000000
namespace Mn
open PySem PySem.Spec PyProof.Rows L2
/-- the text of such an __init__ -/
abbrev xcBody (a f : Str) (p0 p1 p2 p3 p4 p5 q0 q1 q2 q3 : Pos) : List Stmt :=
  [.Expr (.Call (.Attribute (.Call (.Name "super" p0) [] [] p1) "__init__" p2) [.Name a p3] [] p4) p5, .Assign [.Attribute (.Name "self" q0) f q1] (.Name a q2) q3]
section
open PySem.W PySem.Calls
variable {prog : Program} {w : World} {A : Around} {R : Result → Shared → Prop} {K : Frag} {hp : Heap} {g : Array GenState} {dr : Drawn} {tk : Nat} {os : OsState}
variable {nm q : Str} {C N : Addr} {bs bm : List Value} {sn : List Str} {sub : List Value} {ab : Bool} {col : Option Bool} {dd : Option Addr} {k0 k1 k2 k3 k5 : Option Value}
variable {name qual : Str} {params : Arguments} {scope : Scope} {dV kV doc pm ct oc : Value} {an od : Option Addr} {osl : Array (Option Value)} {fI cc cda : Addr} {a f : Str} {p0 p1 p2 p3 p4 p5 q0 q1 q2 q3 : Pos}
theorem xc_init {e t0 : Addr} {u : Value} {args : Args} {mg mb : Str → Option Value} {vs : Array Value} {file : Str} {tf : Tok} {ccl cl : Value} {cdd cld : Option Addr} {ccs csl : Array (Option Value)} {ar : Arg}
    (X : K.In hp) (hg : hp.Ns mainGlobals mg) (hmg : mg "super" = none) (hb : hp.Ns builtinsNs mb) (hmb : mb "super" = some (.type "super")) (hlim : hp.NoLimit) (hroom : A.depth < recursionLimit)
    (hC : K.lookup C = some (excClassObj nm q C N bs bm true sn sub ab col dd k0 k1 k2 k3 k5 "ValueError.__new__")) (hbm : PySem.HandSPX.refsVE bm = true)
    (hsa : findIn K (.ref C) "__setattr__" = some (some (.builtin "object.__setattr__"))) (hno : findIn K (.ref C) f = some none)
    (hsup : alongIn K "__init__" (((Value.ref C :: bm).dropWhile (· != .ref C)).drop 1) = some (some (.builtin "ValueError.__init__")))
    (hop : nsIn K cStatics "thirdparty.any" = some none) (hB : subIn K (.ref C) (.type "ValueError") = some true) (hCC : mroIn K C (.ref C) = some true)
    (hf : K.lookup fI = some ⟨oc, od, .func (ksFn name qual params (xcBody a f p0 p1 p2 p3 p4 p5 q0 q1 q2 q3) scope dV kV doc pm an (.ref cda) ct cc), osl⟩) (hcd : codeIn K (.ref cda) qual = true)
    (hcode : K.lookup cda = some ⟨ccl, cdd, .fields vs, ccs⟩) (hvs : vs[2]? = some (.str file tf)) (hfile : ((prog.main.file : Str) == file) = true)
    (hcell : K.lookup cc = some ⟨cl, cld, .cell (some (.ref C)), csl⟩) (htop : (prog.main.scope.names.lookup ("super" : Str)).isSome = false)
    (hp0 : (params.posonlyargs ++ params.args).head? = some ar) (har : ar.arg = "self") (hsw : a ≠ "self")
    (hks : scope.names.lookup ("super" : Str) = some .globalImplicit) (hkc : scope.names.lookup ("__class__" : Str) = some .free) (hkS : scope.names.lookup ("self" : Str) = some .local) (hkA : scope.names.lookup a = some .local)
    (hk : scope.kind = .function) (hco : scope.isCoroutine = false) (hgen : scope.isGenerator = false) (hcl : ∀ x ∈ scope.names, x.2 ≠ .cell) (hda : (a == ("__debug__" : Str)) = false)
    {pl : Sem Bool} (hev : ∀ env : Env, eval (.Call (.Attribute (.Call (.Name "super" p0) [] [] p1) "__init__" p2) [.Name a p3] [] p4) env = (do
      let ov ← attributeBase (.Call (.Name "super" p0) [] [] p1) "__init__" env (eval (.Call (.Name "super" p0) [] [] p1) env)
      standAt p2.atName
      let (f, first) ← holding [ov] (getMethod ov "__init__" pl)
      callWith p4 f first (backTo p4 (starEach [.Name a p3] env)) []))
    (he : hp.get? e = some (PySem.HandSPX.excO C t0)) (ne_ : ∀ b o, K.lookup b = some o → b ≠ e)
    (hbind : BindsTo ⟨hp, g, dr, tk, os⟩ (ksFn name qual params (xcBody a f p0 p1 p2 p3 p4 p5 q0 q1 q2 q3) scope dV kV doc pm an (.ref cda) ct cc) args [("self", .ref e), (a, u)])
    (hq : ∀ h' tk' dx t1, (∀ b o, b ≠ e → hp.get? b = some o → h'.get? b = some o) → hp.objs.size ≤ dx → dx ≠ e →
      h'.get? e = some ({ cls := .ref C, dict := some dx, data := .fields #[.ref t1, .none, .none, .none, .bool false, .none] } : Obj) →
      h'.Ns1 dx (fun y => if y = f then some u else none) → R (.ok (.ret .none)) ⟨h', g, dr, tk', os⟩) :
    codeAny (model prog w) A (.call (.ref fI) args) R ⟨hp, g, dr, tk, os⟩ := by
  have hclC : clsIn K C = some { name := nm, bases := bs, mro := .ref C :: bm, ns := N, qualname := q, hasDict := true, slotNames := sn, subclasses := sub, abstract := ab, collection := col, hasDel := false } := by unfold clsIn; rw [hC] <;> rfl
  refine PySem.ks_codeAny_call_defAt (fd := ksFn name qual params (xcBody a f p0 p1 p2 p3 p4 p5 q0 q1 q2 q3) scope dV kV doc pm an (.ref cda) ct cc) (binds := [("self", .ref e), (a, u)]) hroom (X _ _ hf) rfl hlim (codeRec_of X hcd) rfl hbind hcl ?_ (fun h₁ hns hkk => ?_) hco hgen hk
  · intro x hx
    rcases List.mem_cons.mp hx with rfl | hx
    · exact hkS
    · rcases List.mem_cons.mp hx with rfl | hx
      · exact hkA
      · cases hx
  have eL : (callEnv (ksFn name qual params (xcBody a f p0 p1 p2 p3 p4 p5 q0 q1 q2 q3) scope dV kV doc pm an (.ref cda) ct cc) hp.objs.size fI) = ksEnv qual scope hp.objs.size fI (.ref cda) cc := rfl
  have vS : ([("self", Value.ref e), (a, u)] : List (Str × Value)).reverse.lookup ("self" : Str) = some (Value.ref e) := by
    have z : (("self" : Str) == a) = false := by simpa using fun h => hsw h.symm
    simp [List.lookup, z]
  have vA : ([("self", Value.ref e), (a, u)] : List (Str × Value)).reverse.lookup a = some u := by simp [List.lookup]
  have X1 : K.In h₁ := X.keeps hkk
  have g1 : h₁.Ns mainGlobals mg := hg.keeps hkk
  have b1 : h₁.Ns builtinsNs mb := hb.keeps hkk
  have he1 := hkk _ _ he
  show _root_.PySem.wpAt _ (A.deeper (ksEnv qual scope hp.objs.size fI (.ref cda) cc)) (.func _ (ksEnv qual scope hp.objs.size fI (.ref cda) cc)) (execs _ (ksEnv qual scope hp.objs.size fI (.ref cda) cc)) _ _ _
  have S1 : ∀ {Q : Flow → Shared → Prop} {E : Value → Shared → Prop}, (∀ h' t1 tk', (∀ b o, b ≠ e → h₁.get? b = some o → h'.get? b = some o) → h'.get? e = some (PySem.HandSPX.excO C t1) → Q .next ⟨h', g, dr, tk', os⟩) →
      _root_.PySem.wpAt (model prog w) (A.deeper (ksEnv qual scope hp.objs.size fI (.ref cda) cc)) (.func (xcBody a f p0 p1 p2 p3 p4 p5 q0 q1 q2 q3) (ksEnv qual scope hp.objs.size fI (.ref cda) cc))
        (exec (.Expr (.Call (.Attribute (.Call (.Name "super" p0) [] [] p1) "__init__" p2) [.Name a p3] [] p4) p5) (ksEnv qual scope hp.objs.size fI (.ref cda) cc)) Q E ⟨h₁, g, dr, tk + 2, os⟩ := fun {Q E} hQ => by
    have hsub : Looks (model prog w) h₁ (isSubtype (.ref C) (.ref C)) true := looks_mroIn X1 hCC
    refine PySem.ks_wpAt_Expr_any ?_ ?_ ?_
    · refine PySem.ks_wpAt_MethodCall (pl := pl) ?_ (hev _)
      refine PySem.ks_wpAt_super_base (env := ksEnv qual scope hp.objs.size fI (.ref cda) cc) hks hkc (by decide) rfl (X1 _ _ hf) rfl hp0 rfl (X1 _ _ hcode) rfl hvs hfile htop ?_
      refine ks_loadName_global hk hks (loadGlobal_builtin (env := ksEnv qual scope hp.objs.size fI (.ref cda) cc) g1 hmg b1 hmb ⟨rfl, ?_⟩)
      refine wpAny_loadName_free hk hkc rfl ⟨_, X1 _ _ hcell, rfl⟩ ?_
      rw [har]
      refine wpAny_loadName_local hk hkS hns vS ?_
      refine PySem.ks_wpAny_isType_cls (X1 _ _ hC) rfl ⟨rfl, ?_⟩
      refine PySem.ks_wpAny_call_super (X1 _ _ hC) rfl he1 rfl (fun c z => by cases z) hsub (fun h2 e2 k2 => ?_)
      have X2 : K.In h2 := X1.keeps k2
      have he2 := k2 _ _ he1
      have I2 : InstAt h2 e (PySem.HandSPX.excO C t0) C none := ⟨he2, rfl, rfl, trivial⟩
      have hI : Looks (model prog w) h2 (isInstance (.ref e) (.type "ValueError")) true := I2.type.andThen (looks_subIn X2 hB)
      refine kxs_getMethod kxs_ValueError e2 (looks_opaque X2 hop) (l₀ := .ref C :: bm) ?_ rfl X2 hsup hI (ks_ne X2 I2 hclC) (by decide) ?_
      · exact fun A Q E s k q => wpAny_bind ((looks_clsIn X2 hclC) A _ E s k (wpAny_pure q))
      have he3 : (h2.push (kxs_mw "ValueError.__init__" e)).get? e = some (PySem.HandSPX.excO C t0) := Heap.get?_push_of_some _ he2
      have hmw : (h2.push (kxs_mw "ValueError.__init__" e)).get? h2.objs.size = some (kxs_mw "ValueError.__init__" e) := Heap.get?_push_at rfl rfl
      have hns3 : (h2.push (kxs_mw "ValueError.__init__" e)).Ns hp.objs.size (fun y => ([("self", Value.ref e), (a, u)] : List (Str × Value)).reverse.lookup y) := hns.keeps fun b o z => Heap.get?_push_of_some _ (k2 b o z)
      refine kxs_callWith (i := "ValueError.__init__") (x := e) rfl (evalArgs_plain (spliced_cons ?_))
      refine wpAny_Name (wpAny_loadName_local hk hkA hns3 vA ?_) hda
      refine spliced_nil ⟨hmw, ?_⟩
      show wpAny _ _ (call (.ref h2.objs.size) [u]) _ _ _
      refine wpAny_call (codeAny_of_tree ?_)
      show wpAny _ _ (callAny (.ref h2.objs.size) ⟨[u], []⟩) _ _ _
      simp only [callAny]
      refine wpAny_bind (wpAny_load hmw ?_)
      simp only [kxs_mw, show (Value.type "method-wrapper" == Value.type "method" || Value.type "method-wrapper" == Value.type "builtin_function_or_method" || Value.type "method-wrapper" == Value.type "method-wrapper") = true by decide, if_true]
      refine KFB.if_so (by decide) ?_
      refine wpAny_bind (check_bound_init F.excBase_ValueError.toExcCallFacts (X2.keeps (fun b o z => Heap.get?_push_of_some _ z) _ _ hC) he3 rfl ?_)
      refine wpAny_bind (wpAny_pure (wpAny_pure ?_))
      refine ⟨plainId_quiet F.excBase_ValueError.init.plain _, codeAny_builtin F.excBase_ValueError.initEntry ?_⟩
      refine exc_init_tree (rest := [u]) (cls := .ref C) (t0 := t0) (dv := none) (c2 := .none) (c3 := .none) (b4 := .bool false) he3 (by show 1 ≤ sizeLine; rw [sizeLine_eq]; omega) fun h' kb e' _ => ?_
      exact hQ h' _ _ (fun b o n z => kb b o n (Heap.get?_push_of_some _ (k2 b o z))) e'
    · simp [interactive, hk]
    · rfl
  refine PySem.ks_wpAt_execs_cons (S1 fun h2 t1 tk2 k2 e2 => ?_)
  have nL : hp.objs.size ≠ e := Nat.ne_of_gt (Heap.lt_size he)
  have X2 : K.In h2 := fun b o z => k2 b o (ne_ b o z) (X1 b o z)
  have hns2 : h2.Ns hp.objs.size (fun y => ([("self", Value.ref e), (a, u)] : List (Str × Value)).reverse.lookup y) := by
    obtain ⟨oL, es, ep, hL, r⟩ := hns
    exact ⟨oL, es, ep, k2 _ _ nL hL, r⟩
  refine PySem.ks_wpAt_execs_cons (PySem.ks_wpAt_Assign_Attr ?_ ?_)
  · refine wpAt_of_wpAny (wpAny_Name (wpAny_loadName_local hk hkA hns2 vA ?_) hda)
    refine wpAny_Name (wpAny_loadName_local hk hkS hns2 vS ?_) (by decide)
    refine set_plain X2 (ox := PySem.HandSPX.excO C t1) (od := none) ⟨e2, rfl, rfl, trivial⟩ hsa ?_
    refine PySem.HandSPX.exc_osa X2 e2 hclC (show PySem.HandSPX.refsVE (.ref C :: bm) = true from hbm) rfl hno (fun h' tk' dx k dn dne hx hn => ?_)
    have hLt : hp.objs.size < h2.objs.size := by
      obtain ⟨oL, es, ep, hL, r⟩ := hns2
      exact Heap.lt_size hL
    show _root_.PySem.wpAt (model prog w) _ _ (execs [] _) _ _ _
    refine wpAt_of_wpAny ?_
    rw [execs_nil]
    refine wpAny_pure ?_
    exact hq h' _ dx t1 (fun b o n z => k b o n (k2 b o n (hkk b o z))) (Nat.le_trans (Nat.le_of_lt hLt) dn) dne hx hn
  · rfl
end
/-- what the making of C(x) asks: of the class, of its __init__ at fI (its own name for x: a), which keeps x as f -/
structure XcC (K : PySem.W.Frag) (P : Program) (C : Addr) (a f : Str) : Prop where
  oex : OexC K C
  ini : ∃ (fI : Addr) (fd : FuncData), PySem.W.findIn K (.ref C) "__init__" = some (some (.ref fI)) ∧ PySem.W.typeIn K (.ref fI) = some (.type "function") ∧ Binds K fd ["self", a] [] ∧ (∀ (s : Shared) (x u : Value), K.In s.heap → BindsTo s fd ⟨[x], [(a, u)]⟩ [("self", x), (a, u)]) ∧
    ∀ (w : World) (A : Around) (R : Result → Shared → Prop) (hp : Heap) (g : Array GenState) (dr : Drawn) (tk : Nat) (os : OsState) (mg mb : Str → Option Value) (e t0 : Addr) (u : Value) (args : Args),
      K.In hp → hp.Ns mainGlobals mg → mg "super" = none → hp.Ns builtinsNs mb → mb "super" = some (.type "super") → hp.NoLimit → A.depth < recursionLimit → hp.get? e = some (PySem.HandSPX.excO C t0) → (∀ b o, K.lookup b = some o → b ≠ e) →
      BindsTo ⟨hp, g, dr, tk, os⟩ fd args [("self", .ref e), (a, u)] →
      (∀ h' tk' dx t1, (∀ b o, b ≠ e → hp.get? b = some o → h'.get? b = some o) → hp.objs.size ≤ dx → dx ≠ e →
        h'.get? e = some ({ cls := .ref C, dict := some dx, data := .fields #[.ref t1, .none, .none, .none, .bool false, .none] } : Obj) →
        h'.Ns1 dx (fun y => if y = f then some u else none) → R (.ok (.ret .none)) ⟨h', g, dr, tk', os⟩) →
      codeAny (model P w) A (.call (.ref fI) args) R ⟨hp, g, dr, tk, os⟩
section
variable {X : Cx} {pins : List (Addr × Obj)} {σ : L2.St} {H : Hp} {s : Shared}
/-- C(x): a new exception at a, its dict at dx, which nobody writes any more -/
theorem xc_make {C : Addr} {a f : Str} {v : V} {u : Value} {E : Value → Shared → Prop} {k : Nat} {Q : Value → Shared → Prop} (T : XcC X.K X.prog C a f) (I : Inv X pins σ H s) (ru : RelV v u) (hr : Room (k + 1) X.A) (hms : X.mg "super" = none)
    (hq : ∀ (e dx : Addr) (od : Obj) (s' : Shared), H e = none → H dx = none → dx ≠ e → Inv X pins σ (upd (upd H dx (.frz od (.xd [(f, v)]))) e (exo e C (some dx))) s' → Q (.ref e) s') :
    wpAny (model X.prog X.w) X.A (call (.ref C) [u]) Q E s := by
  obtain ⟨nm, q, N, bs, bm, sn, sub, ab, col, dd, k0, k1, k2, k3, k5, hC, hbm⟩ := T.oex.cls
  obtain ⟨fI, fd, iC, tI, hb, hbk, rule⟩ := T.ini
  obtain ⟨hp, g, dr, tk, os⟩ := s
  have kk : ∀ b o, hp.get? b = some o → ((hp.push (PySem.W.kdv_tup [u])).push (PySem.HandSPX.excO C hp.objs.size)).get? b = some o := fun b o e => Heap.get?_push_of_some _ (Heap.get?_push_of_some _ e)
  have hget : ((hp.push (PySem.W.kdv_tup [u])).push (PySem.HandSPX.excO C hp.objs.size)).get? (hp.objs.size + 1) = some (PySem.HandSPX.excO C hp.objs.size) := by heap_get
  obtain ⟨mb, h1, h2⟩ := I.mod.blt
  have X2 : X.K.In ((hp.push (PySem.W.kdv_tup [u])).push (PySem.HandSPX.excO C hp.objs.size)) := I.kIn.keeps kk
  have hkb : ∀ b o, X.base.get? b = some o → ((hp.push (PySem.W.kdv_tup [u])).push (PySem.HandSPX.excO C hp.objs.size)).get? b = some o := fun b o e => kk b o (I.bk b o e)
  refine wpAny_call (PySem.HandSPX.call_own F.excBase_ValueError (fun Y => PySem.HandSPX.refsVE_contains Y bm hbm) (I.kIn _ _ hC) (PySem.W.looks_findIn I.kIn iC) (fun self => PySem.W.bind_fn I.kIn self tI) (by show 1 ≤ sizeLine; rw [sizeLine_eq]; omega)
    (rule X.w _ _ _ g dr tk os X.mg mb (hp.objs.size + 1) hp.objs.size u _ X2 (I.mod.glob.keeps hkb) hms (h1.keeps hkb) ((h2 "super" (by decide)).trans PyProof.Rows.Boot.«super») (I.mod.nolimit.keeps hkb) (hr.make C [u] []).depth hget
      (fun b o z => Nat.ne_of_lt (Nat.lt_succ_of_lt (Heap.lt_size (I.kIn b o z)))) (hb _ [.ref (hp.objs.size + 1), u] X2 rfl) fun h' tk' dx t1 kb dn dne he hn => ⟨rfl, ?_⟩))
  have hsz2 : hp.objs.size + 2 = ((hp.push (PySem.W.kdv_tup [u])).push (PySem.HandSPX.excO C hp.objs.size)).objs.size := by simp [Heap.push]
  have kO : ∀ b o, hp.get? b = some o → h'.get? b = some o := fun b o z => kb b o (Nat.ne_of_lt (Nat.lt_succ_of_lt (Heap.lt_size z))) (kk b o z)
  have ha : H (hp.objs.size + 1) = none := I.hok.fresh (Nat.le_succ _)
  have hdx : H dx = none := I.hok.fresh (by show hp.objs.size ≤ dx; omega)
  have la : ∀ b o, hp.get? b = some o → b ≠ hp.objs.size + 1 := fun b o z => Nat.ne_of_lt (Nat.lt_succ_of_lt (Heap.lt_size z))
  have ld : ∀ b o, hp.get? b = some o → b ≠ dx := fun b o z => Nat.ne_of_lt (Nat.lt_of_lt_of_le (Heap.lt_size z) (by omega))
  obtain ⟨od, hod⟩ : ∃ od, h'.get? dx = some od := by
    obtain ⟨o, _, _, e', _⟩ := hn
    exact ⟨o, e'⟩
  refine hq (hp.objs.size + 1) dx od ⟨h', g, dr, tk', os⟩ ha hdx dne ?_
  have U : Un X.fs [] H (upd (upd H dx (.frz od (.xd [(f, v)]))) (hp.objs.size + 1) (exo (hp.objs.size + 1) C (some dx))) hp h' := {
    keep := fun b o z n _ _ => kO b o z
    slot := fun b o z n _ _ => ⟨o.slots, kO b o z⟩
    free := fun b o z n _ => by rw [upd_ne (la b o z), upd_ne (ld b o z)]; exact n
    there := fun b o z _ => ⟨o, kO b o z⟩
    tups := fun b xs z => by rw [upd_ne (ne_of_none z ha), upd_ne (ne_of_none z hdx)]; exact z
    frzs := fun b o v z => by rw [upd_ne (ne_of_none z ha), upd_ne (ne_of_none z hdx)]; exact z
    tbls := fun b ps z => ⟨#[], by rw [upd_ne (ne_of_none z ha), upd_ne (ne_of_none z hdx), z]; simp⟩ }
  refine I.un (t' := tk') U fun b o z => ?_
  by_cases hb1 : b = hp.objs.size + 1
  · subst hb1
    rw [upd_same] at z
    cases z
    exact exo_ok he
  · rw [upd_ne hb1] at z
    by_cases hb2 : b = dx
    · subst hb2
      rw [upd_same] at z
      cases z
      exact ⟨hod, _, hn, relO_put (fs := []) ru fun g => True.intro⟩
    · rw [upd_ne hb2] at z
      exact (I.hok b o z).stay (fun c u _ y => kO c u y) (fun c y => by rw [upd_ne (ne_of_none y ha), upd_ne (ne_of_none y hdx)]; exact y) fun c xs y => by rw [upd_ne (ne_of_none y ha), upd_ne (ne_of_none y hdx)]; exact y
end
end Mn
set_option Elab.async false
set_option linter.all false
set_option maxRecDepth 100000
set_option maxHeartbeats 4000000
namespace PySem.W
open PySem PySem.Spec PySem.Calls PyProof.Rows
section
variable {prog : Program} {w : World} {A : Around} {E : Value → Shared → Prop} {s : Shared} {K : Frag} {x D : Addr} {ox : Obj} {od : Option Obj}
theorem xc_findObj {C : Addr} {name : Str} {a g : Value} (hc : (clsIn K C).isSome = true) (ha : findIn K (.ref C) name = some (some a)) (hg : specialIn K a "__get__" = some (some g)) (ht : takesIn K a = some true) : findObj K C od name = some (.bind g a) := by
  obtain ⟨cd, hc⟩ := Option.isSome_iff_exists.mp hc
  unfold findObj
  rw [hc, Option.bind_some, ha, Option.bind_some]
  simp [hg, ht]
theorem xc_classE {Q : Option Value → Shared → Prop} (hga : findIn K (.ref D) "__getattribute__" = some (some (.builtin "BaseException.__getattribute__"))) (hgt : findIn K (.ref D) "__getattr__" = some none) (hsub : subIn K (.ref D) (.type "BaseException") = some true)
    (hdct : hasDictIn K D = true) (ha : findIn K (.ref D) "__class__" = some (some (.builtin "object.__class__")))
    (hn : specialIn K (.builtin "object.__class__") "__get__" = some (some (.builtin "getset_descriptor.__get__"))) (htk : takesIn K (.builtin "object.__class__") = some true) (hm : mroIn K D (.type "object") = some true)
    (X : K.In s.heap) (I : InstAt s.heap x ox D od) (h : Q (some (.ref D)) { s with toks := s.toks + 1 }) : wpAny (model prog w) A (getAttr? (.ref x) "__class__") Q E s := by
  have hf : findObj K D od "__class__" = some (.bind (.builtin "getset_descriptor.__get__") (.builtin "object.__class__")) := xc_findObj (by obtain ⟨cd, hc, _⟩ := any_some hdct; rw [hc]; rfl) ha hn htk
  obtain ⟨hp, g, d, t, os⟩ := s
  have L0 := I.type (M := model prog w)
  have L1 := looks_findIn (M := model prog w) X hga
  have L2 := looks_findIn (M := model prog w) X hgt
  have L3 := looks_find (M := model prog w) X I hf
  have sub : Looks (model prog w) hp (isInstance (.ref x) (.type "BaseException")) true := L0.andThen (looks_subIn X hsub)
  have hx0 : (false && onTheHeap (Value.builtin "BaseException.__getattribute__")) = false := rfl
  have hx2 : (Value.builtin "BaseException.__getattribute__" == Value.builtin "object.__getattribute__") = false := by decide +kernel
  have hx1 : (onTheHeap (Value.ref D) && Value.builtin "BaseException.__getattribute__" == Value.builtin "object.__getattribute__") = false := by rw [hx2]; rfl
  unfold getAttr? getAttrBy? getAttrBy
  refine wpAny_bind (wpAny_mkText (wpAny_bind (wpAny_attempt (wpAny_holding (wpAny_bind (L0.at (wpAny_bind (L1.at ?_))))))))
  show wpAny _ _ (if (onTheHeap (Value.ref D) && Value.builtin "BaseException.__getattribute__" == Value.builtin "object.__getattribute__") = true then _ else _) _ _ _
  rw [hx1, if_neg Bool.false_ne_true]
  unfold getAttrByItsOwn hookBefore
  refine wpAny_bind ?_
  rw [if_pos (show onTheHeap (Value.ref D) = true from rfl)]
  refine L2.at ?_
  refine wpAny_bind (wpAny_attempt (wpAny_holding ?_))
  unfold callGetattribute
  rw [hx0, if_neg Bool.false_ne_true]
  unfold boundAndCalled
  rw [PySem.F.excAttr_ValueError.ga.bind (.ref x)]
  refine wpAny_bind (wpAny_pure ?_)
  show wpAny _ _ (call (.builtin "BaseException.__getattribute__") [.ref x, .str "__class__" t]) _ _ _
  refine wpAny_call (codeAny_call_builtin PySem.F.excAttr_ValueError.ga.plain PySem.F.entry_bexc_ga ?_)
  refine @check_slot (model prog w) _ _ ⟨hp, g, d, t + 1, os⟩ "BaseException.__getattribute__" "BaseException" "__getattribute__" (.ref x) [.str "__class__" t] [] _ (by decide +kernel) (by decide +kernel) sub (PySem.F.args_bexc_ga (.ref x) (.str "__class__" t)) ?_
  unfold Builtin.«object.__getattribute__»
  refine wpAny_bind (wpAny_of_eq (a := ((Value.ref x : Value), [Value.str "__class__" t])) (by first | rfl | (simp only [slotArgs]; rfl)) ?_)
  refine wpAny_bind (wpAny_pure (wpAny_bind (L0.at (wpAny_bind (L3.at ?_)))))
  show wpAny _ _ (holding [Value.builtin "object.__class__"] (call (.builtin "getset_descriptor.__get__") [.builtin "object.__class__", .ref x, .ref D]) >>= ret) _ _ _
  refine wpAny_bind (wpAny_holding (wpAny_call (class_get (s := ⟨hp, g, d, t + 1, os⟩) (ox := ox) (od := od) X I hm ?_)))
  refine wpAny_pure ?_
  show wpAny _ _ (handedOut (.ref D)) _ _ _
  rw [handedOut_of (v := .ref D) rfl]
  first
    | exact wpAny_pure (wpAny_pure h)
    | exact wpAny_pure h
    | exact wpAny_pure (wpAny_bind (wpAny_pure (wpAny_pure h)))
theorem xc_kitx (hga : findIn K (.ref D) "__getattribute__" = some (some (.builtin "BaseException.__getattribute__"))) (hgt : findIn K (.ref D) "__getattr__" = some none) (hsub : subIn K (.ref D) (.type "BaseException") = some true) (hdct : hasDictIn K D = true) (ha : findIn K (.ref D) "__class__" = some (some (.builtin "object.__class__")))
    (hn : specialIn K (.builtin "object.__class__") "__get__" = some (some (.builtin "getset_descriptor.__get__"))) (htk : takesIn K (.builtin "object.__class__") = some true) (hm : mroIn K D (.type "object") = some true) :
    KitX K (.ref x) (.ref D) (fun h => InstAt h x ox D od) where
  ty := fun _ _ _ I => I.type
  it := fun _ _ X _ => by
    obtain ⟨cdD, hcD, _⟩ := any_some hdct
    unfold clsIn at hcD
    split at hcD
    · rename_i c' d' cd' sl' ho
      intro A' Q' E' s' k q
      unfold isType loadHead
      exact wpAny_bind (wpAny_loadPart (k _ _ (X _ _ ho)) (wpAny_pure q))
    · cases hcD
  ne := fun h tp dd its n sl X htp => by
    obtain ⟨cdD, hcD, _⟩ := any_some hdct
    refine Bool.eq_false_iff.mpr fun q => ?_
    have e : D = tp := Value.ref.inj (beq_iff_eq.mp q)
    subst e
    unfold clsIn at hcD
    split at hcD
    · rename_i c' d' cd' sl' ho
      have z := (X _ _ ho).symm.trans htp
      cases z
    · cases hcD
  ca := fun X I k => xc_classE hga hgt hsub hdct ha hn htk hm X I k
end
end PySem.W
namespace Mn
open PySem PySem.Spec PyProof.Rows L2
/-- an exception of the store -/
def exnD (S : Sto) : D → Option (Str × List (Str × D))
  | .ref n => match S[n]? with
    | some (.exn c fs) => some (c, fs)
    | _ => none
  | _ => none
theorem exnD_eq {S : Sto} {d : D} {c : Str} {fs : List (Str × D)} (h : exnD S d = some (c, fs)) : ∃ n, d = .ref n ∧ S[n]? = some (.exn c fs) := by
  unfold exnD at h
  cases d with
  | ref n =>
    cases e : S[n]? with
    | none => simp [e] at h
    | some o =>
      cases o with
      | exn c' fs' =>
        simp [e] at h
        obtain ⟨rfl, rfl⟩ := h
        exact ⟨n, rfl, e⟩
      | _ => simp [e] at h
  | _ => cases h
/-- what isinstance asks of the class at D and of T, the thing asked for: b -/
def xisB (K : PySem.W.Frag) (D : Addr) (cv : Value) (b : Bool) : Bool :=
  decide (PySem.W.findIn K (.ref D) "__getattribute__" = some (some (.builtin "BaseException.__getattribute__"))) && (decide (PySem.W.findIn K (.ref D) "__getattr__" = some none) && (decide (PySem.W.subIn K (.ref D) (.type "BaseException") = some true) && (PySem.W.hasDictIn K D &&
    (decide (PySem.W.findIn K (.ref D) "__class__" = some (some (.builtin "object.__class__"))) && (decide (PySem.W.specialIn K (.builtin "object.__class__") "__get__" = some (some (.builtin "getset_descriptor.__get__"))) && (decide (PySem.W.takesIn K (.builtin "object.__class__") = some true) &&
      (decide (PySem.W.mroIn K D (.type "object") = some true) && decide (PySem.W.kitOne K (.ref D) cv = some b))))))))
theorem xisB_ok {K : PySem.W.Frag} {D : Addr} {cv : Value} {b : Bool} (h : xisB K D cv b = true) : ExcC K D ∧ PySem.W.kitOne K (.ref D) cv = some b := by
  obtain ⟨h1, h⟩ := Bool.and_eq_true_iff.mp h
  obtain ⟨h2, h⟩ := Bool.and_eq_true_iff.mp h
  obtain ⟨h3, h⟩ := Bool.and_eq_true_iff.mp h
  obtain ⟨h4, h⟩ := Bool.and_eq_true_iff.mp h
  obtain ⟨h5, h⟩ := Bool.and_eq_true_iff.mp h
  obtain ⟨h6, h⟩ := Bool.and_eq_true_iff.mp h
  obtain ⟨h7, h⟩ := Bool.and_eq_true_iff.mp h
  obtain ⟨h8, h9⟩ := Bool.and_eq_true_iff.mp h
  exact ⟨⟨of_decide_eq_true h1, of_decide_eq_true h2, of_decide_eq_true h3, h4, of_decide_eq_true h5, of_decide_eq_true h6, of_decide_eq_true h7, of_decide_eq_true h8⟩, of_decide_eq_true h9⟩
/-- isinstance(e, T), e an exception of the store; all: the classes that are known; up: those that T takes -/
def mIsX (all up : List Str) (m : M) : M := fun ρ S => (m ρ S).bind fun d S1 => match exnD S1 d with
  | some (c, _) => if all.contains c = true then .ok (.bl (up.contains c)) S1 else .bad
  | none => .bad
/-- e.f, e an exception of the store -/
def mXAtt (all : List Str) (f : Str) (m : M) : M := fun ρ S => (m ρ S).bind fun d S1 => match exnD S1 d with
  | some (c, fs) => if all.contains c = true then match fs.lookup f with
    | some x => .ok x S1
    | none => .bad else .bad
  | none => .bad
section
variable {X : Cx} {C : Cn} {e : Expr} {m : M} {x : Str} {p p2 pos : Pos} {all up : List Str}
theorem xo_inst {P : Program} {w : World} {K : PySem.W.Frag} {io : List Addr} {H : Hp} {h : Heap} {a : Addr} {c : Str} {fs : List (Str × D)} (hok : HOk P w H h) (r : ObR K io H a (.exn c fs)) : ∃ (oe : Obj) (od : Option Obj), PySem.W.InstAt h a oe (He.ga K c) od := by
  obtain ⟨φ, d, ha, xo, r⟩ := r
  have z : ObjOk P w H h a (.ext φ) := hok a _ ha
  obtain ⟨oe, vs, e1, e2, e3, e4⟩ := xo h z.1
  have no : PySem.W.notCls oe = true := by unfold PySem.W.notCls; rw [e4]
  rcases r with ⟨rfl, _⟩ | ⟨dx, o, ws, rfl, hd, _⟩
  · exact ⟨oe, none, e1, e2, no, by rw [e3]; trivial⟩
  · have y : ObjOk P w H h dx (.frz o (.xd ws)) := hok dx _ hd
    exact ⟨oe, some o, e1, e2, no, by rw [e3]; exact y.1⟩
/-- isinstance(x, T) of an exception of the store -/
def rIsX (K : PySem.W.Frag) : List V → Hp → VK → Prop := fun xs H Q => ∃ (io : List Addr) (c : Str) (fs : List (Str × D)) (a : Addr) (vT : V) (cv : Value) (b : Bool), xs = [.ref a, vT] ∧ (∀ u, RelV vT u → u = cv) ∧ ObR K io H a (.exn c fs) ∧ xisB K (He.ga K c) cv b = true ∧ Q (.bl b) H
theorem call_isX : CallR X (.builtin "isinstance") (rIsX X.K) := by
  intro pins s σ H xs us Q I r h
  obtain ⟨io, c, fs, a, vT, cv, b, rfl, hcv, ob, xb, q⟩ := h
  cases r with
  | cons rx rr =>
    cases rr with
    | cons rt rr =>
      cases rr
      cases rx
      have ec := hcv _ rt
      subst ec
      obtain ⟨oe, od, J⟩ := xo_inst I.hok ob
      obtain ⟨T, e⟩ := xisB_ok xb
      exact PySem.W.kia_one (PySem.W.xc_kitx T.hg T.hk T.hs T.hd T.ha T.hn T.ht T.hm) I.kIn J e (fun z => nomatch z) fun tk => ⟨.bl b, H, I.kept (t' := tk) fun _ _ z => z, rfl, q⟩
theorem qe_isX {vT : V} {cv : Value} (he : QE X C e m) (hm : X.mg "isinstance" = none) (hT : PE X (.Name x p2) (tC vT)) (hcv : ∀ u, RelV vT u → u = cv)
    (hx : ∀ c, all.contains c = true → xisB X.K (He.ga X.K c) cv (up.contains c) = true) (hg : Gl X "isinstance" := by rfl)
    (hs : starEach [e, .Name x p2] X.env = (false, eval e X.env) :: starEach [.Name x p2] X.env := by rfl) (hs2 : starEach [.Name x p2] X.env = (false, eval (.Name x p2) X.env) :: starEach [] X.env := by rfl) (hpl : (backTo pos (starEach [.Name x p2] X.env)).any (·.1) = false := by rfl) :
    QE X C (.Call (.Name "isinstance" p) [e, .Name x p2] [] pos) (mIsX all up m) := by
  have ha : PA X [e, .Name x p2] _ := pa_cons he (pa_cons hT pa_nil hs2) hs
  refine PE_imp (pe_callB call_isX hg hm (by decide +kernel) ha (by decide) (by decide) hs hpl) ?_
  rintro σ H Q ⟨io, ρ, S, R, re, h⟩
  refine rdE_step R re h fun d S1 io1 H1 v p1 m1 R1 re1 q1 h1 => ?_
  cases e1 : exnD S1 d with
  | none =>
    simp only [e1] at h1
    exact h1.elim
  | some cf =>
    obtain ⟨c, fs⟩ := cf
    simp only [e1] at h1
    by_cases hc : all.contains c = true
    · rw [if_pos hc] at h1
      obtain ⟨n, rfl, hn⟩ := exnD_eq e1
      obtain ⟨a, rfl, ea⟩ := q1
      exact ⟨io1, c, fs, a, vT, cv, _, rfl, hcv, R1.ob _ _ _ hn ea, hx c hc, h1.fin R1 rfl⟩
    · rw [if_neg hc] at h1
      exact h1.elim
theorem qe_xatt {f : Str} (hx : ∀ c, all.contains c = true → xfB X.K (He.ga X.K c) = true ∧ PySem.W.findIn X.K (.ref (He.ga X.K c)) f = some none) (he : QE X C e m) (hb : attributeBase e f X.env (eval e X.env) = eval e X.env := by rfl) :
    QE X C (.Attribute e f pos) (mXAtt all f m) := by
  refine ⟨fun pins s σ H Q I h => ?_⟩
  obtain ⟨io, ρ, S, R, re, h⟩ := h
  have z : rdE X.K C m σ H fun v H1 => ∃ (io1 : List Addr) (c : Str) (fs : List (Str × D)) (a : Addr) (dx : Addr) (o : Obj) (ws : List (Str × V)) (w : V) (φ : Heap → Prop), v = .ref a ∧ all.contains c = true ∧ H1 a = some (.ext φ) ∧ XoR (He.ga X.K c) a (some dx) φ ∧ H1 dx = some (.frz o (.xd ws)) ∧ ws.lookup f = some w ∧ Q w H1 := by
    refine rdE_step R re h fun d S1 io1 H1 v p1 m1 R1 re1 q1 h1 => ?_
    cases e1 : exnD S1 d with
    | none =>
      simp only [e1] at h1
      exact h1.elim
    | some cf =>
      obtain ⟨c, fs⟩ := cf
      simp only [e1] at h1
      by_cases hc : all.contains c = true
      · rw [if_pos hc] at h1
        cases e2 : fs.lookup f with
        | none =>
          simp only [e2] at h1
          exact h1.elim
        | some x =>
          simp only [e2] at h1
          obtain ⟨n, rfl, hn⟩ := exnD_eq e1
          obtain ⟨a, rfl, ea⟩ := q1
          obtain ⟨φ, d, ha, xo, r⟩ := R1.ob _ _ _ hn ea
          rcases r with ⟨rfl, rfl⟩ | ⟨dx, o, ws, rfl, hd, rf⟩
          · cases e2
          · obtain ⟨w, hw, rw'⟩ := (RFs.look (f := f) rf).1 x e2
            exact ⟨io1, c, fs, a, dx, o, ws, w, φ, rfl, hc, ha, xo, hd, hw, h1.fin R1 rw'⟩
      · rw [if_neg hc] at h1
        exact h1.elim
  refine attr_of hb (thn (he.run pins s σ H _ I z) fun u s1 hh => ?_)
  obtain ⟨x, H1, I1, rx, io1, c, fs, a, dx, o, ws, w, φ, ex, hc, ha, xo, hd, hl, q⟩ := hh
  subst ex
  obtain rfl : u = Value.ref a := rx
  obtain ⟨hx1, hno⟩ := hx c hc
  have T := xfB_ok hx1
  have za : ObjOk X.prog X.w H1 s1.heap a (.ext φ) := I1.hok a _ ha
  obtain ⟨oe, vs, e1, e2, e3, e4⟩ := xo s1.heap za.1
  have zd : ObjOk X.prog X.w H1 s1.heap dx (.frz o (.xd ws)) := I1.hok dx _ hd
  obtain ⟨ho, mA, hns, hr⟩ := zd
  obtain ⟨od, ho2, hlk⟩ := lookIn_ns hns
  obtain ⟨u, hu, ru⟩ := RelO.some_of (v := w) (o := mA f) (by rw [← hl]; exact hr f)
  have J : PySem.W.InstAt s1.heap a oe (He.ga X.K c) (some od) := ⟨e1, e2, by unfold PySem.W.notCls; rw [e4], by rw [e3]; exact ho2⟩
  exact HandSPX.exc_get I1.kIn J T.ga T.gg T.exC (PySem.W.findObj_own T.hdC hno rfl (by rw [hlk, hu])) (handed_of ru) ⟨w, H1, I1.tok _, ru, q⟩
end
/-- C(e), an own exception, as a value -/
def mMkX (c f : Str) (m : M) : M := fun ρ S => (m ρ S).bind fun d S1 => .ok (.ref S1.length) (S1 ++ [.exn c [(f, d)]])
section
variable {X : Cx} {C : Cn} {e : Expr} {m : M} {p pos : Pos} {c a f : Str} {k : Nat}
theorem Rep.exn {K : PySem.W.Frag} {io : List Addr} {S : Sto} {H : Hp} (R : Rep K io S H) {e dx : Addr} {od : Obj} {f : Str} {d : D} {v : V} (h1 : H e = none) (h2 : H dx = none) (hne : dx ≠ e) (c : Str) (r : RD K io H d v) :
    Mo H (upd (upd H dx (.frz od (.xd [(f, v)]))) e (exo e (He.ga K c) (some dx))) ∧ Rep K (io ++ [e]) (S ++ [.exn c [(f, d)]]) (upd (upd H dx (.frz od (.xd [(f, v)]))) e (exo e (He.ga K c) (some dx))) := by
  have h3 : (upd H dx (.frz od (.xd [(f, v)]))) e = none := by rw [upd_ne (Ne.symm hne)]; exact h1
  have m1 : Mo H (upd H dx (.frz od (.xd [(f, v)]))) := Mo.new h2
  have m2 := Mo.new (o := exo e (He.ga K c) (some dx)) h3
  refine ⟨m1.trans m2, (R.tup h2).new h3 ⟨_, some dx, upd_same, ?_, .inr ⟨dx, od, [(f, v)], rfl, ?_, v, [], rfl, r.mono (List.prefix_append _ _) (m1.trans m2), rfl⟩⟩⟩
  · rintro h ⟨t1, e1⟩
    exact ⟨_, _, e1, rfl, rfl, rfl⟩
  · rw [upd_ne hne, upd_same]
theorem qe_mkX (T : XcC X.K X.prog (He.ga X.K c) a f) (hmg : X.mg c = some (.ref (He.ga X.K c))) (hr : Room (k + 1) X.A) (hms : X.mg "super" = none) (he : QE X C e m) (hg : Gl X c := by rfl) (hdb : (c == ("__debug__" : Str)) = false := by decide)
    (hs : starEach [e] X.env = (false, eval e X.env) :: starEach [] X.env := by rfl) : QE X C (.Call (.Name c p) [e] [] pos) (mMkX c f m) := by
  refine ⟨fun pins s σ H Q I h => ?_⟩
  obtain ⟨io, ρ, S, R, re, h⟩ := h
  have z : rdE X.K C m σ H fun v H1 => ∀ (e dx : Addr) (od : Obj), H1 e = none → H1 dx = none → dx ≠ e → Q (.ref e) (upd (upd H1 dx (.frz od (.xd [(f, v)]))) e (exo e (He.ga X.K c) (some dx))) := by
    refine rdE_step R re h fun d S1 io1 H1 v p1 m1 R1 re1 q1 h1 => fun e dx od n1 n2 ne => ?_
    obtain ⟨mo, R2⟩ := R1.exn (f := f) (od := od) n1 n2 ne c q1
    refine h1.finP (List.prefix_append _ _) mo R2 ⟨e, rfl, ?_⟩
    rw [← R1.len]
    exact List.getElem?_concat_length
  refine wpAny_Call_Name_kw (ld_glob I hg hmg ?_ hdb)
  refine PySem.W.callWith_K (h₀ := X.base) I.ok.mod.kin T.oex.kC ?_ hs (by rfl)
  rw [hs]
  show wpAny _ _ (spliced ((false, eval e X.env) :: backTo pos (starEach [] X.env))) _ _ s
  refine Calls.spliced_cons (thn (he.run pins s σ H _ I z) fun u s1 ⟨v, H1, I1, r1, q1⟩ => ?_)
  refine Calls.spliced_nil ⟨I1.kIn, ?_⟩
  show wpAny _ _ (call (.ref (He.ga X.K c)) [u]) _ _ _
  exact xc_make T I1 r1 hr hms fun e dx od s' n1 n2 ne J => ⟨.ref e, _, J, rfl, q1 e dx od n1 n2 ne⟩
end
end Mn
set_option Elab.async false
set_option linter.all false
set_option maxRecDepth 100000
set_option maxHeartbeats 4000000
namespace Mn
open PySem PySem.Spec PyProof.Rows L2
end Mn
set_option Elab.async false
set_option linter.all false
set_option maxRecDepth 100000
set_option maxHeartbeats 4000000
namespace Mn
open PySem PySem.Spec PyProof.Rows L2
end Mn
set_option Elab.async false
set_option linter.all false
set_option maxRecDepth 100000
set_option maxHeartbeats 4000000
namespace PySem
namespace XcK
open PySem.W PySem.Calls PyProof.Rows PySem.HandSPX
section
variable {M : Model} {A : Around} {E : Value → Shared → Prop} {h : Heap} {g : Array GenState} {d : Drawn} {t : Nat} {os : OsState}
variable {nm q : Str} {C N : Addr} {bs bm bmB : List Value} {hdct : Bool} {sn : List Str} {sub : List Value} {ab : Bool} {col : Option Bool} {dd : Option Addr} {k0 k1 k2 k3 k5 : Option Value} {B newId initId : String} {kw : Str × Value}
theorem check_new_own (F : ExcBaseFacts B newId initId bmB) (hT : ∀ X : String, bm.contains (.type X) = bmB.contains (.type X)) {Q : Unit → Shared → Prop}
    (hC : h.get? C = some (excClassObj nm q C N bs bm hdct sn sub ab col dd k0 k1 k2 k3 k5 newId)) (hq : Q () ⟨h, g, d, t, os⟩) : wpAny M A (checkBuiltinCall newId ⟨[.ref C], [kw]⟩) Q E ⟨h, g, d, t, os⟩ := by
  have hcont : (Value.ref C :: bm).contains (.type B) = true := by rw [List.contains_cons, hT, F.hasB, Bool.or_true]
  have hstar := F.noStar
  simp only [checkBuiltinCall, F.newKind, F.newSplit, F.newRow]
  repeat (first | refine wpAny_loadPart_at hC ?_ | (refine wpAny_isSubtype_exc hC ?_; rw [hcont]) | refine wpAny_staticBase_exc hC ?_ | refine wpAny_madeBy_exc hC ?_ | simp only [bne_self_eq_false, Bool.false_eq_true, if_false] | wp_step)
  exact hq
end
section
variable {prog : Program} {w : World} {A : Around} {E : Value → Shared → Prop} {R : Result → Shared → Prop} {h : Heap} {g : Array GenState} {d : Drawn} {t : Nat} {os : OsState}
variable {nm q : Str} {C N : Addr} {bs bm bmB : List Value} {hdct : Bool} {sn : List Str} {sub : List Value} {ab : Bool} {col : Option Bool} {dd : Option Addr} {k0 k1 k2 k3 k5 : Option Value} {B newId initId : String} {kw : Str × Value}
theorem new_own (F : ExcBaseFacts B newId initId bmB) (hT : ∀ X : String, bm.contains (.type X) = bmB.contains (.type X))
    (hC : h.get? C = some (excClassObj nm q C N bs bm hdct sn sub ab col dd k0 k1 k2 k3 k5 newId))
    (hq : R (.ok (.ret (.ref (h.objs.size + 1)))) ⟨(h.push { cls := .type "tuple", data := .seq ([] : List Value).toArray }).push
      { cls := .ref C, data := .fields #[.ref h.objs.size, .none, .none, .none, .bool false, .none] }, g, d, t, os⟩) :
    codeAny (model prog w) A (.builtin newId ⟨[.ref C], [kw]⟩) R ⟨h, g, d, t, os⟩ := by
  have hends := F.ends
  have hcB : (Value.ref C :: bm).contains (.type B) = true := by rw [List.contains_cons, hT, F.hasB, Bool.or_true]
  have hcA : (Value.ref C :: bm).contains (.type "AttributeError") = false := by rw [List.contains_cons, hT, F.noAttr]; rfl
  have hcN : (Value.ref C :: bm).contains (.type "NameError") = false := by rw [List.contains_cons, hT, F.noName]; rfl
  refine codeAny_builtinAt F.entry ?_
  unfold Builtin.«BaseException.__new__»
  refine wpAt_bind ?_
  show wpAt _ _ _ (stack >>= _) _ _ _
  refine wpAt_bind (wpAt_stack fun p below => wpAt_of_wpAny ?_)
  wp_walk
  refine wpAt_of_wpAny ?_
  rw [F.owner]
  repeat (first | with_reducible refine wpAny_madeHere_exc F.canon hC ?_ | with_reducible refine wpAny_loadPart_at hC ?_ | (with_reducible refine wpAny_isSubtype_exc hC ?_; first | rw [hcB] | rw [hcA] | rw [hcN]) | wp_step)
  show R _ _
  rw [Heap.size_push]
  exact hq
theorem type_call_own (F : ExcBaseFacts B newId initId bmB) (hT : ∀ X : String, bm.contains (.type X) = bmB.contains (.type X)) {fI : Addr} {Q : Fin → Shared → Prop}
    (hC : h.get? C = some (excClassObj nm q C N bs bm hdct sn sub ab col dd k0 k1 k2 k3 k5 newId))
    (hi : W.Looks (model prog w) h (typeLookup (.ref C) "__init__") (some (.ref fI))) (hb : ∀ self, W.Looks (model prog w) h (bindSpecial (.ref fI) self) (.ref fI, [self]))
    (hq : codeAny (model prog w) A (.call (.ref fI) ⟨[.ref (h.objs.size + 1)], [kw]⟩)
      (fun r s' => match r with | .ok (.ret v) => v = .none ∧ Q (.done (.ret (.ref (h.objs.size + 1)))) s' | .ok _ => False | .error e => E e s')
      ⟨(h.push (W.kdv_tup [])).push (excO C h.objs.size), g, d, t, os⟩) :
    wpAny (model prog w) A (Builtin.«type.__call__» ⟨[.ref C], [kw]⟩) Q E ⟨h, g, d, t, os⟩ := by
  repeat (first | with_reducible refine wpAny_loadPart_at hC ?_ | with_reducible refine wpAny_madeBy_exc hC ?_ | wp_step)
  refine codeAny_call_builtin_code (Code.quiet_builtin _ F.quiet) (check_new_own F hT hC ?_)
  refine new_own F hT hC ?_
  show wpAny _ _ _ _ _ _
  have k : ∀ b o, h.get? b = some o → ((h.push (W.kdv_tup [])).push (excO C h.objs.size)).get? b = some o := fun b o e => Heap.get?_push_of_some _ (Heap.get?_push_of_some _ e)
  have hC₁ := k _ _ hC
  have hget : ((h.push (W.kdv_tup [])).push (excO C h.objs.size)).get? (h.objs.size + 1) = some (excO C h.objs.size) := by heap_get
  have hcC : (Value.ref C :: bm).contains (.ref C) = true := by simp
  have i1 := hi.keeps k
  have b1 := (hb (.ref (h.objs.size + 1))).keeps k
  unfold isInstance
  repeat (first | with_reducible refine wpAny_loadPart_at hget ?_ | (with_reducible refine wpAny_isSubtype_exc hC₁ ?_; rw [hcC]) | wp_step)
  show wpAny _ _ (typeLookup (.ref C) _) _ _ _
  refine i1.at ?_
  refine wpAny_holding (wpAny_bind (b1.at ?_))
  refine wpAny_bind (wpAny_call (codeAny_mono hq fun r s' z => ?_))
  rcases r with e | (v | _ | _ | _) <;> first | exact z | exact z.elim | skip
  obtain ⟨rfl, z⟩ := z
  first
    | exact wpAny_pure (wpAny_pure z)
    | (wp_walk; exact z)
theorem check_type_call {M : Model} {Q : Unit → Shared → Prop} (hC : h.get? C = some (excClassObj nm q C N bs bm hdct sn sub ab col dd k0 k1 k2 k3 k5 newId))
    (hq : Q () ⟨h, g, d, t, os⟩) : wpAny M A (checkBuiltinCall "type.__call__" ⟨[.ref C], [kw]⟩) Q E ⟨h, g, d, t, os⟩ := by
  have f3 := tc_sub
  have hT : (⟨h, g, d, t, os⟩ : Shared).TypeIs (.ref C) "type" := ⟨_, hC, rfl⟩
  simp only [checkBuiltinCall, tc_kind, tc_split]
  repeat (any_goals (first | assumption | with_reducible refine wpAny_loadPart_at hC ?_ | with_reducible refine wpAny_onRaise ?_ | with_reducible refine wpAny_map ?_ | wp_step))
theorem call_own (F : ExcBaseFacts B newId initId bmB) (hT : ∀ X : String, bm.contains (.type X) = bmB.contains (.type X)) {fI : Addr}
    (hC : h.get? C = some (excClassObj nm q C N bs bm hdct sn sub ab col dd k0 k1 k2 k3 k5 newId))
    (hi : W.Looks (model prog w) h (typeLookup (.ref C) "__init__") (some (.ref fI))) (hb : ∀ self, W.Looks (model prog w) h (bindSpecial (.ref fI) self) (.ref fI, [self]))
    (hq : codeAny (model prog w) (A.under (.builtin "type.__call__" ⟨[.ref C], [kw]⟩)) (.call (.ref fI) ⟨[.ref (h.objs.size + 1)], [kw]⟩) (W.InitBack (h.objs.size + 1) R)
      ⟨(h.push (W.kdv_tup [])).push (excO C h.objs.size), g, d, t, os⟩) :
    codeAny (model prog w) A (.call (.ref C) ⟨[], [kw]⟩) R ⟨h, g, d, t, os⟩ := by
  have f1 := tc_lookup
  have f2 := tc_bind (.ref C)
  have hTy : (⟨h, g, d, t, os⟩ : Shared).TypeIs (.ref C) "type" := ⟨_, hC, rfl⟩
  refine codeAny_of_tree ?_
  show wpAny _ _ (callAny (.ref C) _) _ _ _
  repeat (any_goals (first | assumption | with_reducible refine wpAny_loadPart_at hC ?_ | wp_step))
  refine ⟨rfl, ?_⟩
  refine codeAny_call_builtin_at (Code.quiet_builtin _ (by decide +kernel)) entry_typeCall (check_type_call hC (type_call_own F hT hC hi hb ?_))
  refine codeAny_mono hq fun r s' z => ?_
  rcases r with e | (v | _ | _ | _) <;> exact z
end
end XcK
end PySem
set_option Elab.async false
set_option linter.all false
set_option maxRecDepth 100000
set_option maxHeartbeats 4000000
namespace Mn
open PySem PySem.Spec PyProof.Rows L2
section
variable {X : Cx} {pins : List (Addr × Obj)} {σ : L2.St} {H : Hp} {s : Shared}
/-- C(f=x): likewise -/
theorem xc_makeK {C : Addr} {a f : Str} {v : V} {u : Value} {E : Value → Shared → Prop} {k : Nat} {Q : Value → Shared → Prop} (T : XcC X.K X.prog C a f) (I : Inv X pins σ H s) (ru : RelV v u) (hr : Room (k + 1) X.A) (hms : X.mg "super" = none)
    (hq : ∀ (e dx : Addr) (od : Obj) (s' : Shared), H e = none → H dx = none → dx ≠ e → Inv X pins σ (upd (upd H dx (.frz od (.xd [(f, v)]))) e (exo e C (some dx))) s' → Q (.ref e) s') :
    wpAny (model X.prog X.w) X.A (call (.ref C) [] [(a, u)]) Q E s := by
  obtain ⟨nm, q, N, bs, bm, sn, sub, ab, col, dd, k0, k1, k2, k3, k5, hC, hbm⟩ := T.oex.cls
  obtain ⟨fI, fd, iC, tI, hb, hbk, rule⟩ := T.ini
  obtain ⟨hp, g, dr, tk, os⟩ := s
  have kk : ∀ b o, hp.get? b = some o → ((hp.push (PySem.W.kdv_tup [])).push (PySem.HandSPX.excO C hp.objs.size)).get? b = some o := fun b o e => Heap.get?_push_of_some _ (Heap.get?_push_of_some _ e)
  have hget : ((hp.push (PySem.W.kdv_tup [])).push (PySem.HandSPX.excO C hp.objs.size)).get? (hp.objs.size + 1) = some (PySem.HandSPX.excO C hp.objs.size) := by heap_get
  obtain ⟨mb, h1, h2⟩ := I.mod.blt
  have X2 : X.K.In ((hp.push (PySem.W.kdv_tup [])).push (PySem.HandSPX.excO C hp.objs.size)) := I.kIn.keeps kk
  have hkb : ∀ b o, X.base.get? b = some o → ((hp.push (PySem.W.kdv_tup [])).push (PySem.HandSPX.excO C hp.objs.size)).get? b = some o := fun b o e => kk b o (I.bk b o e)
  refine wpAny_call (PySem.XcK.call_own F.excBase_ValueError (fun Y => PySem.HandSPX.refsVE_contains Y bm hbm) (I.kIn _ _ hC) (PySem.W.looks_findIn I.kIn iC) (fun self => PySem.W.bind_fn I.kIn self tI)
    (rule X.w _ _ _ g dr tk os X.mg mb (hp.objs.size + 1) hp.objs.size u _ X2 (I.mod.glob.keeps hkb) hms (h1.keeps hkb) ((h2 "super" (by decide)).trans PyProof.Rows.Boot.«super») (I.mod.nolimit.keeps hkb) ?_ hget
      (fun b o z => Nat.ne_of_lt (Nat.lt_succ_of_lt (Heap.lt_size (I.kIn b o z)))) (hbk _ (.ref (hp.objs.size + 1)) u X2) fun h' tk' dx t1 kb dn dne he hn => ⟨rfl, ?_⟩))
  · exact (hr.make C [] [(a, u)]).depth
  have hsz2 : hp.objs.size + 2 = ((hp.push (PySem.W.kdv_tup [])).push (PySem.HandSPX.excO C hp.objs.size)).objs.size := by simp [Heap.push]
  have kO : ∀ b o, hp.get? b = some o → h'.get? b = some o := fun b o z => kb b o (Nat.ne_of_lt (Nat.lt_succ_of_lt (Heap.lt_size z))) (kk b o z)
  have ha : H (hp.objs.size + 1) = none := I.hok.fresh (Nat.le_succ _)
  have hdx : H dx = none := I.hok.fresh (by show hp.objs.size ≤ dx; omega)
  have la : ∀ b o, hp.get? b = some o → b ≠ hp.objs.size + 1 := fun b o z => Nat.ne_of_lt (Nat.lt_succ_of_lt (Heap.lt_size z))
  have ld : ∀ b o, hp.get? b = some o → b ≠ dx := fun b o z => Nat.ne_of_lt (Nat.lt_of_lt_of_le (Heap.lt_size z) (by omega))
  obtain ⟨od, hod⟩ : ∃ od, h'.get? dx = some od := by
    obtain ⟨o, _, _, e', _⟩ := hn
    exact ⟨o, e'⟩
  refine hq (hp.objs.size + 1) dx od ⟨h', g, dr, tk', os⟩ ha hdx dne ?_
  have U : Un X.fs [] H (upd (upd H dx (.frz od (.xd [(f, v)]))) (hp.objs.size + 1) (exo (hp.objs.size + 1) C (some dx))) hp h' := {
    keep := fun b o z n _ _ => kO b o z
    slot := fun b o z n _ _ => ⟨o.slots, kO b o z⟩
    free := fun b o z n _ => by rw [upd_ne (la b o z), upd_ne (ld b o z)]; exact n
    there := fun b o z _ => ⟨o, kO b o z⟩
    tups := fun b xs z => by rw [upd_ne (ne_of_none z ha), upd_ne (ne_of_none z hdx)]; exact z
    frzs := fun b o v z => by rw [upd_ne (ne_of_none z ha), upd_ne (ne_of_none z hdx)]; exact z
    tbls := fun b ps z => ⟨#[], by rw [upd_ne (ne_of_none z ha), upd_ne (ne_of_none z hdx), z]; simp⟩ }
  refine I.un (t' := tk') U fun b o z => ?_
  by_cases hb1 : b = hp.objs.size + 1
  · subst hb1
    rw [upd_same] at z
    cases z
    exact exo_ok he
  · rw [upd_ne hb1] at z
    by_cases hb2 : b = dx
    · subst hb2
      rw [upd_same] at z
      cases z
      exact ⟨hod, _, hn, relO_put (fs := []) ru fun g => True.intro⟩
    · rw [upd_ne hb2] at z
      exact (I.hok b o z).stay (fun c u _ y => kO c u y) (fun c y => by rw [upd_ne (ne_of_none y ha), upd_ne (ne_of_none y hdx)]; exact y) fun c xs y => by rw [upd_ne (ne_of_none y ha), upd_ne (ne_of_none y hdx)]; exact y
end
/-- C(), an own exception without own __init__, as a value -/
def mMkX0 (c : Str) : M := fun _ S => .ok (.ref S.length) (S ++ [.exn c []])
section
variable {X : Cx} {C : Cn} {e : Expr} {m : M} {p pos kpos : Pos} {c a f : Str} {k : Nat}
theorem qe_mkXk (T : XcC X.K X.prog (He.ga X.K c) a f) (hmg : X.mg c = some (.ref (He.ga X.K c))) (hr : Room (k + 1) X.A) (hms : X.mg "super" = none) (he : QE X C e m) (hg : Gl X c := by rfl) (hdb : (c == ("__debug__" : Str)) = false := by decide)
    (hall : (backToKw pos (keywordEach [⟨some a, e, kpos⟩] X.env)).all (·.1.isSome) = true := by rfl) (hks : (backToKw pos (keywordEach [⟨some a, e, kpos⟩] X.env)).filterMap (·.1) = [a] := by rfl)
    (hpl : ((backTo pos (starEach [] X.env)).any (·.1) || (backToKw pos (keywordEach [⟨some a, e, kpos⟩] X.env)).any (·.1.isNone)) = false := by rfl) : QE X C (.Call (.Name c p) [] [⟨some a, e, kpos⟩] pos) (mMkX c f m) := by
  refine ⟨fun pins s σ H Q I h => ?_⟩
  obtain ⟨io, ρ, S, R, re, h⟩ := h
  have z : rdA X.K C (aCons m aNil) σ H fun zs H1 => ∃ v, zs = [v] ∧ ∀ (e dx : Addr) (od : Obj), H1 e = none → H1 dx = none → dx ≠ e → Q (.ref e) (upd (upd H1 dx (.frz od (.xd [(f, v)]))) e (exo e (He.ga X.K c) (some dx))) := by
    have h0 : Po X.K (rD X.K) C.cl (fun c d H' => C.W c d σ H') io H ((aCons m aNil ρ S).bind fun ds S1 => match ds with
      | [d] => .ok (.ref S1.length) (S1 ++ [.exn c [(f, d)]])
      | _ => .bad) Q := by
      unfold mMkX at h
      unfold aCons
      cases e0 : m ρ S with
      | ok d S1 =>
        simp only [e0, Res.bind, aNil] at h ⊢
        exact h
      | exc c fs S1 =>
        simp only [e0, Res.bind] at h ⊢
        exact h
      | bad =>
        simp only [e0, Res.bind] at h ⊢
        exact h
    refine rdA_step R re h0 fun ds S1 io1 H1 vs p1 m1 R1 re1 q1 h1 => ?_
    match ds, q1, h1 with
    | [], _, h1 => exact h1.elim
    | [d], q1, h1 =>
      obtain ⟨v, r, rfl, q2, q3⟩ := q1
      have q3 : r = [] := q3
      subst q3
      refine ⟨v, rfl, fun e dx od n1 n2 ne => ?_⟩
      obtain ⟨mo, R2⟩ := R1.exn (f := f) (od := od) n1 n2 ne c q2
      refine h1.finP (List.prefix_append _ _) mo R2 ⟨e, rfl, ?_⟩
      rw [← R1.len]
      exact List.getElem?_concat_length
    | _ :: _ :: _, _, h1 => exact h1.elim
  refine wpAny_Call_Name_kw (ld_glob I hg hmg ?_ hdb)
  have hkw : QK X C [⟨some a, e, kpos⟩] (aCons m aNil) := qk_cons he qk_nil
  refine PySem.W.callWith_KW0 (h₀ := X.base) I.ok.mod.kin T.oex.kC hall (thn (hkw.run pos pins s σ H _ I z) fun ws s2 ⟨zs, H2, I2, rz, v, ez, q2⟩ => ⟨I2.kIn, ?_⟩) hpl
  rw [hks]
  subst ez
  cases rz with
  | cons r1 r2 =>
    cases r2
    exact xc_makeK T I2 r1 hr hms fun e dx od s' n1 n2 ne J => ⟨.ref e, _, J, rfl, q2 e dx od n1 n2 ne⟩
theorem qe_mkX0 {bmB : List Value} (q : PySem.W.excIn X.K (He.ga X.K c) bmB "ValueError.__new__" = true) (F : ExcBaseFacts "ValueError" "ValueError.__new__" "ValueError.__init__" bmB) (kC : PySem.W.keepIn X.K (.ref (He.ga X.K c)) = true) (hmg : X.mg c = some (.ref (He.ga X.K c)))
    (hg : Gl X c := by rfl) (hdb : (c == ("__debug__" : Str)) = false := by decide) : QE X C (.Call (.Name c p) [] [] pos) (mMkX0 c) := by
  refine ⟨fun pins s σ H Q I h => ?_⟩
  obtain ⟨io, ρ, S, R, re, h⟩ := h
  refine wpAny_Call_Name_kw (ld_glob I hg hmg ?_ hdb)
  refine PySem.W.callWith_K0 I.kIn kC ?_
  obtain ⟨bm, N, nm, qn, bs, hdct, sn, sub, ab, col, dd, k0, k1, k2, k3, k5, mN, hC, hN, hni, T⟩ := exc_obj I.kIn q
  refine wpAny_call_exc_subT F T hC hN hni (fun h' a hm => ?_) (by show 0 ≤ sizeLine; exact Nat.zero_le _)
  have hn : H a = none := I.hok.gone hm.new
  obtain ⟨t, ht, _, _⟩ := hm.there
  refine ⟨.ref a, upd H a (ExO (.ref (He.ga X.K c)) a), I.laidN hm.keeps hm.new hn (exO_ok ht ⟨rfl, rfl⟩ rfl rfl rfl (show 4 < 6 by decide)), rfl, ?_⟩
  have mo : Mo H (upd H a (ExO (.ref (He.ga X.K c)) a)) := Mo.new hn
  refine h.finP (List.prefix_append _ _) mo (R.new hn ⟨_, none, upd_same, ?_, .inl ⟨rfl, rfl⟩⟩) ⟨a, rfl, ?_⟩
  · rintro h ⟨oe, vs, e1, ⟨z1, z2⟩, e2, _⟩
    exact ⟨oe, vs, e1, z1, z2, e2⟩
  · rw [← R.len]
    exact List.getElem?_concat_length
end
end Mn
set_option Elab.async false
set_option linter.all false
set_option maxRecDepth 100000
set_option maxHeartbeats 4000000
namespace Mn
open PySem PySem.Spec PyProof.Rows L2
/-- an exception class with its __init__ -/
structure XD where
  cls : Str
  arg : Str
  fld : Str
  file : Str
  name : Str
  qual : Str
  params : Arguments
  body : List Stmt
  scope : Scope
abbrev XW : Type := Option (Str × Str × Arguments × FuncBody × Scope × Addr × List Str × Addr)
def xI (K : PySem.W.Frag) (c : Str) : Addr := He.ma K (He.ga K c) "__init__"
def xW (K : PySem.W.Frag) (c : Str) : XW := match K.lookup (xI K c) with
  | some ⟨_, _, .func fd, _⟩ => some (fd.name, fd.qualname, fd.params, fd.body, fd.scope, fd.globals, fd.closure.map (·.1), fd.builtins)
  | _ => none
def XD.val (d : XD) : XW := some (d.name, d.qual, d.params, .stmts d.body, d.scope, mainGlobals, ["__class__"], builtinsNs)
/-- the class -/
def xokC (K : PySem.W.Frag) (C : Addr) : Bool := match K.lookup C with
  | some ⟨.type t, _, .cls cd, sl⟩ => t == "type" && (match cd.mro, sl.toList with
    | .ref C' :: bm, [_, _, _, _, some (.builtin n), _] => C' == C && (n == "ValueError.__new__" && (!cd.hasDel && (cd.hasDict && (PySem.HandSPX.refsVE bm && decide (PySem.W.alongIn K "__init__" bm = some (some (.builtin "ValueError.__init__")))))))
    | _, _ => false)
  | _ => false
/-- its __init__'s code and cell -/
def xokF (K : PySem.W.Frag) (C fI : Addr) (qual file : Str) : Bool := match K.lookup fI with
  | some ⟨_, _, .func fd, _⟩ => (match fd.code, fd.closure, fd.defaults with
    | .ref cda, [(_, cc)], .none => PySem.W.codeIn K (.ref cda) qual && ((match K.lookup cda with
      | some ⟨_, _, .fields vs, _⟩ => (match (vs[2]? : Option Value) with
        | some (Value.str f _) => f == file
        | _ => false)
      | _ => false) && (match K.lookup cc with
      | some ⟨_, _, .cell (some (.ref D)), _⟩ => D == C
      | _ => false))
    | _, _, _ => false)
  | _ => false
def XD.ok (K : PySem.W.Frag) (d : XD) : Bool := (He.Fa.glo d.cls).ok K && (xokC K (He.ga K d.cls) && (xokF K (He.ga K d.cls) (xI K d.cls) d.qual d.file &&
  (He.eqO (PySem.W.findIn K (.ref (He.ga K d.cls)) "__setattr__") (some (some (.builtin "object.__setattr__"))) && (He.eqO (PySem.W.findIn K (.ref (He.ga K d.cls)) d.fld) (some none) && (He.eqO (PySem.W.nsIn K cStatics "thirdparty.any") (some none) &&
    (decide (PySem.W.subIn K (.ref (He.ga K d.cls)) (.type "ValueError") = some true) && (decide (PySem.W.mroIn K (He.ga K d.cls) (.ref (He.ga K d.cls)) = some true) && (decide (PySem.W.subIn K (.ref (He.ga K d.cls)) (.type "BaseException") = some true) &&
      (decide (PySem.W.typeIn K (.ref (He.ga K d.cls)) = some (.type "type")) && (PySem.W.keepIn K (.ref (He.ga K d.cls)) && (He.eqO (PySem.W.findIn K (.ref (He.ga K d.cls)) "__init__") (some (some (.ref (xI K d.cls)))) && PySem.W.isFn K (.ref (xI K d.cls)))))))))))))
theorem xc_of {K : PySem.W.Frag} {P : Program} {d : XD} {p0 p1 p2 p3 p4 p5 q0 q1 q2 q3 : Pos} {ar : Arg} {pl : Sem Bool} (hW : xW K d.cls = d.val) (ok : d.ok K = true) (hbody : d.body = xcBody d.arg d.fld p0 p1 p2 p3 p4 p5 q0 q1 q2 q3)
    (hfile : ((P.main.file : Str) == d.file) = true) (htop : (P.main.scope.names.lookup ("super" : Str)).isSome = false)
    (hp0 : (d.params.posonlyargs ++ d.params.args).head? = some ar) (har : ar.arg = "self") (hsw : d.arg ≠ "self")
    (hks : d.scope.names.lookup ("super" : Str) = some .globalImplicit) (hkc : d.scope.names.lookup ("__class__" : Str) = some .free) (hkS : d.scope.names.lookup ("self" : Str) = some .local) (hkA : d.scope.names.lookup d.arg = some .local)
    (hk : d.scope.kind = .function) (hco : d.scope.isCoroutine = false) (hgen : d.scope.isGenerator = false) (hcl : ∀ x ∈ d.scope.names, x.2 ≠ .cell) (hda : (d.arg == ("__debug__" : Str)) = false)
    (hev : ∀ env : Env, eval (.Call (.Attribute (.Call (.Name "super" p0) [] [] p1) "__init__" p2) [.Name d.arg p3] [] p4) env = (do
      let ov ← attributeBase (.Call (.Name "super" p0) [] [] p1) "__init__" env (eval (.Call (.Name "super" p0) [] [] p1) env)
      standAt p2.atName
      let (f, first) ← holding [ov] (getMethod ov "__init__" pl)
      callWith p4 f first (backTo p4 (starEach [.Name d.arg p3] env)) []))
    (hb1 : ∀ (kV doc pm cdv ct : Value) (an : Option Addr) (cc : Addr) (us : List Value), us.length = 2 → bindArgs (PySem.W.ksFn d.name d.qual d.params d.body d.scope .none kV doc pm an cdv ct cc) ⟨us, []⟩ = pure ((["self", d.arg] : List Str).zip us))
    (hb2 : ∀ (kV doc pm cdv ct : Value) (an : Option Addr) (cc : Addr) (x u : Value), bindArgs (PySem.W.ksFn d.name d.qual d.params d.body d.scope .none kV doc pm an cdv ct cc) ⟨[x], [(d.arg, u)]⟩ = pure [(("self" : Str), x), (d.arg, u)]) :
    XcC K P (He.ga K d.cls) d.arg d.fld := by
  obtain ⟨_, ok⟩ := He.ba ok
  obtain ⟨oC, ok⟩ := He.ba ok
  obtain ⟨oF, ok⟩ := He.ba ok
  obtain ⟨osa, ok⟩ := He.ba ok
  obtain ⟨ono, ok⟩ := He.ba ok
  obtain ⟨oop, ok⟩ := He.ba ok
  obtain ⟨oB, ok⟩ := He.ba ok
  obtain ⟨oCC, ok⟩ := He.ba ok
  obtain ⟨obe, ok⟩ := He.ba ok
  obtain ⟨oty, ok⟩ := He.ba ok
  obtain ⟨okc, ok⟩ := He.ba ok
  obtain ⟨oin, ofn⟩ := He.ba ok
  have osa := He.eqO_ok osa
  have ono := He.eqO_ok ono
  have oop := He.eqO_ok oop
  have oB := of_decide_eq_true oB
  have oCC := of_decide_eq_true oCC
  have obe := of_decide_eq_true obe
  have oty := of_decide_eq_true oty
  have oin := He.eqO_ok oin
  have ofn : PySem.W.typeIn K (.ref (xI K d.cls)) = some (.type "function") := beq_iff_eq.mp ofn
  -- the class
  obtain ⟨nm, q, N, bs, bm, sn, sub, ab, col, dd, k0, k1, k2, k3, k5, hC, hbm, hal⟩ : ∃ nm q N bs bm sn sub ab col dd k0 k1 k2 k3 k5, K.lookup (He.ga K d.cls) = some (excClassObj nm q (He.ga K d.cls) N bs bm true sn sub ab col dd k0 k1 k2 k3 k5 "ValueError.__new__") ∧ PySem.HandSPX.refsVE bm = true ∧ PySem.W.alongIn K "__init__" bm = some (some (.builtin "ValueError.__init__")) := by
    unfold xokC at oC
    split at oC
    · rename_i t dd cd sl ho
      obtain ⟨ht, oC⟩ := Bool.and_eq_true_iff.mp oC
      split at oC
      · rename_i C' bm k0 k1 k2 k3 n k5 hm hs
        obtain ⟨e1, oC⟩ := Bool.and_eq_true_iff.mp oC
        obtain ⟨e2, oC⟩ := Bool.and_eq_true_iff.mp oC
        obtain ⟨e3, oC⟩ := Bool.and_eq_true_iff.mp oC
        obtain ⟨e4, oC⟩ := Bool.and_eq_true_iff.mp oC
        obtain ⟨e5, e6⟩ := Bool.and_eq_true_iff.mp oC
        have e1 := beq_iff_eq.mp e1
        have e2 := beq_iff_eq.mp e2
        have ht := beq_iff_eq.mp ht
        subst e1 e2 ht
        obtain ⟨nm, bs, mro, N, q, hd, sn, sub, ab, col, del⟩ := cd
        obtain ⟨sl⟩ := sl
        dsimp only at hm hs e3 e4
        subst hm hs
        have e3 : del = false := by simpa using e3
        subst e3 e4
        exact ⟨nm, q, N, bs, bm, sn, sub, ab, col, dd, k0, k1, k2, k3, k5, ho, e5, of_decide_eq_true e6⟩
      · cases oC
    · cases oC
  have hdrop : ((Value.ref (He.ga K d.cls) :: bm).dropWhile (· != .ref (He.ga K d.cls))).drop 1 = bm := by simp [List.dropWhile_cons]
  -- the def
  unfold xokF at oF
  split at oF
  · rename_i oc od fd osl ho
    split at oF
    · rename_i cda cn cc hcode hclo hdfl
      obtain ⟨f1, oF⟩ := Bool.and_eq_true_iff.mp oF
      obtain ⟨f2, f3⟩ := Bool.and_eq_true_iff.mp oF
      obtain ⟨ccl, cdd, vs, ccs, hcda, file, tf, hvs, hff⟩ : ∃ ccl cdd vs ccs, K.lookup cda = some ⟨ccl, cdd, .fields vs, ccs⟩ ∧ ∃ file tf, vs[2]? = some (.str file tf) ∧ (file == d.file) = true := by
        split at f2
        · rename_i ccl cdd vs ccs hcda
          split at f2
          · rename_i file tf hvs
            exact ⟨ccl, cdd, vs, ccs, hcda, file, tf, hvs, f2⟩
          · cases f2
        · cases f2
      obtain ⟨cl, cld, csl, hcell⟩ : ∃ cl cld csl, K.lookup cc = some ⟨cl, cld, .cell (some (.ref (He.ga K d.cls))), csl⟩ := by
        split at f3
        · rename_i cl cld D csl hcc
          have e := beq_iff_eq.mp f3
          subst e
          exact ⟨cl, cld, csl, hcc⟩
        · cases f3
      have hW2 : xW K d.cls = some (fd.name, fd.qualname, fd.params, fd.body, fd.scope, fd.globals, fd.closure.map (·.1), fd.builtins) := by
        unfold xW
        rw [ho]
      rw [hW] at hW2
      unfold XD.val at hW2
      obtain ⟨n1, n2, n3, n4, n5, n6, n7, n8, n9, n10, n11, n12, n13, n14, n15⟩ := fd
      dsimp only at hcode hclo hdfl hW2
      simp only [Option.some.injEq, Prod.mk.injEq] at hW2
      obtain ⟨h1, h2, h3, h4, h5, h6, h7, h8⟩ := hW2
      subst h1 h2 h3 h4 h5 h6 h8 hcode hclo hdfl
      have ecn : cn = "__class__" := by simpa using h7.symm
      subst ecn
      have hff := beq_iff_eq.mp hff
      subst hff
      have lk : K.lookup (xI K d.cls) = some ⟨oc, od, .func (PySem.W.ksFn d.name d.qual d.params (xcBody d.arg d.fld p0 p1 p2 p3 p4 p5 q0 q1 q2 q3) d.scope .none n9 n10 n11 n12 (.ref cda) n14 cc), osl⟩ := by
        rw [ho, hbody]
      refine ⟨⟨⟨nm, q, N, bs, bm, sn, sub, ab, col, dd, k0, k1, k2, k3, k5, hC, hbm⟩, osa, obe, oty, okc⟩, xI K d.cls, _, oin, ofn, Binds.all fun us hl => (hbody ▸ hb1 n9 n10 n11 (.ref cda) n14 n12 cc us hl), fun s x u _ => .of_eq (hbody ▸ hb2 n9 n10 n11 (.ref cda) n14 n12 cc x u), ?_⟩
      exact fun w A R hp g dr tk os mg mb e t0 u args X hg hmg hb hmb hlim hroom he ne hbind hq =>
        xc_init X hg hmg hb hmb hlim hroom hC hbm osa ono (by rw [hdrop]; exact hal) oop oB oCC lk f1 hcda hvs hfile hcell htop hp0 har hsw hks hkc hkS hkA hk hco hgen hcl hda hev he ne hbind hq
    · cases oF
  · cases oF
end Mn
set_option Elab.async false
set_option linter.all false
set_option maxRecDepth 100000
set_option maxHeartbeats 4000000
namespace Mn
open PySem PySem.Spec PyProof.Rows L2
/-- ds: classes with their __init__; zs: those without; is, ib: isinstance with an own class, with a built-in one (T, the classes that are known, those that T takes); ex: except T, which it takes; ats: the attribute f of these -/
structure XS where
  ds : List XD := []
  zs : List Str := []
  is : List (Str × List Str × List Str) := []
  ib : List (String × List Str × List Str) := []
  ex : List (Str × List Str) := []
  ats : List (Str × List Str) := []
def XS.ok (x : XS) (K : PySem.W.Frag) : Bool := (x.ds.all fun d => d.ok K) && ((x.zs.all fun c => (He.Fa.glo c).ok K && (PySem.W.excIn K (He.ga K c) He.veBase "ValueError.__new__" && PySem.W.keepIn K (.ref (He.ga K c)))) &&
  ((x.is.all fun t => (He.Fa.glo t.1).ok K && t.2.1.all fun c => xisB K (He.ga K c) (.ref (He.ga K t.1)) (t.2.2.contains c)) && ((x.ib.all fun t => t.2.1.all fun c => xisB K (He.ga K c) (.type t.1) (t.2.2.contains c)) &&
    ((x.ex.all fun t => (He.Fa.glo t.1).ok K && t.2.all fun c => decide (PySem.W.exmOne K (.ref (He.ga K c)) (.ref (He.ga K t.1)) = some true)) &&
      ((x.ats.all fun t => t.2.all fun c => xfB K (He.ga K c) && He.eqO (PySem.W.findIn K (.ref (He.ga K c)) t.1) (some none)) && ((He.Fa.free "super").ok K && smB K))))))
abbrev AlX : Type := AlM × (Bool × List XW)
def SaysX (x : XS) (K : PySem.W.Frag) : Prop := (x.ok K, x.ds.map fun d => xW K d.cls) = (true, x.ds.map XD.val)
def obsX (n : Nat) (c : Cs) (fn : List He.DefD) (x : XS) (g : Addr → Option Obj) : AlX := (fun K => ((c.ok K, He.obsT (c.fa fn) fn c.ts K), (x.ok K, x.ds.map fun d => xW K d.cls))) (He.frG g (List.range n))
def hookX (n : Nat) (c : Cs) (fn : List He.DefD) (x : XS) : PySem.W.Hook where
  α := AlX
  obs := fun s => obsX n c fn x s.heap.get?
  val := fun w => ((true, He.valT fn c.ts w), (true, x.ds.map XD.val))
  says := fun w h => ∃ K : PySem.W.Frag, K.In h ∧ SaysM c fn w K ∧ SaysX x K
  of := fun _ _ e => ⟨_, He.frG_in, ⟨congrArg (fun z : AlX => z.1.1) e, congrArg (fun z : AlX => z.1.2) e⟩, congrArg (fun z : AlX => z.2) e⟩
  keeps := fun _ _ _ ⟨K, hK, q⟩ k => ⟨K, PySem.W.Frag.In.keeps hK k, q⟩
theorem obsX_eq {n : Nat} {c : Cs} {fn : List He.DefD} {x : XS} {g : Addr → Option Obj} {s : Shared} (h : ∀ a, g a = s.heap.get? a) : obsX n c fn x g = (hookX n c fn x).obs s := by
  have e : g = s.heap.get? := funext h
  rw [e]
  rfl
/-- what the bodies lean on -/
structure XA (P : Program) (K : PySem.W.Frag) (mg : Str → Option Value) (x : XS) : Prop where
  sup : mg "super" = none
  sm : smB K = true
  mks : ∀ (i : Nat) {d : XD}, x.ds[i]? = some d → XcC K P (He.ga K d.cls) d.arg d.fld ∧ mg d.cls = some (.ref (He.ga K d.cls))
  zer : ∀ (i : Nat) {c : Str}, x.zs[i]? = some c → PySem.W.excIn K (He.ga K c) He.veBase "ValueError.__new__" = true ∧ PySem.W.keepIn K (.ref (He.ga K c)) = true ∧ mg c = some (.ref (He.ga K c))
  is : ∀ (i : Nat) {T : Str} {all up : List Str}, x.is[i]? = some (T, all, up) → mg T = some (.ref (He.ga K T)) ∧ ∀ c, all.contains c = true → xisB K (He.ga K c) (.ref (He.ga K T)) (up.contains c) = true
  ib : ∀ (i : Nat) {T : String} {all up : List Str}, x.ib[i]? = some (T, all, up) → ∀ c, all.contains c = true → xisB K (He.ga K c) (.type T) (up.contains c) = true
  ex : ∀ (i : Nat) {T : Str} {up : List Str}, x.ex[i]? = some (T, up) → mg T = some (.ref (He.ga K T)) ∧ ∀ c, up.contains c = true → PySem.W.exmOne K (.ref (He.ga K c)) (.ref (He.ga K T)) = some true
  ats : ∀ (i : Nat) {f : Str} {all : List Str}, x.ats[i]? = some (f, all) → ∀ c, all.contains c = true → xfB K (He.ga K c) = true ∧ PySem.W.findIn K (.ref (He.ga K c)) f = some none
theorem xa_of {P : Program} {K : PySem.W.Frag} {h : Heap} {mg : Str → Option Value} {x : XS} (X : K.In h) (G : h.Ns mainGlobals mg) (s : SaysX x K) (hd : ∀ (i : Nat) {d : XD}, x.ds[i]? = some d → xW K d.cls = d.val → d.ok K = true → XcC K P (He.ga K d.cls) d.arg d.fld) : XA P K mg x := by
  have ok : x.ok K = true := congrArg (fun z : Bool × List XW => z.1) s
  have ev : x.ds.map (fun d => xW K d.cls) = x.ds.map XD.val := congrArg (fun z : Bool × List XW => z.2) s
  unfold XS.ok at ok
  obtain ⟨o1, ok⟩ := He.ba ok
  obtain ⟨o2, ok⟩ := He.ba ok
  obtain ⟨o3, ok⟩ := He.ba ok
  obtain ⟨o4, ok⟩ := He.ba ok
  obtain ⟨o5, ok⟩ := He.ba ok
  obtain ⟨o6, ok⟩ := He.ba ok
  obtain ⟨o7, o8⟩ := He.ba ok
  have mem : ∀ {l : List Str} {c : Str}, l.contains c = true → c ∈ l := fun {l c} q => by simpa using q
  refine ⟨He.free_ok X G o7, o8, fun i d h => ?_, fun i c h => ?_, fun i T all up h => ?_, fun i T all up h c hc => ?_, fun i T up h => ?_, fun i f all h c hc => ?_⟩
  · have q := List.all_eq_true.mp o1 _ (List.mem_of_getElem? h)
    have e2 : (x.ds.map fun d => xW K d.cls)[i]? = (x.ds.map XD.val)[i]? := by rw [ev]
    rw [List.getElem?_map, List.getElem?_map, h] at e2
    exact ⟨hd i h (Option.some.inj e2) q, He.glo_ok X G (He.ba q).1⟩
  · have q := List.all_eq_true.mp o2 _ (List.mem_of_getElem? h)
    obtain ⟨q1, q2⟩ := He.ba q
    obtain ⟨q2, q3⟩ := He.ba q2
    exact ⟨q2, q3, He.glo_ok X G q1⟩
  · have q := List.all_eq_true.mp o3 _ (List.mem_of_getElem? h)
    obtain ⟨q1, q2⟩ := He.ba q
    exact ⟨He.glo_ok X G q1, fun c hc => List.all_eq_true.mp q2 c (mem hc)⟩
  · have q := List.all_eq_true.mp o4 _ (List.mem_of_getElem? h)
    exact List.all_eq_true.mp q c (mem hc)
  · have q := List.all_eq_true.mp o5 _ (List.mem_of_getElem? h)
    obtain ⟨q1, q2⟩ := He.ba q
    exact ⟨He.glo_ok X G q1, fun c hc => of_decide_eq_true (List.all_eq_true.mp q2 c (mem hc))⟩
  · have q := List.all_eq_true.mp o6 _ (List.mem_of_getElem? h)
    obtain ⟨q1, q2⟩ := He.ba (List.all_eq_true.mp q c (mem hc))
    exact ⟨q1, He.eqO_ok q2⟩
section
variable {X : Cx} {C : Cn} {x : XS} {e : Expr} {m : M} {n : Str} {p p2 pos kpos : Pos} {k : Nat} {body : List Stmt}
theorem qx_is (a : XA X.prog X.K X.mg x) (i : Nat) {T : Str} {all up : List Str} (h : x.is[i]? = some (T, all, up)) (hm : X.mg "isinstance" = none) (he : QE X C e m) (hg : Gl X "isinstance" := by rfl) (hgT : Gl X T := by rfl) (hdb : (T == ("__debug__" : Str)) = false := by decide)
    (hs : starEach [e, .Name T p2] X.env = (false, eval e X.env) :: starEach [.Name T p2] X.env := by rfl) (hs2 : starEach [.Name T p2] X.env = (false, eval (.Name T p2) X.env) :: starEach [] X.env := by rfl) (hpl : (backTo pos (starEach [.Name T p2] X.env)).any (·.1) = false := by rfl) :
    QE X C (.Call (.Name "isinstance" p) [e, .Name T p2] [] pos) (mIsX all up m) :=
  qe_isX he hm (pe_glob (v := .ref (He.ga X.K T)) hgT (a.is i h).1 rfl hdb) (fun u r => r) (a.is i h).2 hg hs hs2 hpl
theorem qx_ib (a : XA X.prog X.K X.mg x) (i : Nat) {T : String} {all up : List Str} (h : x.ib[i]? = some (T, all, up)) (hb : bootBuiltins n = some (.type T)) (hmT : X.mg n = none) (hm : X.mg "isinstance" = none) (he : QE X C e m) (hg : Gl X "isinstance" := by rfl) (hgT : Gl X n := by rfl) (hn : n ≠ "__name__" := by decide) (hdb : (n == ("__debug__" : Str)) = false := by decide)
    (hs : starEach [e, .Name n p2] X.env = (false, eval e X.env) :: starEach [.Name n p2] X.env := by rfl) (hs2 : starEach [.Name n p2] X.env = (false, eval (.Name n p2) X.env) :: starEach [] X.env := by rfl) (hpl : (backTo pos (starEach [.Name n p2] X.env)).any (·.1) = false := by rfl) :
    QE X C (.Call (.Name "isinstance" p) [e, .Name n p2] [] pos) (mIsX all up m) :=
  qe_isX he hm (pe_bltn (v := V.ty T) hgT hmT hb rfl hn hdb) (fun u r => r) (a.ib i h) hg hs hs2 hpl
theorem qx_att (a : XA X.prog X.K X.mg x) (i : Nat) {f : Str} {all : List Str} (h : x.ats[i]? = some (f, all)) (he : QE X C e m) (hb : attributeBase e f X.env (eval e X.env) = eval e X.env := by rfl) : QE X C (.Attribute e f pos) (mXAtt all f m) := qe_xatt (a.ats i h) he hb
theorem qx_mk (a : XA X.prog X.K X.mg x) (i : Nat) {d : XD} (h : x.ds[i]? = some d) (hr : Room (k + 1) X.A) (he : QE X C e m) (hg : Gl X d.cls := by rfl) (hdb : (d.cls == ("__debug__" : Str)) = false := by decide)
    (hs : starEach [e] X.env = (false, eval e X.env) :: starEach [] X.env := by rfl) : QE X C (.Call (.Name d.cls p) [e] [] pos) (mMkX d.cls d.fld m) := qe_mkX (a.mks i h).1 (a.mks i h).2 hr a.sup he hg hdb hs
theorem qx_mkk (a : XA X.prog X.K X.mg x) (i : Nat) {d : XD} (h : x.ds[i]? = some d) (hr : Room (k + 1) X.A) (he : QE X C e m) (hg : Gl X d.cls := by rfl) (hdb : (d.cls == ("__debug__" : Str)) = false := by decide)
    (hall : (backToKw pos (keywordEach [⟨some d.arg, e, kpos⟩] X.env)).all (·.1.isSome) = true := by rfl) (hks : (backToKw pos (keywordEach [⟨some d.arg, e, kpos⟩] X.env)).filterMap (·.1) = [d.arg] := by rfl)
    (hpl : ((backTo pos (starEach [] X.env)).any (·.1) || (backToKw pos (keywordEach [⟨some d.arg, e, kpos⟩] X.env)).any (·.1.isNone)) = false := by rfl) : QE X C (.Call (.Name d.cls p) [] [⟨some d.arg, e, kpos⟩] pos) (mMkX d.cls d.fld m) :=
  qe_mkXk (a.mks i h).1 (a.mks i h).2 hr a.sup he hg hdb hall hks hpl
theorem qx_mk0 (a : XA X.prog X.K X.mg x) (i : Nat) {c : Str} (h : x.zs[i]? = some c) (hg : Gl X c := by rfl) (hdb : (c == ("__debug__" : Str)) = false := by decide) : QE X C (.Call (.Name c p) [] [] pos) (mMkX0 c) :=
  qe_mkX0 (a.zer i h).1 F.excBase_ValueError (a.zer i h).2.1 (a.zer i h).2.2 hg hdb
end
end Mn
set_option Elab.async false
set_option linter.all false
set_option maxRecDepth 100000
set_option maxHeartbeats 4000000
namespace LK
open PySem PySem.Spec PyProof.Rows L2 Mn
def xall : List Str := ["BadText", "BadTree", "BadPath", "BadStyle", "BadManner", "BadRows", "BadTexts", "BadHands", "BadPairs", "NoCommit", "NoFile", "BadFiles", "NoParent", "Clashes", "BadOrder", "BadLine", "BadRow", "NoStyleClash", "NothingToUndo", "NothingToRedo"]
/-- w_pot -/
def b_w_pot (t : Nat → F) : MS := (sSeq (sSet 2 (mIf (tVal (mBin fLt (mVar 1) (mCB cLen (aCons (mVar 0) aNil)))) (mBin fIx (mVar 0) (mVar 1)) (mBin fAdd (mBin fMul (mC (.int 47)) (mVar 1)) (mC (.int 23)))))
  (sSeq (sSet 3 (mBin fMul (mBin fMod (mCB cInt (aCons (mCB cAbs (aCons (mVar 2) aNil)) aNil)) (mBin fPow (mBin fPow (mC (.int 10)) (mC (.int 60))) (mC (.int 5)))) (mCB cInt (aCons (mBin fGe (mCB cAbs (aCons (mVar 2) aNil)) (mBin fPow (mC (.int 10)) (mC (.int 18)))) aNil))))
  (sRet (mLst (aCons (mVar 3) (aCons (mBin fMod (mCB cInt (aCons (mBin fAdd (mBin fAdd (mBin fMul (mBin fMod (mCB cInt (aCons (mVar 2) aNil)) (mC (.int 2305843009213693951))) (mC (.int 70991))) (mBin fMul (mBin fMul (mC (.int 5323)) (mVar 1)) (mVar 1))) (mC (.int 71))) aNil)) (mC (.int 2305843009213693921))) (aCons (mC (.int 0)) aNil)))))))
def f_w_pot (t : Nat → F) : F := mDef 2 4 (b_w_pot t)
/-- w_take -/
def b_w_take (t : Nat → F) : MS := (sSeq (sIf (tVal (mBin fGt (mBin fIx (mVar 0) (mC (.int 0))) (mC (.int 0)))) (sSeq (sSet 4 (mBin fMod (mCB cInt (aCons (mBin fIx (mVar 0) (mC (.int 0))) aNil)) (mVar 1)))
  (sSeq (sPut (mVar 0) (mC (.int 0)) (mBin fDiv (mBin fIx (mVar 0) (mC (.int 0))) (mVar 1)))
  (sRet (mVar 4)))) sNil)
  (sSeq (sPut (mVar 0) (mC (.int 2)) (mBin fAdd (mBin fIx (mVar 0) (mC (.int 2))) (mC (.int 1))))
  (sSeq (sSet 2 (mBin fIx (mLst (aCons (mC (.int 2147483647)) (aCons (mC (.int 2147483629)) (aCons (mC (.int 2147483587)) (aCons (mC (.int 2147483579)) (aCons (mC (.int 2147483563)) aNil)))))) (mBin fMod (mCB cInt (aCons (mBin fIx (mVar 0) (mC (.int 2))) aNil)) (mC (.int 5)))))
  (sSeq (sSet 3 (mBin fMod (mCB cInt (aCons (mBin fPow (mCB cInt (aCons (mBin fAdd (mBin fAdd (mBin fIx (mVar 0) (mC (.int 1))) (mBin fMul (mBin fMul (mC (.int 99991)) (mBin fIx (mVar 0) (mC (.int 2)))) (mBin fIx (mVar 0) (mC (.int 2))))) (mC (.int 41))) aNil)) (mC (.int 3))) aNil)) (mVar 2)))
  (sSeq (sSet 3 (mBin fMod (mCB cInt (aCons (mBin fMul (mVar 3) (mBin fAdd (mBin fMod (mCB cInt (aCons (mVar 3) aNil)) (mC (.int 10009))) (mBin fMul (mC (.int 83)) (mBin fIx (mVar 0) (mC (.int 2)))))) aNil)) (mC (.int 2305843009213693907))))
  (sRet (mBin fMod (mCB cInt (aCons (mBin fDiv (mVar 3) (mC (.int 109))) aNil)) (mVar 1))))))))
def f_w_take (t : Nat → F) : F := mDef 2 5 (b_w_take t)
/-- w_of -/
def b_w_of (t : Nat → F) : MS := (sRet (mBin fIx (mVar 1) (mCB (t 1) (aCons (mVar 0) (aCons (mCB cLen (aCons (mVar 1) aNil)) aNil)))))
def f_w_of (t : Nat → F) : F := mDef 2 2 (b_w_of t)
/-- w_odd -/
def b_w_odd (t : Nat → F) : MS := (sSeq (sSet 1 (mLst (aCons (mC .non) (aCons (mC (.bl true)) (aCons (mC (.int 0)) (aCons (mUn fNeg (mC (.int 1))) (aCons (mBin fPow (mC (.int 10)) (mC (.int 40))) (aCons (mC (.str "")) (aCons (mC (.str "x = 1;")) (aCons (mTup aNil) (aCons (mLst aNil) (aCons mNewT (aCons (mTup (aCons (mC (.int 1)) (aCons (mC (.int 2)) aNil))) (aCons (mLst (aCons (mC (.str "a")) aNil)) (aCons (mDisp (pCons (mC (.str "a")) (mC (.int 1)) pNil)) (aCons (mTup (aCons (mC (.str "a")) (aCons (mTup aNil) aNil))) (aCons (mC (.str "\n")) aNil)))))))))))))))))
  (sSeq (sSet 2 (mCB (t 2) (aCons (mVar 0) (aCons (mVar 1) aNil))))
  (sSeq (sFor (iRange1 (aCons (mCB (t 2) (aCons (mVar 0) (aCons (mLst (aCons (mC (.int 0)) (aCons (mC (.int 0)) (aCons (mC (.int 1)) (aCons (mC (.int 2)) (aCons (mC (.int 20)) aNil)))))) aNil))) aNil)) (.nm 3) (sSet 2 (mCB (t 2) (aCons (mVar 0) (aCons (mLst (aCons (mTup (aCons (mVar 2) aNil)) (aCons (mLst (aCons (mVar 2) aNil)) (aCons (mDisp (pCons (mC (.str "a")) (mVar 2) pNil)) (aCons (mTup (aCons (mVar 2) (aCons (mC .non) aNil))) aNil))))) aNil)))))
  (sRet (mVar 2)))))
def f_w_odd (t : Nat → F) : F := mDef 1 4 (b_w_odd t)
/-- w_marks -/
def b_w_marks (t : Nat → F) : MS := (sSeq (sSet 1 (mLst (aCons (mIsX xall ["BadText"] (mVar 0)) (aCons (mIsX xall ["BadTree"] (mVar 0)) aNil))))
  (sSeq (sSet 1 (mBin fAdd (mVar 1) (mLst (aCons (mIsX xall ["BadPath"] (mVar 0)) (aCons (mIsX xall ["BadStyle"] (mVar 0)) aNil)))))
  (sSeq (sSet 1 (mBin fAdd (mVar 1) (mLst (aCons (mIsX xall ["BadManner"] (mVar 0)) (aCons (mIsX xall ["BadRow"] (mVar 0)) aNil)))))
  (sSeq (sSet 1 (mBin fAdd (mVar 1) (mLst (aCons (mIsX xall ["BadRows"] (mVar 0)) (aCons (mIsX xall ["NoStyleClash"] (mVar 0)) aNil)))))
  (sSeq (sSet 1 (mBin fAdd (mVar 1) (mLst (aCons (mIsX xall ["BadTexts"] (mVar 0)) (aCons (mIsX xall ["BadHands"] (mVar 0)) aNil)))))
  (sSeq (sSet 1 (mBin fAdd (mVar 1) (mLst (aCons (mIsX xall ["BadPairs"] (mVar 0)) (aCons (mIsX xall ["NoCommit"] (mVar 0)) aNil)))))
  (sSeq (sSet 1 (mBin fAdd (mVar 1) (mLst (aCons (mIsX xall ["NoFile"] (mVar 0)) (aCons (mIsX xall ["BadFiles"] (mVar 0)) aNil)))))
  (sSeq (sSet 1 (mBin fAdd (mVar 1) (mLst (aCons (mIsX xall ["NoParent"] (mVar 0)) (aCons (mIsX xall ["Clashes"] (mVar 0)) aNil)))))
  (sSeq (sSet 1 (mBin fAdd (mVar 1) (mLst (aCons (mIsX xall ["BadOrder"] (mVar 0)) (aCons (mIsX xall ["NothingToUndo"] (mVar 0)) aNil)))))
  (sSeq (sSet 1 (mBin fAdd (mVar 1) (mLst (aCons (mIsX xall ["NothingToRedo"] (mVar 0)) (aCons (mIsX xall ["BadLine"] (mVar 0)) aNil)))))
  (sRet (mVar 1))))))))))))
def f_w_marks (t : Nat → F) : F := mDef 1 2 (b_w_marks t)
/-- w_all_made -/
def b_w_all_made (t : Nat → F) : MS := (sSeq (sSet 1 (mLst (aCons (mMkX "BadText" "row" (mVar 0)) (aCons (mMkX "BadTree" "value" (mVar 0)) (aCons (mMkX "BadPath" "value" (mVar 0)) (aCons (mMkX "BadStyle" "value" (mVar 0)) (aCons (mMkX "BadManner" "value" (mVar 0)) (aCons (mMkX "BadRow" "value" (mVar 0)) (aCons (mMkX "BadRows" "value" (mVar 0)) aNil)))))))))
  (sSeq (sSet 1 (mBin fAdd (mVar 1) (mLst (aCons (mMkX0 "NoStyleClash") (aCons (mMkX "BadTexts" "value" (mVar 0)) (aCons (mMkX "BadHands" "value" (mVar 0)) (aCons (mMkX "BadPairs" "value" (mVar 0)) (aCons (mMkX "NoCommit" "value" (mVar 0)) (aCons (mMkX "NoFile" "value" (mVar 0)) aNil)))))))))
  (sSeq (sSet 1 (mBin fAdd (mVar 1) (mLst (aCons (mMkX "BadFiles" "value" (mVar 0)) (aCons (mMkX "NoParent" "value" (mVar 0)) (aCons (mMkX "Clashes" "value" (mVar 0)) (aCons (mMkX "BadOrder" "value" (mVar 0)) (aCons (mMkX0 "NothingToUndo") (aCons (mMkX0 "NothingToRedo") aNil)))))))))
  (sRet (mBin fAdd (mVar 1) (mLst (aCons (mMkX "BadLine" "line" (mVar 0)) aNil)))))))
def f_w_all_made (t : Nat → F) : F := mDef 1 2 (b_w_all_made t)
/-- w_all_kept -/
def b_w_all_kept (t : Nat → F) : MS := (sSeq (sSet 1 (mBin fAdd (mSl (mVar 0) (oSome (mC (.int 1))) (oSome (mC (.int 7)))) (mSl (mVar 0) (oSome (mC (.int 8))) (oSome (mC (.int 17))))))
  (sRet (mBin fAdd (mComp (iVal (mVar 1)) (.nm 2) tYesM (mXAtt ["BadTree", "BadPath", "BadStyle", "BadManner", "BadRows", "BadTexts", "BadHands", "BadPairs", "NoCommit", "NoFile", "BadFiles", "NoParent", "Clashes", "BadOrder", "BadRow"] "value" (mVar 2)) [2]) (mLst (aCons (mXAtt ["BadText"] "row" (mBin fIx (mVar 0) (mC (.int 0)))) (aCons (mXAtt ["BadLine"] "line" (mBin fIx (mVar 0) (mC (.int 19)))) aNil))))))
def f_w_all_kept (t : Nat → F) : F := mDef 1 3 (b_w_all_kept t)
/-- w_named_right -/
def b_w_named_right (t : Nat → F) : MS := (sSeq (sSet 1 (mLst (aCons (mXAtt ["BadText"] "row" (mMkX "BadText" "row" (mVar 0))) (aCons (mXAtt ["BadLine"] "line" (mMkX "BadLine" "line" (mVar 0))) (aCons (mXAtt ["BadTree", "BadPath", "BadStyle", "BadManner", "BadRows", "BadTexts", "BadHands", "BadPairs", "NoCommit", "NoFile", "BadFiles", "NoParent", "Clashes", "BadOrder", "BadRow"] "value" (mMkX "BadTree" "value" (mVar 0))) (aCons (mXAtt ["BadTree", "BadPath", "BadStyle", "BadManner", "BadRows", "BadTexts", "BadHands", "BadPairs", "NoCommit", "NoFile", "BadFiles", "NoParent", "Clashes", "BadOrder", "BadRow"] "value" (mMkX "BadPath" "value" (mVar 0))) aNil))))))
  (sSeq (sSet 1 (mBin fAdd (mVar 1) (mLst (aCons (mXAtt ["BadTree", "BadPath", "BadStyle", "BadManner", "BadRows", "BadTexts", "BadHands", "BadPairs", "NoCommit", "NoFile", "BadFiles", "NoParent", "Clashes", "BadOrder", "BadRow"] "value" (mMkX "BadStyle" "value" (mVar 0))) (aCons (mXAtt ["BadTree", "BadPath", "BadStyle", "BadManner", "BadRows", "BadTexts", "BadHands", "BadPairs", "NoCommit", "NoFile", "BadFiles", "NoParent", "Clashes", "BadOrder", "BadRow"] "value" (mMkX "BadManner" "value" (mVar 0))) (aCons (mXAtt ["BadTree", "BadPath", "BadStyle", "BadManner", "BadRows", "BadTexts", "BadHands", "BadPairs", "NoCommit", "NoFile", "BadFiles", "NoParent", "Clashes", "BadOrder", "BadRow"] "value" (mMkX "BadRow" "value" (mVar 0))) aNil))))))
  (sSeq (sSet 1 (mBin fAdd (mVar 1) (mLst (aCons (mXAtt ["BadTree", "BadPath", "BadStyle", "BadManner", "BadRows", "BadTexts", "BadHands", "BadPairs", "NoCommit", "NoFile", "BadFiles", "NoParent", "Clashes", "BadOrder", "BadRow"] "value" (mMkX "BadRows" "value" (mVar 0))) (aCons (mXAtt ["BadTree", "BadPath", "BadStyle", "BadManner", "BadRows", "BadTexts", "BadHands", "BadPairs", "NoCommit", "NoFile", "BadFiles", "NoParent", "Clashes", "BadOrder", "BadRow"] "value" (mMkX "BadTexts" "value" (mVar 0))) (aCons (mXAtt ["BadTree", "BadPath", "BadStyle", "BadManner", "BadRows", "BadTexts", "BadHands", "BadPairs", "NoCommit", "NoFile", "BadFiles", "NoParent", "Clashes", "BadOrder", "BadRow"] "value" (mMkX "BadHands" "value" (mVar 0))) aNil))))))
  (sSeq (sSet 1 (mBin fAdd (mVar 1) (mLst (aCons (mXAtt ["BadTree", "BadPath", "BadStyle", "BadManner", "BadRows", "BadTexts", "BadHands", "BadPairs", "NoCommit", "NoFile", "BadFiles", "NoParent", "Clashes", "BadOrder", "BadRow"] "value" (mMkX "BadPairs" "value" (mVar 0))) (aCons (mXAtt ["BadTree", "BadPath", "BadStyle", "BadManner", "BadRows", "BadTexts", "BadHands", "BadPairs", "NoCommit", "NoFile", "BadFiles", "NoParent", "Clashes", "BadOrder", "BadRow"] "value" (mMkX "NoCommit" "value" (mVar 0))) (aCons (mXAtt ["BadTree", "BadPath", "BadStyle", "BadManner", "BadRows", "BadTexts", "BadHands", "BadPairs", "NoCommit", "NoFile", "BadFiles", "NoParent", "Clashes", "BadOrder", "BadRow"] "value" (mMkX "NoFile" "value" (mVar 0))) aNil))))))
  (sSeq (sSet 1 (mBin fAdd (mVar 1) (mLst (aCons (mXAtt ["BadTree", "BadPath", "BadStyle", "BadManner", "BadRows", "BadTexts", "BadHands", "BadPairs", "NoCommit", "NoFile", "BadFiles", "NoParent", "Clashes", "BadOrder", "BadRow"] "value" (mMkX "BadFiles" "value" (mVar 0))) (aCons (mXAtt ["BadTree", "BadPath", "BadStyle", "BadManner", "BadRows", "BadTexts", "BadHands", "BadPairs", "NoCommit", "NoFile", "BadFiles", "NoParent", "Clashes", "BadOrder", "BadRow"] "value" (mMkX "NoParent" "value" (mVar 0))) (aCons (mXAtt ["BadTree", "BadPath", "BadStyle", "BadManner", "BadRows", "BadTexts", "BadHands", "BadPairs", "NoCommit", "NoFile", "BadFiles", "NoParent", "Clashes", "BadOrder", "BadRow"] "value" (mMkX "Clashes" "value" (mVar 0))) aNil))))))
  (sRet (mBin fEq (mCB cReprX (aCons (mBin fAdd (mVar 1) (mLst (aCons (mXAtt ["BadTree", "BadPath", "BadStyle", "BadManner", "BadRows", "BadTexts", "BadHands", "BadPairs", "NoCommit", "NoFile", "BadFiles", "NoParent", "Clashes", "BadOrder", "BadRow"] "value" (mMkX "BadOrder" "value" (mVar 0))) aNil))) aNil)) (mCB cReprX (aCons (mBin fMul (mLst (aCons (mVar 0) aNil)) (mC (.int 17))) aNil)))))))))
def f_w_named_right (t : Nat → F) : F := mDef 1 2 (b_w_named_right t)
/-- w_right -/
def b_w_right (t : Nat → F) : MS := (sSeq (sSet 1 (mCB (t 3) (aCons (mVar 0) aNil)))
  (sSeq (sSet 2 (mCB (t 5) (aCons (mVar 1) aNil)))
  (sSeq (sFor (iEnum2 (aCons (mVar 2) aNil)) (.tp [(.nm 3), (.nm 4)]) (sSeq (sIf (tVal (mBin fNe (mCB (t 4) (aCons (mVar 4) aNil)) (mComp (iRange1 (aCons (mC (.int 20)) aNil)) (.nm 5) tYesM (mBin fEq (mVar 3) (mVar 5)) [5]))) (sRet (mC (.bl false))) sNil)
  (sIf (tOr (tNot (tVal (mIsX xall ["BadText", "BadTree", "BadPath", "BadStyle", "BadManner", "BadRows", "BadTexts", "BadHands", "BadPairs", "NoCommit", "NoFile", "BadFiles", "NoParent", "Clashes", "BadOrder", "BadLine", "BadRow", "NoStyleClash", "NothingToUndo", "NothingToRedo"] (mVar 4)))) (tNot (tVal (mIsX xall ["BadText", "BadTree", "BadPath", "BadStyle", "BadManner", "BadRows", "BadTexts", "BadHands", "BadPairs", "NoCommit", "NoFile", "BadFiles", "NoParent", "Clashes", "BadOrder", "BadLine", "BadRow", "NoStyleClash", "NothingToUndo", "NothingToRedo"] (mVar 4))))) (sRet (mC (.bl false))) sNil)))
  (sRet (mAnd (mBin fEq (mCB cReprX (aCons (mCB (t 6) (aCons (mVar 2) aNil)) aNil)) (mCB cReprX (aCons (mBin fMul (mLst (aCons (mVar 1) aNil)) (mC (.int 17))) aNil))) (mCB (t 7) (aCons (mVar 1) aNil)))))))
def f_w_right (t : Nat → F) : F := mDef 1 6 (b_w_right t)
/-- law -/
def b_law (t : Nat → F) : MS := (sSeq (sFor (iRange1 (aCons (mCB cMax (aCons (mC (.int 1)) (aCons (mCB cMin (aCons (mC (.int 3)) (aCons (mCB cLen (aCons (mVar 0) aNil)) aNil))) aNil))) aNil)) (.nm 1) (sSeq (sSet 2 (mCB (t 0) (aCons (mVar 0) (aCons (mVar 1) aNil))))
  (sIf (tNot (tVal (mCB cAll (aCons (mComp (iRange1 (aCons (mC (.int 6)) aNil)) (.nm 3) tYesM (mCB (t 8) (aCons (mVar 2) aNil)) [3]) aNil)))) (sRet (mC (.bl false))) sNil)))
  (sRet (mC (.bl true))))
def f_law (t : Nat → F) : F := mDef 1 4 (b_law t)
def row (t : Nat → F) : Nat → F
  | 0 => f_w_pot t
  | 1 => f_w_take t
  | 2 => f_w_of t
  | 3 => f_w_odd t
  | 4 => f_w_marks t
  | 5 => f_w_all_made t
  | 6 => f_w_all_kept t
  | 7 => f_w_named_right t
  | 8 => f_w_right t
  | 9 => f_law t
  | _ => fun _ _ => .bad
/-- the defs, so many calls deep -/
def tab : Nat → Nat → F
  | 0, _ => fun _ _ => .bad
  | k + 1, i => row (tab k) i
end LK
set_option Elab.async false
set_option linter.all false
set_option maxRecDepth 100000
set_option maxHeartbeats 4000000
namespace LK
open PySem PySem.Spec PyProof.Rows L2 Mn
def top (i : Nat) : Stmt := PySem.Challenge.pw_styleamid_k99_errors_made_with_any_value.main.body.getD i (.Pass ⟨0, 0, 0, 0⟩)
def dOf (n : Str) (i : Nat) : He.DefD := ⟨(n, none), n, n, defArgs (top i), defBody (top i), defScope (top i), [], []⟩
def cBody : Stmt → List Stmt
  | .ClassDef _ _ _ body _ _ _ _ _ _ _ => body
  | _ => []
def sub (i j : Nat) : Stmt := (cBody (top i)).getD j (.Pass ⟨0, 0, 0, 0⟩)
def fn0 : List He.DefD := [(dOf "_law_pot" 23), (dOf "_law_take" 24), (dOf "_law_of" 25), (dOf "_law_odd" 26), (dOf "_law_marks" 27), (dOf "_law_all_made" 28), (dOf "_law_all_kept" 29), (dOf "_law_named_right" 30), (dOf "_law_right" 31), (dOf "law" 32)]
def fn : List He.DefD := fn0
def mores : List He.Fa := []
def cs : Cs := ⟨[], [], ["len", "int", "abs", "range", "isinstance", "repr", "enumerate", "ValueError", "max", "min", "all"], mores⟩
def xd_BadRows : XD := ⟨"BadRows", "value", "value", PySem.Challenge.pw_styleamid_k99_errors_made_with_any_value.main.file, "__init__", "BadRows.__init__", defArgs (sub 7 0), defBody (sub 7 0), defScope (sub 7 0)⟩
def xd_BadRow : XD := ⟨"BadRow", "value", "value", PySem.Challenge.pw_styleamid_k99_errors_made_with_any_value.main.file, "__init__", "BadRow.__init__", defArgs (sub 18 0), defBody (sub 18 0), defScope (sub 18 0)⟩
def xd_BadManner : XD := ⟨"BadManner", "value", "value", PySem.Challenge.pw_styleamid_k99_errors_made_with_any_value.main.file, "__init__", "BadManner.__init__", defArgs (sub 6 0), defBody (sub 6 0), defScope (sub 6 0)⟩
def xd_BadStyle : XD := ⟨"BadStyle", "value", "value", PySem.Challenge.pw_styleamid_k99_errors_made_with_any_value.main.file, "__init__", "BadStyle.__init__", defArgs (sub 5 0), defBody (sub 5 0), defScope (sub 5 0)⟩
def xd_BadPath : XD := ⟨"BadPath", "value", "value", PySem.Challenge.pw_styleamid_k99_errors_made_with_any_value.main.file, "__init__", "BadPath.__init__", defArgs (sub 4 0), defBody (sub 4 0), defScope (sub 4 0)⟩
def xd_BadTree : XD := ⟨"BadTree", "value", "value", PySem.Challenge.pw_styleamid_k99_errors_made_with_any_value.main.file, "__init__", "BadTree.__init__", defArgs (sub 3 0), defBody (sub 3 0), defScope (sub 3 0)⟩
def xd_BadText : XD := ⟨"BadText", "row", "row", PySem.Challenge.pw_styleamid_k99_errors_made_with_any_value.main.file, "__init__", "BadText.__init__", defArgs (sub 2 0), defBody (sub 2 0), defScope (sub 2 0)⟩
def xd_NoFile : XD := ⟨"NoFile", "value", "value", PySem.Challenge.pw_styleamid_k99_errors_made_with_any_value.main.file, "__init__", "NoFile.__init__", defArgs (sub 12 0), defBody (sub 12 0), defScope (sub 12 0)⟩
def xd_NoCommit : XD := ⟨"NoCommit", "value", "value", PySem.Challenge.pw_styleamid_k99_errors_made_with_any_value.main.file, "__init__", "NoCommit.__init__", defArgs (sub 11 0), defBody (sub 11 0), defScope (sub 11 0)⟩
def xd_BadPairs : XD := ⟨"BadPairs", "value", "value", PySem.Challenge.pw_styleamid_k99_errors_made_with_any_value.main.file, "__init__", "BadPairs.__init__", defArgs (sub 10 0), defBody (sub 10 0), defScope (sub 10 0)⟩
def xd_BadHands : XD := ⟨"BadHands", "value", "value", PySem.Challenge.pw_styleamid_k99_errors_made_with_any_value.main.file, "__init__", "BadHands.__init__", defArgs (sub 9 0), defBody (sub 9 0), defScope (sub 9 0)⟩
def xd_BadTexts : XD := ⟨"BadTexts", "value", "value", PySem.Challenge.pw_styleamid_k99_errors_made_with_any_value.main.file, "__init__", "BadTexts.__init__", defArgs (sub 8 0), defBody (sub 8 0), defScope (sub 8 0)⟩
def xd_BadOrder : XD := ⟨"BadOrder", "value", "value", PySem.Challenge.pw_styleamid_k99_errors_made_with_any_value.main.file, "__init__", "BadOrder.__init__", defArgs (sub 16 0), defBody (sub 16 0), defScope (sub 16 0)⟩
def xd_Clashes : XD := ⟨"Clashes", "value", "value", PySem.Challenge.pw_styleamid_k99_errors_made_with_any_value.main.file, "__init__", "Clashes.__init__", defArgs (sub 15 0), defBody (sub 15 0), defScope (sub 15 0)⟩
def xd_NoParent : XD := ⟨"NoParent", "value", "value", PySem.Challenge.pw_styleamid_k99_errors_made_with_any_value.main.file, "__init__", "NoParent.__init__", defArgs (sub 14 0), defBody (sub 14 0), defScope (sub 14 0)⟩
def xd_BadFiles : XD := ⟨"BadFiles", "value", "value", PySem.Challenge.pw_styleamid_k99_errors_made_with_any_value.main.file, "__init__", "BadFiles.__init__", defArgs (sub 13 0), defBody (sub 13 0), defScope (sub 13 0)⟩
def xd_BadLine : XD := ⟨"BadLine", "line", "line", PySem.Challenge.pw_styleamid_k99_errors_made_with_any_value.main.file, "__init__", "BadLine.__init__", defArgs (sub 17 0), defBody (sub 17 0), defScope (sub 17 0)⟩
def xs : XS := ⟨[xd_BadRows, xd_BadRow, xd_BadManner, xd_BadStyle, xd_BadPath, xd_BadTree, xd_BadText, xd_NoFile, xd_NoCommit, xd_BadPairs, xd_BadHands, xd_BadTexts, xd_BadOrder, xd_Clashes, xd_NoParent, xd_BadFiles, xd_BadLine], ["NoStyleClash", "NothingToRedo", "NothingToUndo"], [("BadTree", xall, ["BadTree"]), ("BadText", xall, ["BadText"]), ("BadStyle", xall, ["BadStyle"]), ("BadPath", xall, ["BadPath"]), ("BadRow", xall, ["BadRow"]), ("BadManner", xall, ["BadManner"]), ("NoStyleClash", xall, ["NoStyleClash"]), ("BadRows", xall, ["BadRows"]), ("BadHands", xall, ["BadHands"]), ("BadTexts", xall, ["BadTexts"]), ("NoCommit", xall, ["NoCommit"]), ("BadPairs", xall, ["BadPairs"]), ("BadFiles", xall, ["BadFiles"]), ("NoFile", xall, ["NoFile"]), ("Clashes", xall, ["Clashes"]), ("NoParent", xall, ["NoParent"]), ("NothingToUndo", xall, ["NothingToUndo"]), ("BadOrder", xall, ["BadOrder"]), ("BadLine", xall, ["BadLine"]), ("NothingToRedo", xall, ["NothingToRedo"]), ("StyleError", xall, ["BadText", "BadTree", "BadPath", "BadStyle", "BadManner", "BadRows", "BadTexts", "BadHands", "BadPairs", "NoCommit", "NoFile", "BadFiles", "NoParent", "Clashes", "BadOrder", "BadLine", "BadRow", "NoStyleClash", "NothingToUndo", "NothingToRedo"])], [("ValueError", xall, ["BadText", "BadTree", "BadPath", "BadStyle", "BadManner", "BadRows", "BadTexts", "BadHands", "BadPairs", "NoCommit", "NoFile", "BadFiles", "NoParent", "Clashes", "BadOrder", "BadLine", "BadRow", "NoStyleClash", "NothingToUndo", "NothingToRedo"])], [], [("value", ["BadTree", "BadPath", "BadStyle", "BadManner", "BadRows", "BadTexts", "BadHands", "BadPairs", "NoCommit", "NoFile", "BadFiles", "NoParent", "Clashes", "BadOrder", "BadRow"]), ("line", ["BadLine"]), ("row", ["BadText"])]⟩
def dfs : Nat → He.DefD
  | 0 => (dOf "_law_pot" 23)
  | 1 => (dOf "_law_take" 24)
  | 2 => (dOf "_law_of" 25)
  | 3 => (dOf "_law_odd" 26)
  | 4 => (dOf "_law_marks" 27)
  | 5 => (dOf "_law_all_made" 28)
  | 6 => (dOf "_law_all_kept" 29)
  | 7 => (dOf "_law_named_right" 30)
  | 8 => (dOf "_law_right" 31)
  | 9 => (dOf "law" 32)
  | _ => dOf "" 0
def pss : Nat → List Str
  | 0 => ["_law_script", "_law_k"]
  | 1 => ["_law_pot_here", "_law_upto"]
  | 2 => ["_law_pot_here", "_law_some"]
  | 3 => ["_law_pot_here"]
  | 4 => ["_law_fault"]
  | 5 => ["_law_odd_here"]
  | 6 => ["_law_faults"]
  | 7 => ["_law_odd_here"]
  | 8 => ["_law_pot_here"]
  | 9 => ["_law_script"]
  | _ => []
abbrev clX (K : PySem.W.Frag) : Str → Value := fun c => .ref (He.ga K c)
end LK
set_option Elab.async false
set_option linter.all false
set_option maxRecDepth 100000
set_option maxHeartbeats 0
namespace LK
open PySem PySem.Spec PySem.W PySem.Calls PyProof.Rows L2 Mn
abbrev R : PySem.W.OpenRow := PySem.W.OpenLaw.row PySem.Challenge.rw_styleamid_k99_errors_made_with_any_value
abbrev hk : PySem.W.Hook := hookX 1200 cs fn xs
def ob (s : PySem.W.SharedT) : AlX := obsX 1200 cs fn xs (HandSHeadRun.getT s)
theorem ob_eq (s : PySem.W.SharedT) : ob s = hk.obs s.abs := obsX_eq (HandSHeadRun.getT_eq s)
def nm0 : List PySem.Str := ["StyleError", "BadText", "BadTree", "BadPath", "BadStyle", "BadManner", "BadRows", "BadTexts", "BadHands", "BadPairs", "NoCommit", "NoFile", "BadFiles", "NoParent", "Clashes", "BadOrder", "BadLine", "BadRow", "NoStyleClash", "NothingToUndo"]
def nm1 : List PySem.Str := ["NothingToRedo", "_law_pot", "_law_take", "_law_of", "_law_odd", "_law_marks", "_law_all_made", "_law_all_kept", "_law_named_right", "_law_right"]
def names : List PySem.Str := nm0 ++ nm1
theorem run_f (w : World) : HandSHeadRun.RunEq R (PySem.W.view R.prog [32]) hk ob 20000 names (w.withFollow "special-get-raises" false) := by intro os; kernel_rfl
theorem run_t (w : World) : HandSHeadRun.RunEq R (PySem.W.view R.prog [32]) hk ob 20000 names (w.withFollow "special-get-raises" true) := by intro os; kernel_rfl
theorem run (w : World) : HandSHeadRun.RunEq R (PySem.W.view R.prog [32]) hk ob 20000 names w :=
  byRow2 "special-get-raises" (P := fun w => HandSHeadRun.RunEq R (PySem.W.view R.prog [32]) hk ob 20000 names w) run_f run_t w
end LK
set_option Elab.async false
set_option linter.all false
set_option maxRecDepth 100000
set_option maxHeartbeats 4000000
namespace LK
open PySem PySem.Spec PyProof.Rows L2 Mn
section
variable {P : Program} {w : World} {K : PySem.W.Frag} {mg : Str → Option Value} {base : Heap} {k : Nat} {t : Nat → F}
theorem bi_w_pot : ∀ (kV doc pm : Value) (an : Option Addr) (cdv ct : Value) (us : List Value), us.length = (["_law_script", "_law_k"] : List Str).length → bindArgs (PySem.W.fnOf (dOf "_law_pot" 23).name (dOf "_law_pot" 23).qual (dOf "_law_pot" 23).params (dOf "_law_pot" 23).body (dOf "_law_pot" 23).scope .none kV doc pm an cdv ct) ⟨us, []⟩ = pure ((["_law_script", "_law_k"] : List Str).zip us) :=
  fun _ _ _ _ _ _ us hl => match us, hl with | [_, _], _ => rfl
theorem sc_w_pot : FnScope ["_law_script", "_law_k", "_law_cell", "_law_own"] ["_law_script", "_law_k"] (dOf "_law_pot" 23).scope := ⟨rfl, rfl, rfl, by decide +kernel, rfl, by decide +kernel, by decide +kernel⟩
theorem q_w_pot (a : Amb w K mg cs fn) (x : XA P K mg xs) (T : ∀ j, j < 10 → FG P w K mg base (clX K) k (dfs j) (pss j) (t j)) : FG P w K mg base (clX K) (k + 1) (dOf "_law_pot" 23) ["_law_script", "_law_k"] (f_w_pot t) := by
  have nd := (sc_w_pot).nd
  refine fg_def a 0 rfl rfl sc_w_pot bi_w_pot fun f cdv A outer s H E hr1 hgd => ?_
  have hr := hr1.mono (Nat.le_succ _)
  have hq := room_q hr
  have hi := room_i hr
  have hp := room_p hr
  have hg1 := room_1 hr
  exact qss_cons (qs_set 2 nd (qe_if (qt_cmp (os_lt) (qe_var 1) (qe_callB (cs_len) (a.free 0 rfl) (by decide +kernel) (qa_cons (qe_var 0) (qa_nil)))) (qe_ix (qe_var 0) (qe_var 1)) (qe_bin os_add (qe_bin os_mul (qe_int) (qe_var 1)) (qe_int))))
      (qss_cons (qs_set 3 nd (qe_bin os_mul (qe_bin os_mod (qe_callTy (cs_int) (a.free 1 rfl) (by decide +kernel) (qa_cons (qe_callB (cs_abs) (a.free 2 rfl) (by decide +kernel) (qa_cons (qe_var 2) (qa_nil))) (qa_nil))) (qe_bin os_pow (qe_bin os_pow (qe_int) (qe_int)) (qe_int))) (qe_callTy (cs_int) (a.free 1 rfl) (by decide +kernel) (qa_cons (qe_cmp (os_ge) (qe_callB (cs_abs) (a.free 2 rfl) (by decide +kernel) (qa_cons (qe_var 2) (qa_nil))) (qe_bin os_pow (qe_int) (qe_int))) (qa_nil)))))
      (qss_one (qs_ret (qe_lst (qa_cons (qe_var 3) (qa_cons (qe_bin os_mod (qe_callTy (cs_int) (a.free 1 rfl) (by decide +kernel) (qa_cons (qe_bin os_add (qe_bin os_add (qe_bin os_mul (qe_bin os_mod (qe_callTy (cs_int) (a.free 1 rfl) (by decide +kernel) (qa_cons (qe_var 2) (qa_nil))) (qe_int)) (qe_int)) (qe_bin os_mul (qe_bin os_mul (qe_int) (qe_var 1)) (qe_var 1))) (qe_int)) (qa_nil))) (qe_int)) (qa_cons (qe_int) (qa_nil))))))))
theorem bi_w_take : ∀ (kV doc pm : Value) (an : Option Addr) (cdv ct : Value) (us : List Value), us.length = (["_law_pot_here", "_law_upto"] : List Str).length → bindArgs (PySem.W.fnOf (dOf "_law_take" 24).name (dOf "_law_take" 24).qual (dOf "_law_take" 24).params (dOf "_law_take" 24).body (dOf "_law_take" 24).scope .none kV doc pm an cdv ct) ⟨us, []⟩ = pure ((["_law_pot_here", "_law_upto"] : List Str).zip us) :=
  fun _ _ _ _ _ _ us hl => match us, hl with | [_, _], _ => rfl
theorem sc_w_take : FnScope ["_law_pot_here", "_law_upto", "_law_prime", "_law_mixed", "_law_digit"] ["_law_pot_here", "_law_upto"] (dOf "_law_take" 24).scope := ⟨rfl, rfl, rfl, by decide +kernel, rfl, by decide +kernel, by decide +kernel⟩
theorem q_w_take (a : Amb w K mg cs fn) (x : XA P K mg xs) (T : ∀ j, j < 10 → FG P w K mg base (clX K) k (dfs j) (pss j) (t j)) : FG P w K mg base (clX K) (k + 1) (dOf "_law_take" 24) ["_law_pot_here", "_law_upto"] (f_w_take t) := by
  have nd := (sc_w_take).nd
  refine fg_def a 1 rfl rfl sc_w_take bi_w_take fun f cdv A outer s H E hr1 hgd => ?_
  have hr := hr1.mono (Nat.le_succ _)
  have hq := room_q hr
  have hi := room_i hr
  have hp := room_p hr
  have hg1 := room_1 hr
  exact qss_cons (qs_if (qt_cmp (os_gt) (qe_ix (qe_var 0) (qe_int)) (qe_int)) (qss_cons (qs_set 4 nd (qe_bin os_mod (qe_callTy (cs_int) (a.free 1 rfl) (by decide +kernel) (qa_cons (qe_ix (qe_var 0) (qe_int)) (qa_nil))) (qe_var 1)))
      (qss_cons (qs_put (qe_bin os_div (qe_ix (qe_var 0) (qe_int)) (qe_var 1)) (qe_var 0) (qe_int))
      (qss_one (qs_ret (qe_var 4))))) (qss_nil))
      (qss_cons (qs_put (qe_bin os_add (qe_ix (qe_var 0) (qe_int)) (qe_int)) (qe_var 0) (qe_int))
      (qss_cons (qs_set 2 nd (qe_ix (qe_lst (qa_cons (qe_int) (qa_cons (qe_int) (qa_cons (qe_int) (qa_cons (qe_int) (qa_cons (qe_int) (qa_nil))))))) (qe_bin os_mod (qe_callTy (cs_int) (a.free 1 rfl) (by decide +kernel) (qa_cons (qe_ix (qe_var 0) (qe_int)) (qa_nil))) (qe_int))))
      (qss_cons (qs_set 3 nd (qe_bin os_mod (qe_callTy (cs_int) (a.free 1 rfl) (by decide +kernel) (qa_cons (qe_bin os_pow (qe_callTy (cs_int) (a.free 1 rfl) (by decide +kernel) (qa_cons (qe_bin os_add (qe_bin os_add (qe_ix (qe_var 0) (qe_int)) (qe_bin os_mul (qe_bin os_mul (qe_int) (qe_ix (qe_var 0) (qe_int))) (qe_ix (qe_var 0) (qe_int)))) (qe_int)) (qa_nil))) (qe_int)) (qa_nil))) (qe_var 2)))
      (qss_cons (qs_set 3 nd (qe_bin os_mod (qe_callTy (cs_int) (a.free 1 rfl) (by decide +kernel) (qa_cons (qe_bin os_mul (qe_var 3) (qe_bin os_add (qe_bin os_mod (qe_callTy (cs_int) (a.free 1 rfl) (by decide +kernel) (qa_cons (qe_var 3) (qa_nil))) (qe_int)) (qe_bin os_mul (qe_int) (qe_ix (qe_var 0) (qe_int))))) (qa_nil))) (qe_int)))
      (qss_one (qs_ret (qe_bin os_mod (qe_callTy (cs_int) (a.free 1 rfl) (by decide +kernel) (qa_cons (qe_bin os_div (qe_var 3) (qe_int)) (qa_nil))) (qe_var 1))))))))
theorem bi_w_of : ∀ (kV doc pm : Value) (an : Option Addr) (cdv ct : Value) (us : List Value), us.length = (["_law_pot_here", "_law_some"] : List Str).length → bindArgs (PySem.W.fnOf (dOf "_law_of" 25).name (dOf "_law_of" 25).qual (dOf "_law_of" 25).params (dOf "_law_of" 25).body (dOf "_law_of" 25).scope .none kV doc pm an cdv ct) ⟨us, []⟩ = pure ((["_law_pot_here", "_law_some"] : List Str).zip us) :=
  fun _ _ _ _ _ _ us hl => match us, hl with | [_, _], _ => rfl
theorem sc_w_of : FnScope ["_law_pot_here", "_law_some"] ["_law_pot_here", "_law_some"] (dOf "_law_of" 25).scope := ⟨rfl, rfl, rfl, by decide +kernel, rfl, by decide +kernel, by decide +kernel⟩
theorem q_w_of (a : Amb w K mg cs fn) (x : XA P K mg xs) (T : ∀ j, j < 10 → FG P w K mg base (clX K) k (dfs j) (pss j) (t j)) : FG P w K mg base (clX K) (k + 1) (dOf "_law_of" 25) ["_law_pot_here", "_law_some"] (f_w_of t) := by
  have nd := (sc_w_of).nd
  refine fg_def a 2 rfl rfl sc_w_of bi_w_of fun f cdv A outer s H E hr1 hgd => ?_
  have hr := hr1.mono (Nat.le_succ _)
  have hq := room_q hr
  have hi := room_i hr
  have hp := room_p hr
  have hg1 := room_1 hr
  exact qss_one (qs_ret (qe_ix (qe_var 1) (qe_fn (T 1 (by decide)) hr hgd (takes_of rfl rfl rfl rfl) (qa_cons (qe_var 0) (qa_cons (qe_callB (cs_len) (a.free 0 rfl) (by decide +kernel) (qa_cons (qe_var 1) (qa_nil))) (qa_nil))))))
theorem bi_w_odd : ∀ (kV doc pm : Value) (an : Option Addr) (cdv ct : Value) (us : List Value), us.length = (["_law_pot_here"] : List Str).length → bindArgs (PySem.W.fnOf (dOf "_law_odd" 26).name (dOf "_law_odd" 26).qual (dOf "_law_odd" 26).params (dOf "_law_odd" 26).body (dOf "_law_odd" 26).scope .none kV doc pm an cdv ct) ⟨us, []⟩ = pure ((["_law_pot_here"] : List Str).zip us) :=
  fun _ _ _ _ _ _ us hl => match us, hl with | [_], _ => rfl
theorem sc_w_odd : FnScope ["_law_pot_here", "_law_some", "_law_found", "_law_lap"] ["_law_pot_here"] (dOf "_law_odd" 26).scope := ⟨rfl, rfl, rfl, by decide +kernel, rfl, by decide +kernel, by decide +kernel⟩
theorem q_w_odd (a : Amb w K mg cs fn) (x : XA P K mg xs) (T : ∀ j, j < 10 → FG P w K mg base (clX K) k (dfs j) (pss j) (t j)) : FG P w K mg base (clX K) (k + 1) (dOf "_law_odd" 26) ["_law_pot_here"] (f_w_odd t) := by
  have nd := (sc_w_odd).nd
  refine fg_def a 3 rfl rfl sc_w_odd bi_w_odd fun f cdv A outer s H E hr1 hgd => ?_
  have hr := hr1.mono (Nat.le_succ _)
  have hq := room_q hr
  have hi := room_i hr
  have hp := room_p hr
  have hg1 := room_1 hr
  exact qss_cons (qs_set 1 nd (qe_lst (qa_cons (qe_non) (qa_cons (qe_bl) (qa_cons (qe_int) (qa_cons (qe_un us_neg (qe_int)) (qa_cons (qe_bin os_pow (qe_int) (qe_int)) (qa_cons (qe_str) (qa_cons (qe_str) (qa_cons (qe_tup (qa_nil)) (qa_cons (qe_lst (qa_nil)) (qa_cons (qe_newT) (qa_cons (qe_tup (qa_cons (qe_int) (qa_cons (qe_int) (qa_nil)))) (qa_cons (qe_lst (qa_cons (qe_str) (qa_nil))) (qa_cons (qe_disp (qpr_cons (qe_str) (qe_int) (qpr_nil))) (qa_cons (qe_tup (qa_cons (qe_str) (qa_cons (qe_tup (qa_nil)) (qa_nil)))) (qa_cons (qe_str) (qa_nil))))))))))))))))))
      (qss_cons (qs_set 2 nd (qe_fn (T 2 (by decide)) hr hgd (takes_of rfl rfl rfl rfl) (qa_cons (qe_var 0) (qa_cons (qe_var 1) (qa_nil)))))
      (qss_cons (qs_for (passes_of rfl) rfl (qi_range1 (a.free 3 rfl) (qa_cons (qe_fn (T 2 (by decide)) hr hgd (takes_of rfl rfl rfl rfl) (qa_cons (qe_var 0) (qa_cons (qe_lst (qa_cons (qe_int) (qa_cons (qe_int) (qa_cons (qe_int) (qa_cons (qe_int) (qa_cons (qe_int) (qa_nil))))))) (qa_nil)))) (qa_nil))) (qp_nm 3 nd) (qss_one (qs_set 2 nd (qe_fn (T 2 (by decide)) hr hgd (takes_of rfl rfl rfl rfl) (qa_cons (qe_var 0) (qa_cons (qe_lst (qa_cons (qe_tup (qa_cons (qe_var 2) (qa_nil))) (qa_cons (qe_lst (qa_cons (qe_var 2) (qa_nil))) (qa_cons (qe_disp (qpr_cons (qe_str) (qe_var 2) (qpr_nil))) (qa_cons (qe_tup (qa_cons (qe_var 2) (qa_cons (qe_non) (qa_nil)))) (qa_nil)))))) (qa_nil)))))))
      (qss_one (qs_ret (qe_var 2)))))
theorem bi_w_marks : ∀ (kV doc pm : Value) (an : Option Addr) (cdv ct : Value) (us : List Value), us.length = (["_law_fault"] : List Str).length → bindArgs (PySem.W.fnOf (dOf "_law_marks" 27).name (dOf "_law_marks" 27).qual (dOf "_law_marks" 27).params (dOf "_law_marks" 27).body (dOf "_law_marks" 27).scope .none kV doc pm an cdv ct) ⟨us, []⟩ = pure ((["_law_fault"] : List Str).zip us) :=
  fun _ _ _ _ _ _ us hl => match us, hl with | [_], _ => rfl
theorem sc_w_marks : FnScope ["_law_fault", "_law_marks_here"] ["_law_fault"] (dOf "_law_marks" 27).scope := ⟨rfl, rfl, rfl, by decide +kernel, rfl, by decide +kernel, by decide +kernel⟩
theorem q_w_marks (a : Amb w K mg cs fn) (x : XA P K mg xs) (T : ∀ j, j < 10 → FG P w K mg base (clX K) k (dfs j) (pss j) (t j)) : FG P w K mg base (clX K) (k + 1) (dOf "_law_marks" 27) ["_law_fault"] (f_w_marks t) := by
  have nd := (sc_w_marks).nd
  refine fg_def a 4 rfl rfl sc_w_marks bi_w_marks fun f cdv A outer s H E hr1 hgd => ?_
  have hr := hr1.mono (Nat.le_succ _)
  have hq := room_q hr
  have hi := room_i hr
  have hp := room_p hr
  have hg1 := room_1 hr
  exact qss_cons (qs_set 1 nd (qe_lst (qa_cons (qx_is x 1 rfl (a.free 4 rfl) (qe_var 0)) (qa_cons (qx_is x 0 rfl (a.free 4 rfl) (qe_var 0)) (qa_nil)))))
      (qss_cons (qs_set 1 nd (qe_bin os_add (qe_var 1) (qe_lst (qa_cons (qx_is x 3 rfl (a.free 4 rfl) (qe_var 0)) (qa_cons (qx_is x 2 rfl (a.free 4 rfl) (qe_var 0)) (qa_nil))))))
      (qss_cons (qs_set 1 nd (qe_bin os_add (qe_var 1) (qe_lst (qa_cons (qx_is x 5 rfl (a.free 4 rfl) (qe_var 0)) (qa_cons (qx_is x 4 rfl (a.free 4 rfl) (qe_var 0)) (qa_nil))))))
      (qss_cons (qs_set 1 nd (qe_bin os_add (qe_var 1) (qe_lst (qa_cons (qx_is x 7 rfl (a.free 4 rfl) (qe_var 0)) (qa_cons (qx_is x 6 rfl (a.free 4 rfl) (qe_var 0)) (qa_nil))))))
      (qss_cons (qs_set 1 nd (qe_bin os_add (qe_var 1) (qe_lst (qa_cons (qx_is x 9 rfl (a.free 4 rfl) (qe_var 0)) (qa_cons (qx_is x 8 rfl (a.free 4 rfl) (qe_var 0)) (qa_nil))))))
      (qss_cons (qs_set 1 nd (qe_bin os_add (qe_var 1) (qe_lst (qa_cons (qx_is x 11 rfl (a.free 4 rfl) (qe_var 0)) (qa_cons (qx_is x 10 rfl (a.free 4 rfl) (qe_var 0)) (qa_nil))))))
      (qss_cons (qs_set 1 nd (qe_bin os_add (qe_var 1) (qe_lst (qa_cons (qx_is x 13 rfl (a.free 4 rfl) (qe_var 0)) (qa_cons (qx_is x 12 rfl (a.free 4 rfl) (qe_var 0)) (qa_nil))))))
      (qss_cons (qs_set 1 nd (qe_bin os_add (qe_var 1) (qe_lst (qa_cons (qx_is x 15 rfl (a.free 4 rfl) (qe_var 0)) (qa_cons (qx_is x 14 rfl (a.free 4 rfl) (qe_var 0)) (qa_nil))))))
      (qss_cons (qs_set 1 nd (qe_bin os_add (qe_var 1) (qe_lst (qa_cons (qx_is x 17 rfl (a.free 4 rfl) (qe_var 0)) (qa_cons (qx_is x 16 rfl (a.free 4 rfl) (qe_var 0)) (qa_nil))))))
      (qss_cons (qs_set 1 nd (qe_bin os_add (qe_var 1) (qe_lst (qa_cons (qx_is x 19 rfl (a.free 4 rfl) (qe_var 0)) (qa_cons (qx_is x 18 rfl (a.free 4 rfl) (qe_var 0)) (qa_nil))))))
      (qss_one (qs_ret (qe_var 1))))))))))))
theorem bi_w_all_made : ∀ (kV doc pm : Value) (an : Option Addr) (cdv ct : Value) (us : List Value), us.length = (["_law_odd_here"] : List Str).length → bindArgs (PySem.W.fnOf (dOf "_law_all_made" 28).name (dOf "_law_all_made" 28).qual (dOf "_law_all_made" 28).params (dOf "_law_all_made" 28).body (dOf "_law_all_made" 28).scope .none kV doc pm an cdv ct) ⟨us, []⟩ = pure ((["_law_odd_here"] : List Str).zip us) :=
  fun _ _ _ _ _ _ us hl => match us, hl with | [_], _ => rfl
theorem sc_w_all_made : FnScope ["_law_odd_here", "_law_faults"] ["_law_odd_here"] (dOf "_law_all_made" 28).scope := ⟨rfl, rfl, rfl, by decide +kernel, rfl, by decide +kernel, by decide +kernel⟩
theorem q_w_all_made (a : Amb w K mg cs fn) (x : XA P K mg xs) (T : ∀ j, j < 10 → FG P w K mg base (clX K) k (dfs j) (pss j) (t j)) : FG P w K mg base (clX K) (k + 1) (dOf "_law_all_made" 28) ["_law_odd_here"] (f_w_all_made t) := by
  have nd := (sc_w_all_made).nd
  refine fg_def a 5 rfl rfl sc_w_all_made bi_w_all_made fun f cdv A outer s H E hr1 hgd => ?_
  have hr := hr1.mono (Nat.le_succ _)
  have hq := room_q hr
  have hi := room_i hr
  have hp := room_p hr
  have hg1 := room_1 hr
  exact qss_cons (qs_set 1 nd (qe_lst (qa_cons (qx_mk (d := xd_BadText) x 6 rfl hr1 (qe_var 0)) (qa_cons (qx_mk (d := xd_BadTree) x 5 rfl hr1 (qe_var 0)) (qa_cons (qx_mk (d := xd_BadPath) x 4 rfl hr1 (qe_var 0)) (qa_cons (qx_mk (d := xd_BadStyle) x 3 rfl hr1 (qe_var 0)) (qa_cons (qx_mk (d := xd_BadManner) x 2 rfl hr1 (qe_var 0)) (qa_cons (qx_mk (d := xd_BadRow) x 1 rfl hr1 (qe_var 0)) (qa_cons (qx_mk (d := xd_BadRows) x 0 rfl hr1 (qe_var 0)) (qa_nil))))))))))
      (qss_cons (qs_set 1 nd (qe_bin os_add (qe_var 1) (qe_lst (qa_cons (qx_mk0 x 0 rfl) (qa_cons (qx_mk (d := xd_BadTexts) x 11 rfl hr1 (qe_var 0)) (qa_cons (qx_mk (d := xd_BadHands) x 10 rfl hr1 (qe_var 0)) (qa_cons (qx_mk (d := xd_BadPairs) x 9 rfl hr1 (qe_var 0)) (qa_cons (qx_mk (d := xd_NoCommit) x 8 rfl hr1 (qe_var 0)) (qa_cons (qx_mk (d := xd_NoFile) x 7 rfl hr1 (qe_var 0)) (qa_nil))))))))))
      (qss_cons (qs_set 1 nd (qe_bin os_add (qe_var 1) (qe_lst (qa_cons (qx_mk (d := xd_BadFiles) x 15 rfl hr1 (qe_var 0)) (qa_cons (qx_mk (d := xd_NoParent) x 14 rfl hr1 (qe_var 0)) (qa_cons (qx_mk (d := xd_Clashes) x 13 rfl hr1 (qe_var 0)) (qa_cons (qx_mk (d := xd_BadOrder) x 12 rfl hr1 (qe_var 0)) (qa_cons (qx_mk0 x 2 rfl) (qa_cons (qx_mk0 x 1 rfl) (qa_nil))))))))))
      (qss_one (qs_ret (qe_bin os_add (qe_var 1) (qe_lst (qa_cons (qx_mk (d := xd_BadLine) x 16 rfl hr1 (qe_var 0)) (qa_nil))))))))
theorem bi_w_all_kept : ∀ (kV doc pm : Value) (an : Option Addr) (cdv ct : Value) (us : List Value), us.length = (["_law_faults"] : List Str).length → bindArgs (PySem.W.fnOf (dOf "_law_all_kept" 29).name (dOf "_law_all_kept" 29).qual (dOf "_law_all_kept" 29).params (dOf "_law_all_kept" 29).body (dOf "_law_all_kept" 29).scope .none kV doc pm an cdv ct) ⟨us, []⟩ = pure ((["_law_faults"] : List Str).zip us) :=
  fun _ _ _ _ _ _ us hl => match us, hl with | [_], _ => rfl
theorem sc_w_all_kept : FnScope ["_law_faults", "_law_some", "_law_fault"] ["_law_faults"] (dOf "_law_all_kept" 29).scope := ⟨rfl, rfl, rfl, by decide +kernel, rfl, by decide +kernel, by decide +kernel⟩
theorem q_w_all_kept (a : Amb w K mg cs fn) (x : XA P K mg xs) (T : ∀ j, j < 10 → FG P w K mg base (clX K) k (dfs j) (pss j) (t j)) : FG P w K mg base (clX K) (k + 1) (dOf "_law_all_kept" 29) ["_law_faults"] (f_w_all_kept t) := by
  have nd := (sc_w_all_kept).nd
  refine fg_def a 6 rfl rfl sc_w_all_kept bi_w_all_kept fun f cdv A outer s H E hr1 hgd => ?_
  have hr := hr1.mono (Nat.le_succ _)
  have hq := room_q hr
  have hi := room_i hr
  have hp := room_p hr
  have hg1 := room_1 hr
  exact qss_cons (qs_set 1 nd (qe_bin os_add (qe_slice (qe_var 0) (qo_some (qe_int)) (qo_some (qe_int))) (qe_slice (qe_var 0) (qo_some (qe_int)) (qo_some (qe_int)))))
      (qss_one (qs_ret (qe_bin os_add (qe_lc rfl nd (qi_val (qe_var 1)) (ok := blkOk_by (own := [("_law_fault", 2)]) (by first | rfl | kernel_rfl)) (fun _ _ _ _ _ => qp_nm 2 nd) (fun _ _ _ _ _ => qts_nil) (fun _ _ _ _ _ => qx_att x 0 rfl (qe_var 2))) (qe_lst (qa_cons (qx_att x 2 rfl (qe_ix (qe_var 0) (qe_int))) (qa_cons (qx_att x 1 rfl (qe_ix (qe_var 0) (qe_int))) (qa_nil)))))))
theorem bi_w_named_right : ∀ (kV doc pm : Value) (an : Option Addr) (cdv ct : Value) (us : List Value), us.length = (["_law_odd_here"] : List Str).length → bindArgs (PySem.W.fnOf (dOf "_law_named_right" 30).name (dOf "_law_named_right" 30).qual (dOf "_law_named_right" 30).params (dOf "_law_named_right" 30).body (dOf "_law_named_right" 30).scope .none kV doc pm an cdv ct) ⟨us, []⟩ = pure ((["_law_odd_here"] : List Str).zip us) :=
  fun _ _ _ _ _ _ us hl => match us, hl with | [_], _ => rfl
theorem sc_w_named_right : FnScope ["_law_odd_here", "_law_told"] ["_law_odd_here"] (dOf "_law_named_right" 30).scope := ⟨rfl, rfl, rfl, by decide +kernel, rfl, by decide +kernel, by decide +kernel⟩
theorem q_w_named_right (a : Amb w K mg cs fn) (x : XA P K mg xs) (T : ∀ j, j < 10 → FG P w K mg base (clX K) k (dfs j) (pss j) (t j)) : FG P w K mg base (clX K) (k + 1) (dOf "_law_named_right" 30) ["_law_odd_here"] (f_w_named_right t) := by
  have nd := (sc_w_named_right).nd
  refine fg_def a 7 rfl rfl sc_w_named_right bi_w_named_right fun f cdv A outer s H E hr1 hgd => ?_
  have hr := hr1.mono (Nat.le_succ _)
  have hq := room_q hr
  have hi := room_i hr
  have hp := room_p hr
  have hg1 := room_1 hr
  exact qss_cons (qs_set 1 nd (qe_lst (qa_cons (qx_att x 2 rfl (qx_mkk (d := xd_BadText) x 6 rfl hr1 (qe_var 0))) (qa_cons (qx_att x 1 rfl (qx_mkk (d := xd_BadLine) x 16 rfl hr1 (qe_var 0))) (qa_cons (qx_att x 0 rfl (qx_mkk (d := xd_BadTree) x 5 rfl hr1 (qe_var 0))) (qa_cons (qx_att x 0 rfl (qx_mkk (d := xd_BadPath) x 4 rfl hr1 (qe_var 0))) (qa_nil)))))))
      (qss_cons (qs_set 1 nd (qe_bin os_add (qe_var 1) (qe_lst (qa_cons (qx_att x 0 rfl (qx_mkk (d := xd_BadStyle) x 3 rfl hr1 (qe_var 0))) (qa_cons (qx_att x 0 rfl (qx_mkk (d := xd_BadManner) x 2 rfl hr1 (qe_var 0))) (qa_cons (qx_att x 0 rfl (qx_mkk (d := xd_BadRow) x 1 rfl hr1 (qe_var 0))) (qa_nil)))))))
      (qss_cons (qs_set 1 nd (qe_bin os_add (qe_var 1) (qe_lst (qa_cons (qx_att x 0 rfl (qx_mkk (d := xd_BadRows) x 0 rfl hr1 (qe_var 0))) (qa_cons (qx_att x 0 rfl (qx_mkk (d := xd_BadTexts) x 11 rfl hr1 (qe_var 0))) (qa_cons (qx_att x 0 rfl (qx_mkk (d := xd_BadHands) x 10 rfl hr1 (qe_var 0))) (qa_nil)))))))
      (qss_cons (qs_set 1 nd (qe_bin os_add (qe_var 1) (qe_lst (qa_cons (qx_att x 0 rfl (qx_mkk (d := xd_BadPairs) x 9 rfl hr1 (qe_var 0))) (qa_cons (qx_att x 0 rfl (qx_mkk (d := xd_NoCommit) x 8 rfl hr1 (qe_var 0))) (qa_cons (qx_att x 0 rfl (qx_mkk (d := xd_NoFile) x 7 rfl hr1 (qe_var 0))) (qa_nil)))))))
      (qss_cons (qs_set 1 nd (qe_bin os_add (qe_var 1) (qe_lst (qa_cons (qx_att x 0 rfl (qx_mkk (d := xd_BadFiles) x 15 rfl hr1 (qe_var 0))) (qa_cons (qx_att x 0 rfl (qx_mkk (d := xd_NoParent) x 14 rfl hr1 (qe_var 0))) (qa_cons (qx_att x 0 rfl (qx_mkk (d := xd_Clashes) x 13 rfl hr1 (qe_var 0))) (qa_nil)))))))
      (qss_one (qs_ret (qe_cmp (os_eq hq) (qe_callB (cs_reprX x.sm hp hgd) (a.free 5 rfl) (by decide +kernel) (qa_cons (qe_bin os_add (qe_var 1) (qe_lst (qa_cons (qx_att x 0 rfl (qx_mkk (d := xd_BadOrder) x 12 rfl hr1 (qe_var 0))) (qa_nil)))) (qa_nil))) (qe_callB (cs_reprX x.sm hp hgd) (a.free 5 rfl) (by decide +kernel) (qa_cons (qe_bin os_mul (qe_lst (qa_cons (qe_var 0) (qa_nil))) (qe_int)) (qa_nil))))))))))
theorem bi_w_right : ∀ (kV doc pm : Value) (an : Option Addr) (cdv ct : Value) (us : List Value), us.length = (["_law_pot_here"] : List Str).length → bindArgs (PySem.W.fnOf (dOf "_law_right" 31).name (dOf "_law_right" 31).qual (dOf "_law_right" 31).params (dOf "_law_right" 31).body (dOf "_law_right" 31).scope .none kV doc pm an cdv ct) ⟨us, []⟩ = pure ((["_law_pot_here"] : List Str).zip us) :=
  fun _ _ _ _ _ _ us hl => match us, hl with | [_], _ => rfl
theorem sc_w_right : FnScope ["_law_pot_here", "_law_odd_here", "_law_faults", "_law_n", "_law_fault", "_law_k"] ["_law_pot_here"] (dOf "_law_right" 31).scope := ⟨rfl, rfl, rfl, by decide +kernel, rfl, by decide +kernel, by decide +kernel⟩
theorem q_w_right (a : Amb w K mg cs fn) (x : XA P K mg xs) (T : ∀ j, j < 10 → FG P w K mg base (clX K) k (dfs j) (pss j) (t j)) : FG P w K mg base (clX K) (k + 1) (dOf "_law_right" 31) ["_law_pot_here"] (f_w_right t) := by
  have nd := (sc_w_right).nd
  refine fg_def a 8 rfl rfl sc_w_right bi_w_right fun f cdv A outer s H E hr1 hgd => ?_
  have hr := hr1.mono (Nat.le_succ _)
  have hq := room_q hr
  have hi := room_i hr
  have hp := room_p hr
  have hg1 := room_1 hr
  exact qss_cons (qs_set 1 nd (qe_fn (T 3 (by decide)) hr hgd (takes_of rfl rfl rfl rfl) (qa_cons (qe_var 0) (qa_nil))))
      (qss_cons (qs_set 2 nd (qe_fn (T 5 (by decide)) hr hgd (takes_of rfl rfl rfl rfl) (qa_cons (qe_var 1) (qa_nil))))
      (qss_cons (qs_for (passes_of rfl) rfl (qi_enum (a.free 6 rfl) (qa_cons (qe_var 2) (qa_nil))) (qp_tp rfl (qps_cons (qp_nm 3 nd) (qps_cons (qp_nm 4 nd) (qps_nil)))) (qss_cons (qs_if (qt_cmp (os_ne hq) (qe_fn (T 4 (by decide)) hr hgd (takes_of rfl rfl rfl rfl) (qa_cons (qe_var 4) (qa_nil))) (qe_lc rfl nd (qi_range1 (a.free 3 rfl) (qa_cons (qe_int) (qa_nil))) (ok := blkOk_by (own := [("_law_k", 5)]) (by first | rfl | kernel_rfl)) (fun _ _ _ _ _ => qp_nm 5 nd) (fun _ _ _ _ _ => qts_nil) (fun _ _ _ _ _ => qe_cmp (os_eq hq) (qe_var 3) (qe_var 5)))) (qss_one (qs_ret (qe_bl))) (qss_nil))
      (qss_one (qs_if (qt_w (qw_or (qt_not (qt_val (qx_is x 20 rfl (a.free 4 rfl) (qe_var 4)))) (qw_or1 (qt_not (qt_val (qx_ib x 0 rfl (by decide +kernel) (a.free 7 rfl) (a.free 4 rfl) (qe_var 4))))))) (qss_one (qs_ret (qe_bl))) (qss_nil)))))
      (qss_one (qs_ret (qe_and (qe_cmp (os_eq hq) (qe_callB (cs_reprX x.sm hp hgd) (a.free 5 rfl) (by decide +kernel) (qa_cons (qe_fn (T 6 (by decide)) hr hgd (takes_of rfl rfl rfl rfl) (qa_cons (qe_var 2) (qa_nil))) (qa_nil))) (qe_callB (cs_reprX x.sm hp hgd) (a.free 5 rfl) (by decide +kernel) (qa_cons (qe_bin os_mul (qe_lst (qa_cons (qe_var 1) (qa_nil))) (qe_int)) (qa_nil)))) (qe_one (qe_fn (T 7 (by decide)) hr hgd (takes_of rfl rfl rfl rfl) (qa_cons (qe_var 1) (qa_nil)))))))))
theorem bi_law : ∀ (kV doc pm : Value) (an : Option Addr) (cdv ct : Value) (us : List Value), us.length = (["_law_script"] : List Str).length → bindArgs (PySem.W.fnOf (dOf "law" 32).name (dOf "law" 32).qual (dOf "law" 32).params (dOf "law" 32).body (dOf "law" 32).scope .none kV doc pm an cdv ct) ⟨us, []⟩ = pure ((["_law_script"] : List Str).zip us) :=
  fun _ _ _ _ _ _ us hl => match us, hl with | [_], _ => rfl
theorem sc_law : FnScope ["_law_script", "_law_k", "_law_pot_here", "_law_lap"] ["_law_script"] (dOf "law" 32).scope := ⟨rfl, rfl, rfl, by decide +kernel, rfl, by decide +kernel, by decide +kernel⟩
theorem q_law (a : Amb w K mg cs fn) (x : XA P K mg xs) (T : ∀ j, j < 10 → FG P w K mg base (clX K) k (dfs j) (pss j) (t j)) : FG P w K mg base (clX K) (k + 1) (dOf "law" 32) ["_law_script"] (f_law t) := by
  have nd := (sc_law).nd
  refine fg_def a 9 rfl rfl sc_law bi_law fun f cdv A outer s H E hr1 hgd => ?_
  have hr := hr1.mono (Nat.le_succ _)
  have hq := room_q hr
  have hi := room_i hr
  have hp := room_p hr
  have hg1 := room_1 hr
  exact qss_cons (qs_for (passes_of rfl) rfl (qi_range1 (a.free 3 rfl) (qa_cons (qe_callB (cs_max rfl) (a.free 8 rfl) (by decide +kernel) (qa_cons (qe_int) (qa_cons (qe_callB (cs_min rfl) (a.free 9 rfl) (by decide +kernel) (qa_cons (qe_int) (qa_cons (qe_callB (cs_len) (a.free 0 rfl) (by decide +kernel) (qa_cons (qe_var 0) (qa_nil))) (qa_nil)))) (qa_nil)))) (qa_nil))) (qp_nm 1 nd) (qss_cons (qs_set 2 nd (qe_fn (T 0 (by decide)) hr hgd (takes_of rfl rfl rfl rfl) (qa_cons (qe_var 0) (qa_cons (qe_var 1) (qa_nil)))))
      (qss_one (qs_if (qt_not (qt_val (qe_callB (cs_all rfl) (a.free 10 rfl) (by decide +kernel) (qa_cons (qe_lc rfl nd (qi_range1 (a.free 3 rfl) (qa_cons (qe_int) (qa_nil))) (ok := blkOk_by (own := [("_law_lap", 3)]) (by first | rfl | kernel_rfl)) (fun _ _ _ _ _ => qp_nm 3 nd) (fun _ _ _ _ _ => qts_nil) (fun _ _ _ _ _ => qe_fn (T 8 (by decide)) hr hgd (takes_no _) (qa_cons (qe_var 2) (qa_nil)))) (qa_nil))))) (qss_one (qs_ret (qe_bl))) (qss_nil)))))
      (qss_one (qs_ret (qe_bl)))
end
end LK
set_option Elab.async false
set_option linter.all false
set_option maxRecDepth 100000
set_option maxHeartbeats 4000000
namespace Mn
open PySem PySem.Spec PyProof.Rows L2
def Res.wp {α : Type} (r : Res α) (Q : α → Sto → Prop) : Prop := match r with
  | .ok a S => Q a S
  | _ => False
def RS.wp (r : RS) (N : En → Sto → Prop) (R : D → Sto → Prop) : Prop := match r with
  | .nx ρ S => N ρ S
  | .rt d S => R d S
  | _ => False
section
variable {α β : Type} {r : Res α} {Q Q' : α → Sto → Prop} {k : α → Sto → Res β} {QB : β → Sto → Prop}
theorem wp_ok {a : α} {S : Sto} : (Res.ok a S).wp Q ↔ Q a S := Iff.rfl
theorem wp_bind : (r.bind k).wp QB ↔ r.wp fun a S => (k a S).wp QB := by
  cases r <;> exact Iff.rfl
theorem wp_mono (h : r.wp Q) (hi : ∀ a S, Q a S → Q' a S) : r.wp Q' := by
  cases r with
  | ok a S => exact hi a S h
  | exc _ _ _ => exact h
  | bad => exact h
theorem wp_ex (h : r.wp Q) : ∃ a S, r = .ok a S ∧ Q a S := by
  cases r with
  | ok a S => exact ⟨a, S, rfl, h⟩
  | exc _ _ _ => exact h.elim
  | bad => exact h.elim
theorem wp_only : (r.only).wp Q ↔ r.wp Q := by cases r <;> exact Iff.rfl
theorem wp_st {ρ : En} {k : α → Sto → RS} {N : En → Sto → Prop} {R : D → Sto → Prop} : (r.st ρ k).wp N R ↔ r.wp fun a S => (k a S).wp N R := by
  cases r <;> exact Iff.rfl
end
section
variable {r : RS} {N N' : En → Sto → Prop} {R R' : D → Sto → Prop} {ρ : En} {S : Sto} {d : D}
theorem sw_nx : (RS.nx ρ S).wp N R ↔ N ρ S := Iff.rfl
theorem sw_rt : (RS.rt d S).wp N R ↔ R d S := Iff.rfl
end
section
variable {ρ : En} {S : Sto} {Q : D → Sto → Prop} {QA : List D → Sto → Prop} {QT : Bool → Sto → Prop} {N : En → Sto → Prop} {R : D → Sto → Prop} {a b c : M} {t u : MT} {ma : MA} {s1 s2 : MS} {f g : D → D → Sto → Res D} {fn : F} {i n l : Nat} {d : D} {ds : List D}
theorem w_var : (mVar i ρ S).wp Q ↔ (match ρ[i]? with | some (some d) => Q d S | _ => False) := by
  unfold mVar
  split <;> simp_all [Res.wp]
theorem w_c : (mC d ρ S).wp Q ↔ Q d S := Iff.rfl
theorem w_bin : (mBin f a b ρ S).wp Q ↔ (a ρ S).wp fun x S => (b ρ S).wp fun y S => (f x y S).wp Q := by unfold mBin; simp only [wp_bind]
theorem w_un {f : D → Sto → Res D} : (mUn f a ρ S).wp Q ↔ (a ρ S).wp fun x S => (f x S).wp Q := by unfold mUn; simp only [wp_bind]
theorem w_nil : (aNil ρ S).wp QA ↔ QA [] S := Iff.rfl
theorem w_cons : (aCons a ma ρ S).wp QA ↔ (a ρ S).wp fun x S => (ma ρ S).wp fun xs S => QA (x :: xs) S := by unfold aCons; simp only [wp_bind, wp_ok]
theorem w_cb : (mCB fn ma ρ S).wp Q ↔ (ma ρ S).wp fun ds S => (fn ds S).wp Q := by unfold mCB; simp only [wp_bind]
theorem w_tup : (mTup ma ρ S).wp Q ↔ (ma ρ S).wp fun ds S => ds.length ≤ sizeLine ∧ Q (.tup ds) S := by
  unfold mTup
  simp only [wp_bind]
  constructor <;> intro h <;> refine wp_mono h fun ds S h => ?_
  · split at h
    · rename_i hz; exact ⟨hz, h⟩
    · exact h.elim
  · rw [if_pos h.1]; exact h.2
theorem w_lst : (mLst ma ρ S).wp Q ↔ (ma ρ S).wp fun ds S => ds.length ≤ sizeLine ∧ Q (.ref S.length) (S ++ [.lst ds]) := by
  unfold mLst
  simp only [wp_bind]
  constructor <;> intro h <;> refine wp_mono h fun ds S h => ?_
  · split at h
    · rename_i hz; exact ⟨hz, h⟩
    · exact h.elim
  · rw [if_pos h.1]; exact h.2
theorem w_val : (tVal a ρ S).wp QT ↔ (a ρ S).wp fun d S => ∃ x, d = .bl x ∧ QT x S := by
  unfold tVal
  simp only [wp_bind]
  constructor <;> intro h <;> refine wp_mono h fun d S h => ?_
  · split at h
    · exact ⟨_, rfl, h⟩
    · exact h.elim
  · obtain ⟨x, rfl, h⟩ := h; exact h
theorem w_tnot : (tNot t ρ S).wp QT ↔ (t ρ S).wp fun x S => QT (!x) S := by unfold tNot; simp only [wp_bind, wp_ok]
theorem w_tand : (tAnd t u ρ S).wp QT ↔ (t ρ S).wp fun x S => if x = true then (u ρ S).wp QT else QT false S := by
  unfold tAnd
  simp only [wp_bind]
  constructor <;> intro h <;> refine wp_mono h fun d S h => ?_ <;> split <;> simp_all [Res.wp]
theorem w_tor : (tOr t u ρ S).wp QT ↔ (t ρ S).wp fun x S => if x = true then QT true S else (u ρ S).wp QT := by
  unfold tOr
  simp only [wp_bind]
  constructor <;> intro h <;> refine wp_mono h fun d S h => ?_ <;> split <;> simp_all [Res.wp]
theorem w_and : (mAnd a b ρ S).wp Q ↔ (a ρ S).wp fun d S => ∃ x, d = .bl x ∧ if x = true then (b ρ S).wp Q else Q (.bl false) S := by
  unfold mAnd
  simp only [wp_bind]
  constructor <;> intro h <;> refine wp_mono h fun d S h => ?_
  · split at h
    · refine ⟨_, rfl, ?_⟩
      split <;> simp_all [Res.wp]
    · exact h.elim
  · obtain ⟨x, rfl, h⟩ := h
    cases x <;> simp_all [Res.wp]
theorem w_or : (mOr a b ρ S).wp Q ↔ (a ρ S).wp fun d S => ∃ x, d = .bl x ∧ if x = true then Q (.bl true) S else (b ρ S).wp Q := by
  unfold mOr
  simp only [wp_bind]
  constructor <;> intro h <;> refine wp_mono h fun d S h => ?_
  · split at h
    · refine ⟨_, rfl, ?_⟩
      split <;> simp_all [Res.wp]
    · exact h.elim
  · obtain ⟨x, rfl, h⟩ := h
    cases x <;> simp_all [Res.wp]
theorem w_not : (mNot a ρ S).wp Q ↔ (a ρ S).wp fun d S => ∃ x, d = .bl x ∧ Q (.bl (!x)) S := by
  unfold mNot
  simp only [wp_bind]
  constructor <;> intro h <;> refine wp_mono h fun d S h => ?_
  · split at h
    · exact ⟨_, rfl, h⟩
    · exact h.elim
  · obtain ⟨x, rfl, h⟩ := h; exact h
theorem w_if : (mIf t a b ρ S).wp Q ↔ (t ρ S).wp fun x S => if x = true then (a ρ S).wp Q else (b ρ S).wp Q := by
  unfold mIf
  simp only [wp_bind]
  constructor <;> intro h <;> refine wp_mono h fun d S h => ?_ <;> split <;> simp_all
theorem w_chain : (mChain f g a b c ρ S).wp Q ↔ (a ρ S).wp fun x S => (b ρ S).wp fun y S => (f x y S).wp fun z S => ∃ k, z = .bl k ∧ if k = true then (c ρ S).wp fun w S => (g y w S).wp Q else Q (.bl false) S := by
  unfold mChain
  simp only [wp_bind]
  constructor <;> intro h <;> refine wp_mono h fun x S h => wp_mono h fun y S h => wp_mono h fun z S h => ?_
  · split at h
    · rename_i k
      refine ⟨k, rfl, ?_⟩
      cases k with
      | true =>
        rw [if_pos rfl] at h ⊢
        exact wp_bind.mp h
      | false => exact h
    · exact h.elim
  · obtain ⟨k, rfl, h⟩ := h
    cases k with
    | true =>
      rw [if_pos rfl] at h
      show Res.wp (if true = true then (c ρ S).bind fun w S => g y w S else .ok (.bl false) S) Q
      rw [if_pos rfl]
      exact wp_bind.mpr h
    | false => exact h
theorem w_isi {T : String} : (mIsi T a ρ S).wp Q ↔ (a ρ S).wp fun d S => kOf S d ≠ "?" ∧ Q (.bl (isB (kOf S d) T)) S := by
  unfold mIsi
  simp only [wp_bind]
  constructor <;> intro h <;> refine wp_mono h fun d S h => ?_
  · split at h
    · exact h.elim
    · rename_i hz; exact ⟨hz, h⟩
  · rw [if_neg h.1]; exact h.2
theorem w_mt {T : String} {f : D → F} : (mMt T f a ma ρ S).wp Q ↔ (a ρ S).wp fun d S => kOf S d = T ∧ (ma ρ S).wp fun ds S => (f d ds S).wp Q := by
  unfold mMt
  simp only [wp_bind]
  constructor <;> intro h <;> refine wp_mono h fun d S h => ?_
  · split at h
    · rename_i hz; exact ⟨hz, wp_bind.mp h⟩
    · exact h.elim
  · rw [if_pos h.1]; exact wp_bind.mpr h.2
theorem w_tab {kvs : List (Str × D)} : (mTab kvs a ρ S).wp Q ↔ (a ρ S).wp fun d S => ∃ x e, d = .str x ∧ tabD kvs x = some e ∧ Q e S := by
  unfold mTab
  simp only [wp_bind]
  constructor <;> intro h <;> refine wp_mono h fun d S h => ?_
  · split at h
    · rename_i x
      split at h
      · rename_i e he; exact ⟨x, e, rfl, he, h⟩
      · exact h.elim
    · exact h.elim
  · obtain ⟨x, e, rfl, he, h⟩ := h
    show Res.wp (match tabD kvs x with | some e => .ok e S | none => .bad) Q
    rw [he]; exact h
theorem w_onone {QO : Option Int → Sto → Prop} : (oNone ρ S).wp QO ↔ QO none S := Iff.rfl
theorem w_osome {QO : Option Int → Sto → Prop} : (oSome a ρ S).wp QO ↔ (a ρ S).wp fun d S => ∃ i, d = .int i ∧ QO (some i) S := by
  unfold oSome
  simp only [wp_bind]
  constructor <;> intro h <;> refine wp_mono h fun d S h => ?_
  · split at h
    · exact ⟨_, rfl, h⟩
    · exact h.elim
  · obtain ⟨x, rfl, h⟩ := h; exact h
theorem w_sl {lo hi : MO} : (mSl a lo hi ρ S).wp Q ↔ (a ρ S).wp fun x S => (lo ρ S).wp fun l S => (hi ρ S).wp fun h S => (fSl x l h S).wp Q := by unfold mSl; simp only [wp_bind]
theorem s_nil : (sNil ρ S).wp N R ↔ N ρ S := Iff.rfl
theorem s_seq : (sSeq s1 s2 ρ S).wp N R ↔ (s1 ρ S).wp (fun ρ S => (s2 ρ S).wp N R) R := by
  unfold sSeq
  cases s1 ρ S <;> exact Iff.rfl
theorem s_drop : (sDrop a ρ S).wp N R ↔ (a ρ S).wp fun _ S => N ρ S := by unfold sDrop; simp only [wp_st, sw_nx]
theorem s_ret : (sRet a ρ S).wp N R ↔ (a ρ S).wp R := by unfold sRet; simp only [wp_st, sw_rt]
theorem s_set : (sSet i a ρ S).wp N R ↔ (a ρ S).wp fun d S => N (ρ.set i (some d)) S := by unfold sSet; simp only [wp_st, sw_nx]
theorem s_if : (sIf t s1 s2 ρ S).wp N R ↔ (t ρ S).wp fun x S => if x = true then (s1 ρ S).wp N R else (s2 ρ S).wp N R := by
  unfold sIf
  simp only [wp_st]
  constructor <;> intro h <;> refine wp_mono h fun d S h => ?_ <;> split <;> simp_all
theorem s_par {j : Nat} : (sPar i j ma ρ S).wp N R ↔ (ma ρ S).wp fun ds S => ∃ d e, ds = [d, e] ∧ N ((ρ.set i (some d)).set j (some e)) S := by
  unfold sPar
  simp only [wp_st]
  constructor <;> intro h <;> refine wp_mono h fun ds S h => ?_
  · split at h
    · exact ⟨_, _, rfl, h⟩
    · exact h.elim
  · obtain ⟨d, e, rfl, h⟩ := h; exact h
theorem s_asg {p : Pt} : (sAsg p a ρ S).wp N R ↔ (a ρ S).wp fun d S => ∃ ρ1, p.put S ρ d = some ρ1 ∧ N ρ1 S := by
  unfold sAsg
  simp only [wp_st]
  constructor <;> intro h <;> refine wp_mono h fun d S h => ?_
  · split at h
    · rename_i ρ1 e; exact ⟨ρ1, e, h⟩
    · exact h.elim
  · obtain ⟨ρ1, e, h⟩ := h; rw [e]; exact h
theorem s_put : (sPut b c a ρ S).wp N R ↔ (a ρ S).wp fun d S => (b ρ S).wp fun x S => (c ρ S).wp fun y S => ∃ n k xs j, x = .ref n ∧ y = .int k ∧ S[n]? = some (.lst xs) ∧ ixN xs.length k = some j ∧ N ρ (S.set n (.lst (xs.set j d))) := by
  unfold sPut
  simp only [wp_st]
  constructor <;> intro h <;> refine wp_mono h fun d S h => wp_mono h fun x S h => wp_mono h fun y S h => ?_
  · split at h
    · split at h
      · split at h
        · exact ⟨_, _, _, _, rfl, rfl, by assumption, by assumption, h⟩
        · exact h.elim
      · exact h.elim
    · exact h.elim
  · obtain ⟨n, k, xs, j, rfl, rfl, hs, hj, h⟩ := h
    show RS.wp (match S[n]? with | some (.lst xs) => (match ixN xs.length k with | some j => .nx ρ (S.set n (.lst (xs.set j d))) | none => .bad) | _ => .bad) N R
    rw [hs]
    show RS.wp (match ixN xs.length k with | some j => .nx ρ (S.set n (.lst (xs.set j d))) | none => .bad) N R
    rw [hj]
    exact h
theorem w_def {m : MS} (h : ds.length = n) (hm : (m (ds.map some ++ List.replicate (l - ds.length) none) S).wp (fun _ S => Q .non S) Q) : (mDef n l m ds S).wp Q := by
  unfold mDef
  rw [if_pos h]
  generalize m (ds.map some ++ List.replicate (l - ds.length) none) S = r at hm ⊢
  cases r <;> first | exact hm | exact hm.elim
end
theorem s_for {it : MI} {p : Pt} {body : MS} {ρ : En} {S : Sto} {N : En → Sto → Prop} {R : D → Sto → Prop} : (sFor it p body ρ S).wp N R ↔ (it ρ S).wp fun z S1 => (mLoop p body z.2 z.1 ρ S1).wp N R := by unfold sFor; simp only [wp_st]
/-- a loop, by what holds ahead of each turn -/
theorem loop_wp {p : Pt} {body : MS} {chk : Sto → Bool} {N : En → Sto → Prop} {R : D → Sto → Prop} (I : List D → En → Sto → Prop) (hc : ∀ l ρ S, I l ρ S → chk S = true)
    (hs : ∀ d l ρ S, I (d :: l) ρ S → ∃ ρ1, p.put S ρ d = some ρ1 ∧ (body ρ1 S).wp (I l) R) (he : ∀ ρ S, I [] ρ S → N ρ S) : ∀ (l : List D) (ρ : En) (S : Sto), I l ρ S → (mLoop p body chk l ρ S).wp N R
  | [], ρ, S, h => by
    unfold mLoop
    rw [if_pos (hc _ _ _ h)]
    exact he ρ S h
  | d :: l, ρ, S, h => by
    unfold mLoop
    rw [if_pos (hc _ _ _ h)]
    obtain ⟨ρ1, e, hb⟩ := hs d l ρ S h
    rw [e]
    show RS.wp (match body ρ1 S with | .nx ρ2 S2 => mLoop p body chk l ρ2 S2 | .ct ρ2 S2 => mLoop p body chk l ρ2 S2 | .bk ρ2 S2 => .nx ρ2 S2 | .rt d S2 => .rt d S2 | .ex c n ρ2 S2 => .ex c n ρ2 S2 | .bad => .bad) N R
    generalize body ρ1 S = r at hb ⊢
    cases r with
    | nx ρ2 S2 => exact loop_wp I hc hs he l ρ2 S2 hb
    | rt d S2 => exact hb
    | _ => exact hb.elim
theorem w_comp {it : MI} {p : Pt} {cond : MT} {elt : M} {vs : List Nat} {ρ : En} {S : Sto} {Q : D → Sto → Prop} (hw : p.within vs = true) (h : (it ρ S).wp fun z S1 => (mCompL p cond elt z.2 S1.length (wipeE ρ vs) z.1 (S1 ++ [.lst []])).wp Q) : (mComp it p cond elt vs ρ S).wp Q := by
  unfold mComp
  simp only [wp_bind]
  refine wp_mono h fun z S1 h => ?_
  rw [if_pos hw]
  exact h
/-- a comprehension without a condition, by what holds ahead of each turn: the items that are left, those that are made, the store without the new list -/
theorem comp_wp {p : Pt} {elt : M} {chk : Sto → Bool} {n : Nat} {ρ : En} {Q : D → Sto → Prop} (I : List D → List D → Sto → Prop) (hc : ∀ l acc S, I l acc S → chk S = true)
    (hs : ∀ d l acc S, I (d :: l) acc S → S[n]? = some (.lst acc) → ∃ ρ1, p.put S ρ d = some ρ1 ∧ (elt ρ1 S).wp fun x S2 => S2[n]? = some (.lst acc) ∧ acc.length < sizeLine ∧ I l (acc ++ [x]) (S2.set n (.lst (acc ++ [x]))))
    (he : ∀ acc S, I [] acc S → S[n]? = some (.lst acc) → Q (.ref n) S) : ∀ (l acc : List D) (S : Sto), I l acc S → S[n]? = some (.lst acc) → (mCompL p tYesM elt chk n ρ l S).wp Q
  | [], acc, S, h, hn => by
    unfold mCompL
    rw [if_pos (hc _ _ _ h)]
    exact he acc S h hn
  | d :: l, acc, S, h, hn => by
    unfold mCompL
    rw [if_pos (hc _ _ _ h)]
    obtain ⟨ρ1, e, hb⟩ := hs d l acc S h hn
    rw [e]
    show Res.wp ((Res.ok true S).only.bind fun b S1 => if b = true then ((elt ρ1 S1).only).bind fun x S2 => match S2[n]? with
          | some (.lst acc) => if acc.length < sizeLine then mCompL p tYesM elt chk n ρ l (S2.set n (.lst (acc ++ [x]))) else .bad
          | _ => .bad
        else mCompL p tYesM elt chk n ρ l S1) Q
    rw [wp_bind, wp_only, wp_ok, if_pos rfl, wp_bind, wp_only]
    refine wp_mono hb fun x S2 ⟨h1, h2, h3⟩ => ?_
    rw [h1]
    show Res.wp (if acc.length < sizeLine then mCompL p tYesM elt chk n ρ l (S2.set n (.lst (acc ++ [x]))) else .bad) Q
    rw [if_pos h2]
    have hl : n < S2.length := (List.getElem?_eq_some_iff.mp h1).1
    exact comp_wp I hc hs he l (acc ++ [x]) _ h3 (List.getElem?_set_self hl)
theorem i_val {m : M} {ρ : En} {S : Sto} {Q : It0 → Sto → Prop} : (iVal m ρ S).wp Q ↔ (m ρ S).wp fun d S1 => ∃ z, itD S1 d = some z ∧ Q z S1 := by
  unfold iVal
  simp only [wp_bind]
  constructor <;> intro h <;> refine wp_mono h fun d S h => ?_
  · split at h
    · rename_i z e; exact ⟨z, e, h⟩
    · exact h.elim
  · obtain ⟨z, e, h⟩ := h; rw [e]; exact h
theorem i_range1 {ma : MA} {ρ : En} {S : Sto} {Q : It0 → Sto → Prop} : (iRange1 ma ρ S).wp Q ↔ (ma ρ S).wp fun ds S1 => ∃ j, ds = [.int j] ∧ smallI j = true ∧ Q ((List.range j.toNat).map fun i => .int (0 + (i : Nat)), always) S1 := by
  unfold iRange1
  simp only [wp_bind]
  constructor <;> intro h <;> refine wp_mono h fun ds S h => ?_
  · split at h
    · rename_i j
      split at h
      · rename_i hj; exact ⟨j, rfl, hj, h⟩
      · exact h.elim
    · exact h.elim
  · obtain ⟨j, rfl, hj, h⟩ := h
    show Res.wp (if smallI j = true then _ else _) Q
    rw [if_pos hj]; exact h
end Mn
set_option Elab.async false
set_option linter.all false
set_option maxRecDepth 100000
set_option maxHeartbeats 4000000
namespace Mn
open PySem PySem.Spec PyProof.Rows L2
section
variable {S : Sto} {Q : D → Sto → Prop} {i j : Int} {c : Int → Int → Bool} {g : Int → Int → D} {n : Nat} {ds es : List D} {d : D} {x y : Str}
theorem w_fI : (fI c g (.int i) (.int j) S).wp Q ↔ c i j = true ∧ Q (g i j) S := by
  show Res.wp (if c i j = true then .ok (g i j) S else .bad) Q ↔ _
  constructor <;> intro h
  · split at h
    · rename_i hc; exact ⟨hc, h⟩
    · exact h.elim
  · rw [if_pos h.1]; exact h.2
theorem w_addI : (fAdd (.int i) (.int j) S).wp Q ↔ Q (.int (i + j)) S := Iff.rfl
theorem w_addS : (fAdd (.str x) (.str y) S).wp Q ↔ x.length + y.length ≤ sizeLine ∧ Q (.str (x ++ y)) S := by
  show Res.wp (if x.length + y.length ≤ sizeLine then .ok (.str (x ++ y)) S else .bad) Q ↔ _
  constructor <;> intro h
  · split at h
    · rename_i hc; exact ⟨hc, h⟩
    · exact h.elim
  · rw [if_pos h.1]; exact h.2
theorem w_addL {m : Nat} (h1 : S[n]? = some (.lst ds)) (h2 : S[m]? = some (.lst es)) : (fAdd (.ref n) (.ref m) S).wp Q ↔ ds.length + es.length ≤ sizeLine ∧ Q (.ref S.length) (S ++ [.lst (ds ++ es)]) := by
  have e : fAdd (.ref n) (.ref m) S = if ds.length + es.length ≤ sizeLine then .ok (.ref S.length) (S ++ [.lst (ds ++ es)]) else .bad := by
    show (match S[n]?, S[m]? with | some (.lst a), some (.lst b) => _ | _, _ => _) = _
    rw [h1, h2]
  rw [e]
  constructor <;> intro h
  · split at h
    · rename_i hc; exact ⟨hc, h⟩
    · exact h.elim
  · rw [if_pos h.1]; exact h.2
theorem w_mulI : (fMul (.int i) (.int j) S).wp Q ↔ mulOk i j = true ∧ Q (.int (i * j)) S := by
  show Res.wp (if mulOk i j = true then .ok (.int (i * j)) S else .bad) Q ↔ _
  constructor <;> intro h
  · split at h
    · rename_i hc; exact ⟨hc, h⟩
    · exact h.elim
  · rw [if_pos h.1]; exact h.2
theorem w_ixL (h : S[n]? = some (.lst ds)) : (fIx (.ref n) (.int i) S).wp Q ↔ ∃ d, atI ds i = some d ∧ Q d S := by
  have e : fIx (.ref n) (.int i) S = match atI ds i with | some d => .ok d S | none => .bad := by
    show (match S[n]? with | some (.lst ds) => _ | _ => _) = _
    rw [h] <;> rfl
  rw [e]
  constructor <;> intro h
  · split at h
    · rename_i d hd; exact ⟨d, hd, h⟩
    · exact h.elim
  · obtain ⟨d, hd, h⟩ := h; rw [hd]; exact h
theorem w_ixT : (fIx (.tup ds) (.int i) S).wp Q ↔ ∃ d, atI ds i = some d ∧ Q d S := by
  show Res.wp (match atI ds i with | some d => .ok d S | none => .bad) Q ↔ _
  constructor <;> intro h
  · split at h
    · rename_i d hd; exact ⟨d, hd, h⟩
    · exact h.elim
  · obtain ⟨d, hd, h⟩ := h; rw [hd]; exact h
theorem w_ixF : (fIx (.fls ds) (.int i) S).wp Q ↔ ∃ d, atI ds i = some d ∧ Q d S := by
  show Res.wp (match atI ds i with | some d => .ok d S | none => .bad) Q ↔ _
  constructor <;> intro h
  · split at h
    · rename_i d hd; exact ⟨d, hd, h⟩
    · exact h.elim
  · obtain ⟨d, hd, h⟩ := h; rw [hd]; exact h
theorem w_int : (cInt [.int i] S).wp Q ↔ Q (.int i) S := Iff.rfl
theorem w_intB {b : Bool} : (cInt [.bl b] S).wp Q ↔ Q (.int (if b then 1 else 0)) S := Iff.rfl
theorem w_abs : (cAbs [.int i] S).wp Q ↔ Q (.int (if i < 0 then -i else i)) S := Iff.rfl
theorem w_lenF : (cLen [.fls ds] S).wp Q ↔ Q (.int (ds.length : Nat)) S := Iff.rfl
theorem w_lenS : (cLen [.str x] S).wp Q ↔ x.length ≤ sizeLine ∧ Q (.int (x.length : Nat)) S := by
  show Res.wp (if x.length ≤ sizeLine then .ok (.int (x.length : Nat)) S else .bad) Q ↔ _
  constructor <;> intro h
  · split at h
    · rename_i hc; exact ⟨hc, h⟩
    · exact h.elim
  · rw [if_pos h.1]; exact h.2
theorem w_lenL (h : S[n]? = some (.lst ds)) : (cLen [.ref n] S).wp Q ↔ Q (.int (ds.length : Nat)) S := by
  have e : cLen [.ref n] S = .ok (.int (ds.length : Nat)) S := by
    show (match S[n]? with | some (.lst xs) => _ | _ => _) = _
    rw [h]
  rw [e]
  exact Iff.rfl
theorem w_tupL (h : S[n]? = some (.lst ds)) : (cTuple [.ref n] S).wp Q ↔ Q (.tup ds) S := by
  have e : cTuple [.ref n] S = .ok (.tup ds) S := by
    show (match S[n]? with | some (.lst xs) => _ | _ => _) = _
    rw [h]
  rw [e]
  exact Iff.rfl
theorem w_app (h : S[n]? = some (.lst ds)) : (fAppend (.ref n) [d] S).wp Q ↔ ds.length < sizeLine ∧ Q .non (S.set n (.lst (ds ++ [d]))) := by
  have e : fAppend (.ref n) [d] S = if ds.length < sizeLine then .ok .non (S.set n (.lst (ds ++ [d]))) else .bad := by
    show (match S[n]? with | some (.lst xs) => _ | _ => _) = _
    rw [h]
  rw [e]
  constructor <;> intro h
  · split at h
    · rename_i hc; exact ⟨hc, h⟩
    · exact h.elim
  · rw [if_pos h.1]; exact h.2
theorem w_eq {d e : D} {b : Bool} (h : eqN eqK S d e = some b) : (fEq d e S).wp Q ↔ Q (.bl b) S := by
  unfold fEq
  rw [h]
  exact Iff.rfl
theorem w_ne {d e : D} {b : Bool} (h : eqN eqK S d e = some b) : (fNe d e S).wp Q ↔ Q (.bl (!b)) S := by
  unfold fNe
  rw [h]
  exact Iff.rfl
theorem w_in {d e : D} {b : Bool} (h : inW S d e = some b) : (fIn d e S).wp Q ↔ Q (.bl b) S := by
  unfold fIn
  rw [h]
  exact Iff.rfl
theorem w_notIn {d e : D} {b : Bool} (h : inW S d e = some b) : (fNotIn d e S).wp Q ↔ Q (.bl (!b)) S := by
  unfold fNotIn
  rw [h]
  exact Iff.rfl
theorem eqN_int : eqN eqK S (.int i) (.int j) = some (i == j) := rfl
theorem eqN_str : eqN eqK S (.str x) (.str y) = some (x == y) := rfl
end
section
variable {ρ : En} {S : Sto} {Q : D → Sto → Prop} {QP : List (D × D) → Sto → Prop} {a b c : M} {mp : MP}
theorem w_pnil : (pNil ρ S).wp QP ↔ QP [] S := Iff.rfl
theorem w_pcons : (pCons a b mp ρ S).wp QP ↔ (a ρ S).wp fun x S => (b ρ S).wp fun y S => (mp ρ S).wp fun ps S => QP ((x, y) :: ps) S := by unfold pCons; simp only [wp_bind, wp_ok]
theorem w_disp : (mDisp mp ρ S).wp Q ↔ (mp ρ (S ++ [.dct []])).wp fun ps S1 => ∃ kvs, keysD ps = some kvs ∧ kvs.length ≤ 15 ∧ S1[S.length]? = some (.dct []) ∧ Q (.ref S.length) (S1.set S.length (.dct (mergeD [] kvs))) := by
  unfold mDisp
  simp only [wp_bind]
  constructor <;> intro h <;> refine wp_mono h fun ps S1 h => ?_
  · split at h
    · rename_i kvs hk
      split at h
      · rename_i hc
        exact ⟨kvs, hk, hc.1, hc.2, h⟩
      · exact h.elim
    · exact h.elim
  · obtain ⟨kvs, hk, h1, h2, h⟩ := h
    rw [hk]
    show Res.wp (if _ then _ else _) Q
    rw [if_pos ⟨h1, h2⟩]
    exact h
end
def Ext (p : Nat) (S S' : Sto) : Prop := S.length ≤ S'.length ∧ ∀ n, n < S.length → n ≠ p → S'[n]? = S[n]?
section
variable {p : Nat} {S S' S'' : Sto}
theorem Ext.refl (p : Nat) (S : Sto) : Ext p S S := ⟨Nat.le_refl _, fun _ _ _ => rfl⟩
theorem Ext.trans (a : Ext p S S') (b : Ext p S' S'') : Ext p S S'' := ⟨Nat.le_trans a.1 b.1, fun n h1 h2 => (b.2 n (Nat.lt_of_lt_of_le h1 a.1) h2).trans (a.2 n h1 h2)⟩
theorem Ext.app (a : Ext p S S') (l : List Ob) : Ext p S (S' ++ l) := ⟨by rw [List.length_append]; have := a.1; omega, fun n h1 h2 => by rw [List.getElem?_append_left (Nat.lt_of_lt_of_le h1 a.1)]; exact a.2 n h1 h2⟩
theorem Ext.put (a : Ext p S S') (o : Ob) : Ext p S (S'.set p o) := ⟨by rw [List.length_set]; exact a.1, fun n h1 h2 => by rw [List.getElem?_set_ne (Ne.symm h2)]; exact a.2 n h1 h2⟩
/-- something new is written -/
theorem Ext.set (a : Ext p S S') {m : Nat} (hm : S.length ≤ m) (o : Ob) : Ext p S (S'.set m o) := ⟨by rw [List.length_set]; exact a.1, fun n h1 h2 => by rw [List.getElem?_set_ne (by omega)]; exact a.2 n h1 h2⟩
theorem Ext.at_ (a : Ext p S S') {n : Nat} {o : Ob} (h : S[n]? = some o) (hn : n ≠ p) : S'[n]? = some o := (a.2 n (List.getElem?_eq_some_iff.mp h).1 hn).trans h
theorem Ext.lt (a : Ext p S S') {n : Nat} (h : n < S.length) : n < S'.length := Nat.lt_of_lt_of_le h a.1
end
/-- the pot at p: drawn from at most c times -/
def Pot (p : Nat) (c : Int) (S : Sto) : Prop := ∃ own mixed cnt : Int, S[p]? = some (.lst [.int own, .int mixed, .int cnt]) ∧ 0 ≤ own ∧ (0 ≤ mixed ∧ mixed < 2 ^ 62) ∧ 0 ≤ cnt ∧ cnt ≤ c
theorem Pot.lt {p : Nat} {c : Int} {S : Sto} (h : Pot p c S) : p < S.length := by
  obtain ⟨_, _, _, e, _⟩ := h
  exact (List.getElem?_eq_some_iff.mp e).1
theorem Pot.le {p : Nat} {c c' : Int} {S : Sto} (h : Pot p c S) (hc : c ≤ c') : Pot p c' S := by
  obtain ⟨a, b, n, e, h1, h2, h3, h4⟩ := h
  exact ⟨a, b, n, e, h1, h2, h3, by omega⟩
theorem Pot.app {p : Nat} {c : Int} {S : Sto} (h : Pot p c S) (l : List Ob) : Pot p c (S ++ l) := by
  have hl := h.lt
  obtain ⟨a, b, n, e, r⟩ := h
  exact ⟨a, b, n, by rw [List.getElem?_append_left hl]; exact e, r⟩
theorem Pot.set {p m : Nat} {c : Int} {S : Sto} (h : Pot p c S) (hm : m ≠ p) (o : Ob) : Pot p c (S.set m o) := by
  obtain ⟨a, b, n, e, r⟩ := h
  exact ⟨a, b, n, by rw [List.getElem?_set_ne hm]; exact e, r⟩
/-- the laws' take -/
def bTake : MS := (sSeq (sIf (tVal (mBin fGt (mBin fIx (mVar 0) (mC (.int 0))) (mC (.int 0)))) (sSeq (sSet 4 (mBin fMod (mCB cInt (aCons (mBin fIx (mVar 0) (mC (.int 0))) aNil)) (mVar 1)))
  (sSeq (sPut (mVar 0) (mC (.int 0)) (mBin fDiv (mBin fIx (mVar 0) (mC (.int 0))) (mVar 1)))
  (sRet (mVar 4)))) sNil)
  (sSeq (sPut (mVar 0) (mC (.int 2)) (mBin fAdd (mBin fIx (mVar 0) (mC (.int 2))) (mC (.int 1))))
  (sSeq (sSet 2 (mBin fIx (mLst (aCons (mC (.int 2147483647)) (aCons (mC (.int 2147483629)) (aCons (mC (.int 2147483587)) (aCons (mC (.int 2147483579)) (aCons (mC (.int 2147483563)) aNil)))))) (mBin fMod (mCB cInt (aCons (mBin fIx (mVar 0) (mC (.int 2))) aNil)) (mC (.int 5)))))
  (sSeq (sSet 3 (mBin fMod (mCB cInt (aCons (mBin fPow (mCB cInt (aCons (mBin fAdd (mBin fAdd (mBin fIx (mVar 0) (mC (.int 1))) (mBin fMul (mBin fMul (mC (.int 99991)) (mBin fIx (mVar 0) (mC (.int 2)))) (mBin fIx (mVar 0) (mC (.int 2))))) (mC (.int 41))) aNil)) (mC (.int 3))) aNil)) (mVar 2)))
  (sSeq (sSet 3 (mBin fMod (mCB cInt (aCons (mBin fMul (mVar 3) (mBin fAdd (mBin fMod (mCB cInt (aCons (mVar 3) aNil)) (mC (.int 10009))) (mBin fMul (mC (.int 83)) (mBin fIx (mVar 0) (mC (.int 2)))))) aNil)) (mC (.int 2305843009213693907))))
  (sRet (mBin fMod (mCB cInt (aCons (mBin fDiv (mVar 3) (mC (.int 109))) aNil)) (mVar 1))))))))
def fTake : F := mDef 2 5 bTake
theorem mulOk_l {i j : Int} (h1 : -(2 ^ 64) < i) (h2 : i < 2 ^ 64) : mulOk i j = true := by unfold mulOk; rw [decide_eq_true h1, decide_eq_true h2]; rfl
theorem mulOk_r {i j : Int} (h1 : -(2 ^ 64) < j) (h2 : j < 2 ^ 64) : mulOk i j = true := by unfold mulOk; rw [decide_eq_true h1, decide_eq_true h2]; simp
theorem prime_at {r : Int} (h0 : 0 ≤ r) (h1 : r < 5) : ∃ q : Int, atI [D.int 2147483647, .int 2147483629, .int 2147483587, .int 2147483579, .int 2147483563] r = some (.int q) ∧ 0 < q ∧ q < 2 ^ 31 := by
  have : r = 0 ∨ r = 1 ∨ r = 2 ∨ r = 3 ∨ r = 4 := by omega
  rcases this with rfl | rfl | rfl | rfl | rfl <;> exact ⟨_, rfl, by decide, by decide⟩
theorem take_wp {p : Nat} {c u : Int} {S : Sto} {Q : D → Sto → Prop} (h : Pot p c S) (hc : c < 2 ^ 40) (hu : 0 < u) (hu2 : u < 1073741824)
    (q : ∀ (r : Int) S', 0 ≤ r → r < u → Ext p S S' → Pot p (c + 1) S' → Q (.int r) S') : (fTake [.ref p, .int u] S).wp Q := by
  have hl := h.lt
  obtain ⟨own, mixed, cnt, e, ho, ⟨hm0, hm1⟩, hn0, hn1⟩ := h
  unfold fTake bTake
  refine w_def rfl ?_
  have ed : divOk u = true := by unfold divOk; rw [decide_eq_true hu, decide_eq_true hu2]; rfl
  try simp only [s_nil, s_seq, s_drop, s_ret, s_set, s_if, s_par, s_put, s_for, w_var, w_c, w_bin, w_un, w_nil, w_cons, w_cb, w_tup, w_lst, w_val, w_tnot, w_tand, w_tor, w_and, w_or, w_not, w_if, w_chain, w_isi, w_mt, w_tab, w_onone, w_osome, w_sl, List.map_cons, List.map_nil, List.length_cons, List.length_nil, List.cons_append, List.nil_append, List.getElem?_cons_zero, List.getElem?_cons_succ, List.set_cons_zero, List.set_cons_succ, List.reduceReplicate, Nat.reduceAdd, Nat.reduceSub]
  rw [w_ixL e]
  refine ⟨.int own, rfl, ?_⟩
  rw [w_fI]
  refine ⟨rfl, decide (0 < own), rfl, ?_⟩
  by_cases hp : 0 < own
  · rw [if_pos (decide_eq_true hp), w_ixL e]
    refine ⟨.int own, rfl, ?_⟩
    rw [w_int, w_fI]
    refine ⟨decide_eq_true hu, ?_⟩
    try simp only [s_nil, s_seq, s_drop, s_ret, s_set, s_if, s_par, s_put, s_for, w_var, w_c, w_bin, w_un, w_nil, w_cons, w_cb, w_tup, w_lst, w_val, w_tnot, w_tand, w_tor, w_and, w_or, w_not, w_if, w_chain, w_isi, w_mt, w_tab, w_onone, w_osome, w_sl, List.map_cons, List.map_nil, List.length_cons, List.length_nil, List.cons_append, List.nil_append, List.getElem?_cons_zero, List.getElem?_cons_succ, List.set_cons_zero, List.set_cons_succ, List.reduceReplicate, Nat.reduceAdd, Nat.reduceSub]
    rw [w_ixL e]
    refine ⟨.int own, rfl, ?_⟩
    rw [w_fI]
    refine ⟨ed, p, 0, _, 0, rfl, rfl, e, rfl, ?_⟩
    refine q (own % u) _ (Int.emod_nonneg _ (by omega)) (Int.emod_lt_of_pos _ hu) ((Ext.refl p S).put _) ⟨own / u, mixed, cnt, ?_, Int.ediv_nonneg ho (by omega), ⟨hm0, hm1⟩, hn0, by omega⟩
    rw [List.getElem?_set_self hl]
    rfl
  · rw [if_neg (by simp [hp]), w_ixL e]
    refine ⟨.int cnt, rfl, ?_⟩
    rw [w_addI]
    refine ⟨p, 2, _, 2, rfl, rfl, e, rfl, by decide, ?_⟩
    try simp only [s_nil, s_seq, s_drop, s_ret, s_set, s_if, s_par, s_put, s_for, w_var, w_c, w_bin, w_un, w_nil, w_cons, w_cb, w_tup, w_lst, w_val, w_tnot, w_tand, w_tor, w_and, w_or, w_not, w_if, w_chain, w_isi, w_mt, w_tab, w_onone, w_osome, w_sl, List.map_cons, List.map_nil, List.length_cons, List.length_nil, List.cons_append, List.nil_append, List.getElem?_cons_zero, List.getElem?_cons_succ, List.set_cons_zero, List.set_cons_succ, List.reduceReplicate, Nat.reduceAdd, Nat.reduceSub]
    have e1 : (S.set p (.lst [.int own, .int mixed, .int (cnt + 1)]))[p]? = some (.lst [.int own, .int mixed, .int (cnt + 1)]) := List.getElem?_set_self hl
    have x1 : Ext p S (S.set p (.lst [.int own, .int mixed, .int (cnt + 1)])) := (Ext.refl p S).put _
    have e2 : ∀ l : Ob, (S.set p (.lst [.int own, .int mixed, .int (cnt + 1)]) ++ [l])[p]? = some (.lst [.int own, .int mixed, .int (cnt + 1)]) := fun l => by
      rw [List.getElem?_append_left (by rw [List.length_set]; exact hl)]
      exact e1
    rw [w_ixL (e2 _)]
    refine ⟨.int (cnt + 1), rfl, ?_⟩
    rw [w_int, w_fI]
    refine ⟨by decide, ?_⟩
    rw [w_ixL (n := (S.set p (.lst [.int own, .int mixed, .int (cnt + 1)])).length) List.getElem?_concat_length]
    obtain ⟨pr, e3, pr0, pr1⟩ := prime_at (Int.emod_nonneg (cnt + 1) (by decide : (5 : Int) ≠ 0)) (Int.emod_lt_of_pos (cnt + 1) (by decide : (0 : Int) < 5))
    refine ⟨.int pr, e3, ?_⟩
    try simp only [s_nil, s_seq, s_drop, s_ret, s_set, s_if, s_par, s_put, s_for, w_var, w_c, w_bin, w_un, w_nil, w_cons, w_cb, w_tup, w_lst, w_val, w_tnot, w_tand, w_tor, w_and, w_or, w_not, w_if, w_chain, w_isi, w_mt, w_tab, w_onone, w_osome, w_sl, List.map_cons, List.map_nil, List.length_cons, List.length_nil, List.cons_append, List.nil_append, List.getElem?_cons_zero, List.getElem?_cons_succ, List.set_cons_zero, List.set_cons_succ, List.reduceReplicate, Nat.reduceAdd, Nat.reduceSub]
    have sq : (99991 * (cnt + 1) * (cnt + 1)).natAbs < 2 ^ 98 := by
      have h1 : 0 ≤ cnt + 1 := by omega
      have h2 : cnt + 1 ≤ 2 ^ 40 := by omega
      have h3 : (cnt + 1) * (cnt + 1) ≤ 2 ^ 40 * 2 ^ 40 := Int.mul_le_mul h2 h2 h1 (by decide)
      have h4 : 0 ≤ (cnt + 1) * (cnt + 1) := Int.mul_nonneg h1 h1
      have h5 : 99991 * (cnt + 1) * (cnt + 1) = 99991 * ((cnt + 1) * (cnt + 1)) := Int.mul_assoc _ _ _
      omega
    have sq0 : 0 ≤ 99991 * (cnt + 1) * (cnt + 1) := Int.mul_nonneg (by omega) (by omega)
    rw [w_ixL (e2 _)]
    refine ⟨.int mixed, rfl, ?_⟩
    rw [w_ixL (e2 _)]
    refine ⟨.int (cnt + 1), rfl, ?_⟩
    rw [w_mulI]
    refine ⟨mulOk_l (by decide) (by decide), ?_⟩
    rw [w_ixL (e2 _)]
    refine ⟨.int (cnt + 1), rfl, ?_⟩
    rw [w_mulI]
    refine ⟨mulOk_r (by omega) (by omega), ?_⟩
    rw [w_addI, w_addI, w_int, w_fI]
    have bb : Builtin.Int.intBits (mixed + 99991 * (cnt + 1) * (cnt + 1) + 41) ≤ 99 := PyProof.Rows.intBits_le (by omega)
    refine ⟨by
      unfold powOk
      rw [decide_eq_true (by decide : (0 : Int) ≤ 3), Bool.true_and]
      exact decide_eq_true (by omega), ?_⟩
    rw [w_int, w_fI]
    refine ⟨decide_eq_true pr0, ?_⟩
    try simp only [s_nil, s_seq, s_drop, s_ret, s_set, s_if, s_par, s_put, s_for, w_var, w_c, w_bin, w_un, w_nil, w_cons, w_cb, w_tup, w_lst, w_val, w_tnot, w_tand, w_tor, w_and, w_or, w_not, w_if, w_chain, w_isi, w_mt, w_tab, w_onone, w_osome, w_sl, List.map_cons, List.map_nil, List.length_cons, List.length_nil, List.cons_append, List.nil_append, List.getElem?_cons_zero, List.getElem?_cons_succ, List.set_cons_zero, List.set_cons_succ, List.reduceReplicate, Nat.reduceAdd, Nat.reduceSub]
    generalize hx : (mixed + 99991 * (cnt + 1) * (cnt + 1) + 41) ^ (3 : Int).toNat % pr = x
    have x0 : 0 ≤ x := by rw [← hx]; exact Int.emod_nonneg _ (by omega)
    have x1' : x < pr := by rw [← hx]; exact Int.emod_lt_of_pos _ pr0
    rw [w_int, w_fI]
    refine ⟨by decide, ?_⟩
    rw [w_ixL (e2 _)]
    refine ⟨.int (cnt + 1), rfl, ?_⟩
    rw [w_mulI]
    refine ⟨mulOk_l (by decide) (by decide), ?_⟩
    rw [w_addI, w_mulI]
    refine ⟨mulOk_l (by omega) (by omega), ?_⟩
    rw [w_int, w_fI]
    refine ⟨by decide, ?_⟩
    try simp only [s_nil, s_seq, s_drop, s_ret, s_set, s_if, s_par, s_put, s_for, w_var, w_c, w_bin, w_un, w_nil, w_cons, w_cb, w_tup, w_lst, w_val, w_tnot, w_tand, w_tor, w_and, w_or, w_not, w_if, w_chain, w_isi, w_mt, w_tab, w_onone, w_osome, w_sl, List.map_cons, List.map_nil, List.length_cons, List.length_nil, List.cons_append, List.nil_append, List.getElem?_cons_zero, List.getElem?_cons_succ, List.set_cons_zero, List.set_cons_succ, List.reduceReplicate, Nat.reduceAdd, Nat.reduceSub]
    rw [w_fI]
    refine ⟨by decide, ?_⟩
    rw [w_int, w_fI]
    refine ⟨decide_eq_true hu, ?_⟩
    exact q _ _ (Int.emod_nonneg _ (by omega)) (Int.emod_lt_of_pos _ hu) (x1.app _) ⟨own, mixed, cnt + 1, e2 _, ho, ⟨hm0, hm1⟩, by omega, by omega⟩
/-- the laws' of -/
def fOf (take : F) : F := mDef 2 2 (sRet (mBin fIx (mVar 1) (mCB take (aCons (mVar 0) (aCons (mCB cLen (aCons (mVar 1) aNil)) aNil)))))
theorem atI_nat {ds : List D} {r : Int} (h0 : 0 ≤ r) (h1 : r < (ds.length : Nat)) : ∃ d, atI ds r = some d ∧ d ∈ ds := by
  have hr : r.toNat < ds.length := by omega
  refine ⟨ds[r.toNat], ?_, List.getElem_mem _⟩
  unfold atI
  rw [show ixN ds.length r = some r.toNat by unfold ixN; rw [if_pos h0, if_pos h1]]
  exact List.getElem?_eq_getElem hr
theorem b01 (b : Bool) : 0 ≤ (if b = true then (1 : Int) else 0) ∧ (if b = true then (1 : Int) else 0) < 2 ^ 64 := by cases b <;> decide
theorem of_wp {p n : Nat} {c : Int} {S : Sto} {ds : List D} {Q : D → Sto → Prop} (h : Pot p c S) (hc : c < 2 ^ 40) (hn : S[n]? = some (.lst ds)) (np : n ≠ p) (h0 : 0 < ds.length) (h1 : ds.length < 1073741824)
    (q : ∀ d S', d ∈ ds → Ext p S S' → Pot p (c + 1) S' → Q d S') : (fOf fTake [.ref p, .ref n] S).wp Q := by
  unfold fOf
  refine w_def rfl ?_
  simp only [s_nil, s_seq, s_drop, s_ret, s_set, s_if, s_par, s_put, s_for, w_var, w_c, w_bin, w_un, w_nil, w_cons, w_cb, w_tup, w_lst, w_val, w_tnot, w_tand, w_tor, w_and, w_or, w_not, w_if, w_chain, w_isi, w_mt, w_tab, w_onone, w_osome, w_sl, List.map_cons, List.map_nil, List.length_cons, List.length_nil, List.cons_append, List.nil_append, List.getElem?_cons_zero, List.getElem?_cons_succ, List.set_cons_zero, List.set_cons_succ, List.reduceReplicate, Nat.reduceAdd, Nat.reduceSub]
  rw [w_lenL hn]
  refine take_wp h hc (by omega) (by omega) fun r S' r0 r1 x hp => ?_
  rw [w_ixL (x.at_ hn np)]
  obtain ⟨d, e, hd⟩ := atI_nat r0 r1
  exact ⟨d, e, q d S' hd x hp⟩
/-- the laws' pot -/
def fPot : F := mDef 2 4 (sSeq (sSet 2 (mIf (tVal (mBin fLt (mVar 1) (mCB cLen (aCons (mVar 0) aNil)))) (mBin fIx (mVar 0) (mVar 1)) (mBin fAdd (mBin fMul (mC (.int 47)) (mVar 1)) (mC (.int 23)))))
  (sSeq (sSet 3 (mBin fMul (mBin fMod (mCB cInt (aCons (mCB cAbs (aCons (mVar 2) aNil)) aNil)) (mBin fPow (mBin fPow (mC (.int 10)) (mC (.int 60))) (mC (.int 5)))) (mCB cInt (aCons (mBin fGe (mCB cAbs (aCons (mVar 2) aNil)) (mBin fPow (mC (.int 10)) (mC (.int 18)))) aNil))))
  (sRet (mLst (aCons (mVar 3) (aCons (mBin fMod (mCB cInt (aCons (mBin fAdd (mBin fAdd (mBin fMul (mBin fMod (mCB cInt (aCons (mVar 2) aNil)) (mC (.int 2305843009213693951))) (mC (.int 70991))) (mBin fMul (mBin fMul (mC (.int 5323)) (mVar 1)) (mVar 1))) (mC (.int 71))) aNil)) (mC (.int 2305843009213693921))) (aCons (mC (.int 0)) aNil)))))))
theorem pot_wp {S : Sto} {ns : List Int} {k : Int} {Q : D → Sto → Prop} (h0 : 0 ≤ k) (h1 : k < 100) (q : ∀ a b : Int, 0 ≤ a → (0 ≤ b ∧ b < 2 ^ 62) → Q (.ref S.length) (S ++ [.lst [.int a, .int b, .int 0]])) : (fPot [.fls (ns.map D.int), .int k] S).wp Q := by
  have core : ∀ x : Int, (((sSeq (sSet 3 (mBin fMul (mBin fMod (mCB cInt (aCons (mCB cAbs (aCons (mVar 2) aNil)) aNil)) (mBin fPow (mBin fPow (mC (.int 10)) (mC (.int 60))) (mC (.int 5)))) (mCB cInt (aCons (mBin fGe (mCB cAbs (aCons (mVar 2) aNil)) (mBin fPow (mC (.int 10)) (mC (.int 18)))) aNil))))
  (sRet (mLst (aCons (mVar 3) (aCons (mBin fMod (mCB cInt (aCons (mBin fAdd (mBin fAdd (mBin fMul (mBin fMod (mCB cInt (aCons (mVar 2) aNil)) (mC (.int 2305843009213693951))) (mC (.int 70991))) (mBin fMul (mBin fMul (mC (.int 5323)) (mVar 1)) (mVar 1))) (mC (.int 71))) aNil)) (mC (.int 2305843009213693921))) (aCons (mC (.int 0)) aNil))))))) [some (.fls (ns.map D.int)), some (.int k), some (.int x), none] S).wp (fun _ S => Q .non S) Q := by
    intro x
    simp only [s_nil, s_seq, s_drop, s_ret, s_set, s_if, s_par, s_put, s_for, w_var, w_c, w_bin, w_un, w_nil, w_cons, w_cb, w_tup, w_lst, w_val, w_tnot, w_tand, w_tor, w_and, w_or, w_not, w_if, w_chain, w_isi, w_mt, w_tab, w_onone, w_osome, w_sl, List.map_cons, List.map_nil, List.length_cons, List.length_nil, List.cons_append, List.nil_append, List.getElem?_cons_zero, List.getElem?_cons_succ, List.set_cons_zero, List.set_cons_succ, List.reduceReplicate, Nat.reduceAdd, Nat.reduceSub]
    rw [w_abs, w_int, w_fI]
    refine ⟨by decide +kernel, ?_⟩
    rw [w_fI]
    refine ⟨by decide +kernel, ?_⟩
    rw [w_fI]
    refine ⟨decide_eq_true (by decide +kernel), ?_⟩
    rw [w_abs, w_fI]
    refine ⟨by decide +kernel, ?_⟩
    rw [w_fI]
    refine ⟨rfl, ?_⟩
    rw [w_intB, w_mulI]
    refine ⟨mulOk_r (Int.lt_of_lt_of_le (by decide) (b01 _).1) (b01 _).2, ?_⟩
    try simp only [s_nil, s_seq, s_drop, s_ret, s_set, s_if, s_par, s_put, s_for, w_var, w_c, w_bin, w_un, w_nil, w_cons, w_cb, w_tup, w_lst, w_val, w_tnot, w_tand, w_tor, w_and, w_or, w_not, w_if, w_chain, w_isi, w_mt, w_tab, w_onone, w_osome, w_sl, List.map_cons, List.map_nil, List.length_cons, List.length_nil, List.cons_append, List.nil_append, List.getElem?_cons_zero, List.getElem?_cons_succ, List.set_cons_zero, List.set_cons_succ, List.reduceReplicate, Nat.reduceAdd, Nat.reduceSub]
    rw [w_int, w_fI]
    refine ⟨by decide, ?_⟩
    rw [w_mulI]
    refine ⟨mulOk_r (by decide) (by decide), ?_⟩
    rw [w_mulI]
    refine ⟨mulOk_l (by decide) (by decide), ?_⟩
    rw [w_mulI]
    refine ⟨mulOk_r (by omega) (by omega), ?_⟩
    rw [w_addI, w_addI, w_int, w_fI]
    refine ⟨by decide, by decide, ?_⟩
    refine q _ _ (Int.mul_nonneg (Int.emod_nonneg _ (by decide +kernel)) (b01 _).1) ⟨Int.emod_nonneg _ (by decide), ?_⟩
    have := Int.emod_lt_of_pos (x % 2305843009213693951 * 70991 + 5323 * k * k + 71) (by decide : (0 : Int) < 2305843009213693921)
    omega
  unfold fPot
  refine w_def rfl ?_
  rw [s_seq]
  simp only [s_nil, s_seq, s_drop, s_ret, s_set, s_if, s_par, s_put, s_for, w_var, w_c, w_bin, w_un, w_nil, w_cons, w_cb, w_tup, w_lst, w_val, w_tnot, w_tand, w_tor, w_and, w_or, w_not, w_if, w_chain, w_isi, w_mt, w_tab, w_onone, w_osome, w_sl, List.map_cons, List.map_nil, List.length_cons, List.length_nil, List.cons_append, List.nil_append, List.getElem?_cons_zero, List.getElem?_cons_succ, List.set_cons_zero, List.set_cons_succ, List.reduceReplicate, Nat.reduceAdd, Nat.reduceSub]
  rw [w_lenF, w_fI]
  refine ⟨rfl, _, rfl, ?_⟩
  by_cases hk : k < ((ns.map D.int).length : Nat)
  · rw [if_pos (decide_eq_true hk), w_ixF]
    obtain ⟨d, e, hd⟩ := atI_nat h0 hk
    obtain ⟨x, _, rfl⟩ := List.mem_map.mp hd
    refine ⟨.int x, e, ?_⟩
    have := core x
    simp only [s_nil, s_seq, s_drop, s_ret, s_set, s_if, s_par, s_put, s_for, w_var, w_c, w_bin, w_un, w_nil, w_cons, w_cb, w_tup, w_lst, w_val, w_tnot, w_tand, w_tor, w_and, w_or, w_not, w_if, w_chain, w_isi, w_mt, w_tab, w_onone, w_osome, w_sl, List.map_cons, List.map_nil, List.length_cons, List.length_nil, List.cons_append, List.nil_append, List.getElem?_cons_zero, List.getElem?_cons_succ, List.set_cons_zero, List.set_cons_succ, List.reduceReplicate, Nat.reduceAdd, Nat.reduceSub] at this
    exact this
  · rw [if_neg (by rw [decide_eq_false hk]; exact Bool.false_ne_true), w_mulI]
    refine ⟨mulOk_l (by decide) (by decide), ?_⟩
    rw [w_addI]
    have := core (47 * k + 23)
    simp only [s_nil, s_seq, s_drop, s_ret, s_set, s_if, s_par, s_put, s_for, w_var, w_c, w_bin, w_un, w_nil, w_cons, w_cb, w_tup, w_lst, w_val, w_tnot, w_tand, w_tor, w_and, w_or, w_not, w_if, w_chain, w_isi, w_mt, w_tab, w_onone, w_osome, w_sl, List.map_cons, List.map_nil, List.length_cons, List.length_nil, List.cons_append, List.nil_append, List.getElem?_cons_zero, List.getElem?_cons_succ, List.set_cons_zero, List.set_cons_succ, List.reduceReplicate, Nat.reduceAdd, Nat.reduceSub] at this
    exact this
end Mn
set_option Elab.async false
set_option linter.all false
set_option maxRecDepth 100000
set_option maxHeartbeats 4000000
namespace Mn
open PySem PySem.Spec PyProof.Rows L2
mutual
/-- short ints, plain texts, no dict, tuples and lists of at most w -/
def okP (w : Nat) : PyData → Bool
  | .none => true
  | .bool _ => true
  | .int i => decide (i.natAbs < 10 ∨ (0 ≤ i ∧ i < 10000000))
  | .str x => x.cps.toList.all fun c => decide (c < 128)
  | .list xs => decide (xs.length ≤ w) && okPs w xs
  | .tuple xs => decide (xs.length ≤ w) && okPs w xs
  | .dict _ => false
def okPs (w : Nat) : List PyData → Bool
  | [] => true
  | x :: xs => okP w x && okPs w xs
end
mutual
theorem okP_mono {w w' : Nat} (h : w ≤ w') : ∀ q : PyData, okP w q = true → okP w' q = true
  | .none, _ => rfl
  | .bool _, _ => rfl
  | .int _, q => q
  | .str _, q => q
  | .list xs, q => by
    have q : (decide (xs.length ≤ w) && okPs w xs) = true := q
    rw [Bool.and_eq_true] at q
    show (decide (xs.length ≤ w') && okPs w' xs) = true
    rw [decide_eq_true (Nat.le_trans (of_decide_eq_true q.1) h), okPs_mono h xs q.2]
    rfl
  | .tuple xs, q => by
    have q : (decide (xs.length ≤ w) && okPs w xs) = true := q
    rw [Bool.and_eq_true] at q
    show (decide (xs.length ≤ w') && okPs w' xs) = true
    rw [decide_eq_true (Nat.le_trans (of_decide_eq_true q.1) h), okPs_mono h xs q.2]
    rfl
  | .dict _, q => by cases q
theorem okPs_mono {w w' : Nat} (h : w ≤ w') : ∀ qs : List PyData, okPs w qs = true → okPs w' qs = true
  | [], _ => rfl
  | x :: xs, q => by
    have q : (okP w x && okPs w xs) = true := q
    rw [Bool.and_eq_true] at q
    show (okP w' x && okPs w' xs) = true
    rw [okP_mono h x q.1, okPs_mono h xs q.2]
    rfl
end
def pvF (p : Nat) : Nat → Sto → Nat → Option PyData
  | 0, _, _ => none
  | k + 1, S, n => if n = p then none else match S[n]? with
    | some (.lst ds) => (D.pysG (pvF p k S) ds).map .list
    | _ => none
abbrev pv (p r : Nat) (S : Sto) (d : D) : Option PyData := d.pyG (pvF p r S)
abbrev pvs (p r : Nat) (S : Sto) (ds : List D) : Option (List PyData) := D.pysG (pvF p r S) ds
mutual
theorem pyG_mono {f g : Nat → Option PyData} (h : ∀ n q, f n = some q → g n = some q) : ∀ {d : D} {q : PyData}, d.pyG f = some q → d.pyG g = some q
  | .non, _, e => e
  | .bl _, _, e => e
  | .int _, _, e => e
  | .str _, _, e => e
  | .tup ds, _, e => by
    obtain ⟨ps, hp, rfl⟩ := Option.map_eq_some_iff.mp (show (D.pysG f ds).map PyData.tuple = some _ from e)
    show (D.pysG g ds).map PyData.tuple = _
    rw [pysG_mono h hp]
    rfl
  | .fls ds, _, e => by
    obtain ⟨ps, hp, rfl⟩ := Option.map_eq_some_iff.mp (show (D.pysG f ds).map PyData.list = some _ from e)
    show (D.pysG g ds).map PyData.list = _
    rw [pysG_mono h hp]
    rfl
  | .ref n, _, e => h n _ e
theorem pysG_mono {f g : Nat → Option PyData} (h : ∀ n q, f n = some q → g n = some q) : ∀ {ds : List D} {qs : List PyData}, D.pysG f ds = some qs → D.pysG g ds = some qs
  | [], _, e => e
  | d :: ds, _, e => by
    unfold D.pysG at e
    split at e
    · rename_i p ps h1 h2
      injection e with e
      subst e
      unfold D.pysG
      rw [pyG_mono h h1, pysG_mono h h2]
    · cases e
end
theorem pvF_ext {p : Nat} {S S' : Sto} (x : Ext p S S') : ∀ (k n : Nat) (q : PyData), pvF p k S n = some q → pvF p k S' n = some q
  | 0, _, _, e => by cases e
  | k + 1, n, q, e => by
    unfold pvF at e ⊢
    split at e
    · cases e
    · rename_i np
      rw [if_neg np]
      split at e
      · rename_i ds hs
        rw [x.at_ hs np]
        obtain ⟨ps, hp, rfl⟩ := Option.map_eq_some_iff.mp e
        show (D.pysG (pvF p k S') ds).map PyData.list = _
        rw [pysG_mono (pvF_ext x k) hp]
        rfl
      · cases e
theorem pvF_succ {p : Nat} {S : Sto} : ∀ (k n : Nat) (q : PyData), pvF p k S n = some q → pvF p (k + 1) S n = some q
  | 0, _, _, e => by cases e
  | k + 1, n, q, e => by
    unfold pvF at e ⊢
    split at e
    · cases e
    · rename_i np
      rw [if_neg np]
      split at e
      · rename_i ds hs
        obtain ⟨ps, hp, rfl⟩ := Option.map_eq_some_iff.mp e
        show (D.pysG (pvF p (k + 1) S) ds).map PyData.list = _
        rw [pysG_mono (pvF_succ k) hp]
        rfl
      · cases e
theorem pvF_le {p : Nat} {S : Sto} {k k' : Nat} (h : k ≤ k') (n : Nat) (q : PyData) (e : pvF p k S n = some q) : pvF p k' S n = some q := by
  induction h with
  | refl => exact e
  | step _ ih => exact pvF_succ _ _ _ ih
structure Gd (w W h : Nat) (q : PyData) : Prop where
  ok : okP w q = true
  wt : q.weight ≤ W
  dp : q.depth ≤ h
structure Gds (w W h : Nat) (qs : List PyData) : Prop where
  ok : okPs w qs = true
  wt : PyData.weightAll qs ≤ W
  dp : PyData.depthAll qs ≤ h
theorem Gd.le {w W h w' W' h' : Nat} {q : PyData} (g : Gd w W h q) (a : w ≤ w') (b : W ≤ W') (c : h ≤ h') : Gd w' W' h' q := ⟨okP_mono a _ g.ok, Nat.le_trans g.wt b, Nat.le_trans g.dp c⟩
/-- d is data behind S, so deep in lists, and so great -/
def Vl (p r w W h : Nat) (S : Sto) (d : D) : Prop := ∃ q, pv p r S d = some q ∧ Gd w W h q
def Vls (p r w W h : Nat) (S : Sto) (ds : List D) : Prop := ∃ qs, pvs p r S ds = some qs ∧ Gds w W h qs
section
variable {p r w W h r' w' W' h' : Nat} {S S' : Sto} {d e : D} {ds es : List D}
theorem Vl.ext (v : Vl p r w W h S d) (x : Ext p S S') : Vl p r w W h S' d := by
  obtain ⟨q, e, g⟩ := v
  exact ⟨q, pyG_mono (pvF_ext x r) e, g⟩
theorem Vls.ext (v : Vls p r w W h S ds) (x : Ext p S S') : Vls p r w W h S' ds := by
  obtain ⟨q, e, g⟩ := v
  exact ⟨q, pysG_mono (pvF_ext x r) e, g⟩
theorem Vl.le (v : Vl p r w W h S d) (hr : r ≤ r') (a : w ≤ w') (b : W ≤ W') (c : h ≤ h') : Vl p r' w' W' h' S d := by
  obtain ⟨q, e, g⟩ := v
  exact ⟨q, pyG_mono (pvF_le hr) e, g.le a b c⟩
theorem Vls.le (v : Vls p r w W h S ds) (hr : r ≤ r') (a : w ≤ w') (b : W ≤ W') (c : h ≤ h') : Vls p r' w' W' h' S ds := by
  obtain ⟨q, e, g⟩ := v
  exact ⟨q, pysG_mono (pvF_le hr) e, okPs_mono a _ g.ok, Nat.le_trans g.wt b, Nat.le_trans g.dp c⟩
theorem Vls.nil : Vls p r w 0 0 S [] := ⟨[], rfl, rfl, Nat.le_refl _, Nat.le_refl _⟩
theorem Vls.cons (v : Vl p r w W h S d) (vs : Vls p r w W' h' S ds) : Vls p r w (W + 1 + W') (max h h') S (d :: ds) := by
  obtain ⟨q, e, g⟩ := v
  obtain ⟨qs, es, gs⟩ := vs
  refine ⟨q :: qs, ?_, ?_, ?_, ?_⟩
  · show D.pysG _ (d :: ds) = _
    unfold D.pysG
    have e : D.pyG (pvF p r S) d = some q := e
    have es : D.pysG (pvF p r S) ds = some qs := es
    rw [e, es]
  · show (okP w q && okPs w qs) = true
    rw [g.ok, gs.ok]
    rfl
  · show q.weight + 1 + PyData.weightAll qs ≤ _
    have := g.wt
    have := gs.wt
    omega
  · show max q.depth (PyData.depthAll qs) ≤ _
    have := g.dp
    have := gs.dp
    omega
theorem pysG_len {f : Nat → Option PyData} : ∀ {ds : List D} {qs : List PyData}, D.pysG f ds = some qs → qs.length = ds.length
  | [], _, e => by
    have e : some [] = some _ := e
    injection e with e
    subst e
    rfl
  | d :: ds, _, e => by
    unfold D.pysG at e
    split at e
    · rename_i p ps h1 h2
      injection e with e
      subst e
      exact congrArg Nat.succ (pysG_len h2)
    · cases e
theorem Vls.tup (v : Vls p r w W h S ds) (hl : ds.length ≤ w) : Vl p r w W (h + 1) S (.tup ds) := by
  obtain ⟨qs, e, g⟩ := v
  refine ⟨.tuple qs, ?_, ?_, g.wt, Nat.succ_le_succ g.dp⟩
  · show (D.pysG _ ds).map PyData.tuple = _
    have e : D.pysG (pvF p r S) ds = some qs := e
    rw [e]
    rfl
  · show (decide (qs.length ≤ w) && okPs w qs) = true
    rw [decide_eq_true (by rw [pysG_len e]; exact hl), g.ok]
    rfl
theorem Vls.uncons (v : Vls p r w W h S (d :: ds)) : ∃ W1 W2, W1 + 1 + W2 ≤ W ∧ Vl p r w W1 h S d ∧ Vls p r w W2 h S ds := by
  obtain ⟨qs, e, g⟩ := v
  have e : D.pysG (pvF p r S) (d :: ds) = some qs := e
  unfold D.pysG at e
  split at e
  · rename_i q qs' h1 h2
    injection e with e
    subst e
    have ok : (okP w q && okPs w qs') = true := g.ok
    rw [Bool.and_eq_true] at ok
    have wt : q.weight + 1 + PyData.weightAll qs' ≤ W := g.wt
    have dp : max q.depth (PyData.depthAll qs') ≤ h := g.dp
    exact ⟨_, _, wt, ⟨q, h1, ok.1, Nat.le_refl _, by omega⟩, ⟨qs', h2, ok.2, Nat.le_refl _, by omega⟩⟩
  · cases e
theorem Vls.append (v : Vls p r w W h S ds) (v' : Vls p r w W' h S es) : Vls p r w (W + W') h S (ds ++ es) := by
  induction ds generalizing W with
  | nil => exact v'.le (Nat.le_refl _) (Nat.le_refl _) (by omega) (Nat.le_refl _)
  | cons d ds ih =>
    obtain ⟨W1, W2, hW, v1, v2⟩ := v.uncons
    have := Vls.cons v1 (ih v2)
    exact this.le (Nat.le_refl _) (Nat.le_refl _) (by omega) (by omega)
/-- parted at a place -/
theorem Vls.split (v : Vls p r w W h S ds) (i : Nat) : ∃ W1 W2, W1 + W2 ≤ W ∧ Vls p r w W1 h S (ds.take i) ∧ Vls p r w W2 h S (ds.drop i) := by
  induction ds generalizing W i with
  | nil => exact ⟨0, 0, by omega, by rw [List.take_nil]; exact Vls.nil.le (Nat.le_refl _) (Nat.le_refl _) (Nat.le_refl _) (Nat.zero_le _), by rw [List.drop_nil]; exact Vls.nil.le (Nat.le_refl _) (Nat.le_refl _) (Nat.le_refl _) (Nat.zero_le _)⟩
  | cons d ds ih =>
    cases i with
    | zero => exact ⟨0, W, by omega, Vls.nil.le (Nat.le_refl _) (Nat.le_refl _) (Nat.le_refl _) (Nat.zero_le _), v⟩
    | succ i =>
      obtain ⟨W1, W2, hW, v1, v2⟩ := v.uncons
      obtain ⟨A, B, hAB, a, b⟩ := ih v2 i
      exact ⟨W1 + 1 + A, B, by omega, (Vls.cons v1 a).le (Nat.le_refl _) (Nat.le_refl _) (Nat.le_refl _) (by omega), b⟩
theorem Vls.take (v : Vls p r w W h S ds) (i : Nat) : Vls p r w W h S (ds.take i) := by
  obtain ⟨A, B, hAB, a, b⟩ := v.split i
  exact a.le (Nat.le_refl _) (Nat.le_refl _) (by omega) (Nat.le_refl _)
theorem Vls.drop (v : Vls p r w W h S ds) (i : Nat) : Vls p r w W h S (ds.drop i) := by
  obtain ⟨A, B, hAB, a, b⟩ := v.split i
  exact b.le (Nat.le_refl _) (Nat.le_refl _) (by omega) (Nat.le_refl _)
/-- the item at a place, what stands ahead of it and behind -/
theorem Vls.at_ (v : Vls p r w W h S ds) {i : Nat} (hi : ds[i]? = some d) : ∃ A B C, A + B + 1 + C ≤ W ∧ Vls p r w A h S (ds.take i) ∧ Vl p r w B h S d ∧ Vls p r w C h S (ds.drop (i + 1)) := by
  obtain ⟨A, B, hAB, a, b⟩ := v.split i
  have hl := (List.getElem?_eq_some_iff.mp hi).1
  have e : ds.drop i = d :: ds.drop (i + 1) := by
    rw [List.drop_eq_getElem_cons hl]
    congr 1
    exact Option.some.inj ((List.getElem?_eq_getElem hl).symm.trans hi)
  rw [e] at b
  obtain ⟨B1, C, hBC, b1, c⟩ := b.uncons
  exact ⟨A, B1, C, by omega, a, b1, c⟩
end
end Mn
set_option Elab.async false
set_option linter.all false
set_option maxRecDepth 100000
set_option maxHeartbeats 4000000
namespace Mn
open PySem PySem.Spec PyProof.Rows L2
/-- are_all -/
def g_are_all  : F := mDef 2 3 (sRet (mCB cAll (aCons (mComp (iVal (mVar 0)) (.nm 2) tYesM (mBin fIn (mVar 2) (mVar 1)) [2]) aNil)))
/-- is_name -/
def g_is_name (c_are_all : F) : F := mDef 1 1 (sSeq (sIf (tOr (tNot (tVal (mIsi "str" (mVar 0)))) (tNot (tVal (mChain fLe fLe (mC (.int 1)) (mCB cLen (aCons (mVar 0) aNil)) (mC (.int 8)))))) (sRet (mC (.bl false))) sNil)
  (sRet (mAnd (mCB c_are_all (aCons (mVar 0) (aCons (mC (.str "abcdefghijklmnopqrstuvwxyz")) aNil))) (mBin fNotIn (mVar 0) (mC (.tup [.str "if", .str "else", .str "loop", .str "give"]))))))
/-- is_number -/
def g_is_number (c_are_all : F) : F := mDef 1 1 (sSeq (sIf (tOr (tNot (tVal (mIsi "str" (mVar 0)))) (tOr (tNot (tVal (mChain fLe fLe (mC (.int 1)) (mCB cLen (aCons (mVar 0) aNil)) (mC (.int 6))))) (tNot (tVal (mCB c_are_all (aCons (mVar 0) (aCons (mC (.str "0123456789")) aNil))))))) (sRet (mC (.bl false))) sNil)
  (sRet (mOr (mBin fEq (mVar 0) (mC (.str "0"))) (mBin fNe (mBin fIx (mVar 0) (mC (.int 0))) (mC (.str "0"))))))
/-- is_note -/
def g_is_note (c_are_all : F) : F := mDef 1 1 (sSeq (sIf (tOr (tNot (tVal (mIsi "str" (mVar 0)))) (tVal (mBin fGt (mCB cLen (aCons (mVar 0) aNil)) (mC (.int 40))))) (sRet (mC (.bl false))) sNil)
  (sRet (mAnd (mCB c_are_all (aCons (mVar 0) (aCons (mBin fAdd (mBin fAdd (mC (.str "abcdefghijklmnopqrstuvwxyz")) (mC (.str "0123456789"))) (mC (.str " "))) aNil))) (mBin fEq (mVar 0) (mMt "str" fStripC (mVar 0) (aCons (mC (.str " ")) aNil))))))
theorem all_wp {it : MI} {p : Pt} {elt : M} {vs : List Nat} {ρ : En} {S : Sto} {Q : D → Sto → Prop} {ds : List D} {chk : Sto → Bool} (b : D → Bool) (hw : p.within vs = true) (hit : it ρ S = .ok (ds, chk) S) (hc : ∀ l, chk (S ++ l) = true) (hl : ds.length < sizeLine)
    (he : ∀ d, d ∈ ds → ∀ l (Q' : D → Sto → Prop), (∀ l', Q' (.bl (b d)) (S ++ (l ++ l'))) → ∃ ρ1, p.put (S ++ l) (wipeE ρ vs) d = some ρ1 ∧ (elt ρ1 (S ++ l)).wp Q')
    (q : ∀ l, Q (.bl (ds.all b)) (S ++ l)) : (mCB cAll (aCons (mComp it p tYesM elt vs) aNil) ρ S).wp Q := by
  rw [w_cb, w_cons]
  refine w_comp hw ?_
  rw [hit]
  show Res.wp (mCompL p tYesM elt chk S.length (wipeE ρ vs) ds (S ++ [.lst []])) _
  refine comp_wp (I := fun r acc S' => ∃ l done, S' = S ++ (Ob.lst acc :: l) ∧ acc = done.map (fun d => D.bl (b d)) ∧ done ++ r = ds) (fun r acc S' => ?_) (fun d r acc S' => ?_) (fun acc S' => ?_) ds [] _ ⟨[], [], rfl, rfl, rfl⟩ List.getElem?_concat_length
  · rintro ⟨l, done, rfl, _, _⟩
    exact hc _
  · rintro ⟨l, done, rfl, ha, hd⟩ hn
    have hm : d ∈ ds := by rw [← hd]; simp
    refine he d hm (Ob.lst acc :: l) _ fun l' => ?_
    have e : S ++ (Ob.lst acc :: l ++ l') = S ++ Ob.lst acc :: (l ++ l') := rfl
    rw [e]
    refine ⟨by simp, ?_, l ++ l', done ++ [d], ?_, ?_, ?_⟩
    · rw [ha, List.length_map]
      have := congrArg List.length hd
      rw [List.length_append, List.length_cons] at this
      omega
    · rw [List.set_append_right _ _ (Nat.le_refl _), Nat.sub_self]
      rfl
    · rw [ha, List.map_append]
      rfl
    · rw [List.append_assoc]
      exact hd
  · rintro ⟨l, done, rfl, ha, hd⟩ hn
    rw [List.append_nil] at hd
    subst hd
    have bl : ∀ ds : List D, blsOf (ds.map fun d => D.bl (b d)) = some (ds.map b) := by
      intro ds
      induction ds with
      | nil => rfl
      | cons d r ih =>
        show (blsOf (r.map fun d => D.bl (b d))).map (b d :: ·) = _
        rw [ih]
        rfl
    show Res.wp (cAll [.ref S.length] (S ++ Ob.lst acc :: l)) Q
    have e1 : (S ++ Ob.lst acc :: l)[S.length]? = some (.lst acc) := by simp
    have e : cAll [.ref S.length] (S ++ Ob.lst acc :: l) = .ok (.bl ((done.map b).all id)) (S ++ Ob.lst acc :: l) := by
      show (match (S ++ Ob.lst acc :: l)[S.length]? with | some (.lst xs) => (match blsOf xs with | some bs => Res.ok (D.bl (bs.all id)) _ | none => .bad) | _ => .bad) = _
      rw [e1]
      show (match blsOf acc with | some bs => Res.ok (D.bl (bs.all id)) _ | none => .bad) = _
      rw [ha, bl]
    rw [e]
    have e2 : (done.map b).all id = done.all b := by rw [List.all_map]; rfl
    rw [e2]
    exact q _
/-- a list's place, or no place at all -/
def Sv (S : Sto) (d : D) : Prop := match d with
  | .ref n => ∃ ds, S[n]? = some (.lst ds)
  | _ => True
theorem Sv.app {S : Sto} {d : D} (h : Sv S d) (l : List Ob) : Sv (S ++ l) d := by
  cases d with
  | ref n =>
    obtain ⟨ds, e⟩ := h
    exact ⟨ds, by rw [List.getElem?_append_left (List.getElem?_eq_some_iff.mp e).1]; exact e⟩
  | _ => trivial
theorem Sv.k {S : Sto} {d : D} (h : Sv S d) : kOf S d ≠ "?" := by
  cases d with
  | ref n =>
    obtain ⟨ds, e⟩ := h
    show kOb S[n]? ≠ "?"
    rw [e]
    show "list" ≠ "?"
    decide
  | _ => simp [kOf]
theorem Sv.isS {S : Sto} {d : D} (h : Sv S d) : isB (kOf S d) "str" = (match d with | .str _ => true | _ => false) := by
  cases d with
  | ref n =>
    obtain ⟨ds, e⟩ := h
    show isB (kOb S[n]?) "str" = false
    rw [e]
    rfl
  | _ => rfl
theorem Sv.sh {S : Sto} {d : D} (h : Sv S d) : ∃ s, shD S d = some s ∧ (∀ x, s = .sc (.str x) → d = .str x) ∧ (∀ x, d = .str x → s = .sc (.str x)) ∧ (∀ xs, s = .tp xs → d = .tup xs) := by
  cases d with
  | ref n =>
    obtain ⟨ds, e⟩ := h
    refine ⟨.ls ds, ?_, (fun x z => by cases z), (fun x z => by cases z), (fun xs z => by cases z)⟩
    show (match S[n]? with | some (.lst ds) => some (Sh.ls ds) | _ => none) = _
    rw [e]
  | non => exact ⟨_, rfl, (fun x z => by cases z), (fun x z => by cases z), (fun xs z => by cases z)⟩
  | bl _ => exact ⟨_, rfl, (fun x z => by cases z), (fun x z => by cases z), (fun xs z => by cases z)⟩
  | int _ => exact ⟨_, rfl, (fun x z => by cases z), (fun x z => by cases z), (fun xs z => by cases z)⟩
  | str _ => exact ⟨_, rfl, (fun x z => by cases z; rfl), (fun x z => by cases z; rfl), (fun xs z => by cases z)⟩
  | tup _ => exact ⟨_, rfl, (fun x z => by cases z), (fun x z => by cases z), (fun xs z => by cases z; rfl)⟩
  | fls _ => exact ⟨_, rfl, (fun x z => by cases z), (fun x z => by cases z), (fun xs z => by cases z)⟩
/-- a value is that text -/
def isX (d : D) (y : Str) : Bool := decide (d = .str y)
theorem eq_str {S : Sto} {d : D} (h : Sv S d) (y : Str) : eqN eqK S d (.str y) = some (isX d y) ∧ eqN eqK S (.str y) d = some (isX d y) := by
  obtain ⟨s, hs, h1, h2, _⟩ := h.sh
  have e1 : eqN eqK S d (.str y) = (match shD S d with | some a => a.eqW (eqN 149 S) (.sc (.str y)) | _ => none) := by
    show (match shD S d, shD S (.str y) with | some a, some b => a.eqW (eqN 149 S) b | _, _ => none) = _
    rw [hs]
    rfl
  have e2 : eqN eqK S (.str y) d = (match shD S d with | some a => (Sh.sc (.str y)).eqW (eqN 149 S) a | _ => none) := by
    show (match shD S (.str y), shD S d with | some a, some b => a.eqW (eqN 149 S) b | _, _ => none) = _
    rw [hs]
    rfl
  rw [e1, e2, hs]
  cases s with
  | sc c =>
    cases c with
    | str x =>
      have e := h1 x rfl
      subst e
      have z : isX (.str x) y = (x == y) := by
        unfold isX
        rw [Bool.eq_iff_iff]
        simp
      have z2 : (y == x) = (x == y) := by
        rw [Bool.eq_iff_iff, beq_iff_eq, beq_iff_eq]
        exact eq_comm
      exact ⟨by rw [z]; rfl, by rw [z, ← z2]; rfl⟩
    | _ =>
      have z : isX d y = false := decide_eq_false fun e => by have := h2 y e; cases this
      exact ⟨by rw [z]; rfl, by rw [z]; rfl⟩
  | tp xs =>
    have z : isX d y = false := decide_eq_false fun e => by have := h2 y e; cases this
    exact ⟨by rw [z]; rfl, by rw [z]; rfl⟩
  | ls xs =>
    have z : isX d y = false := decide_eq_false fun e => by have := h2 y e; cases this
    exact ⟨by rw [z]; rfl, by rw [z]; rfl⟩
/-- a value is one of those texts -/
def isIn (d : D) (ys : List Str) : Bool := ys.any fun y => isX d y
theorem inN_strs {S : Sto} {d : D} (h : Sv S d) : ∀ ys : List Str, inN S d (ys.map D.str) = some (isIn d ys) := by
  have key : ∀ ys : List Str, andO ((ys.map D.str).map fun y => (eqN eqK S y d).map (!·)) = some (!(isIn d ys)) := by
    intro ys
    induction ys with
    | nil => rfl
    | cons y r ih =>
      rw [List.map_cons, List.map_cons, (eq_str h y).2]
      show (andO ((r.map D.str).map fun y => (eqN eqK S y d).map (!·))).map ((!(isX d y)) && ·) = _
      rw [ih]
      show some (!(isX d y) && !(isIn d r)) = some (!(isX d y || isIn d r))
      rw [Bool.not_or]
  intro ys
  unfold inN
  rw [key]
  show some (!!(isIn d ys)) = _
  rw [Bool.not_not]
theorem inW_tup {S : Sto} {d : D} (h : Sv S d) (ys : List Str) : inW S d (.tup (ys.map D.str)) = some (isIn d ys) := inN_strs h ys
def sgn (x z : Str) : Bool := x.cps.toList.all fun c => decide (c ∈ z.cps.toList)
def nameB (x : Str) : Bool := decide (1 ≤ x.length) && (decide (x.length ≤ 8) && (sgn x "abcdefghijklmnopqrstuvwxyz" && !(isIn (.str x) ["if", "else", "loop", "give"])))
def numB (x : Str) : Bool := decide (1 ≤ x.length) && (decide (x.length ≤ 6) && (sgn x "0123456789" && (decide (x = "0") || !(decide (x.cps.toList.head? = some 48)))))
def noteB (x : Str) : Bool := decide (x.length ≤ 40) && (sgn x "abcdefghijklmnopqrstuvwxyz0123456789 " && decide (x = Txt.stripChars x " "))
def onS (f : Str → Bool) : D → Bool
  | .str x => f x
  | _ => false
theorem are_all_wp {S : Sto} {x z : Str} {Q : D → Sto → Prop} (hx : x.length < sizeLine) (q : ∀ l, Q (.bl (sgn x z)) (S ++ l)) : (g_are_all [.str x, .str z] S).wp Q := by
  unfold g_are_all
  refine w_def rfl ?_
  rw [s_ret]
  refine all_wp (ds := x.cps.toList.map fun c => .str ⟨#[c]⟩) (chk := always) (b := fun d => match d with | .str y => inS y z | _ => false) rfl rfl (fun _ => rfl) (by rw [List.length_map, Array.length_toList]; exact hx) (fun d hd l Q' q' => ?_) (fun l => ?_)
  · obtain ⟨c, hc, rfl⟩ := List.mem_map.mp hd
    refine ⟨_, rfl, ?_⟩
    simp only [s_nil, s_seq, s_drop, s_ret, s_set, s_if, s_par, s_put, s_for, w_var, w_c, w_bin, w_un, w_nil, w_cons, w_cb, w_tup, w_lst, w_val, w_tnot, w_tand, w_tor, w_and, w_or, w_not, w_if, w_chain, w_isi, w_mt, w_tab, w_onone, w_osome, w_sl, List.map_cons, List.map_nil, List.length_cons, List.length_nil, List.cons_append, List.nil_append, List.getElem?_cons_zero, List.getElem?_cons_succ, List.set_cons_zero, List.set_cons_succ, List.reduceReplicate, Nat.reduceAdd, Nat.reduceSub]
    exact (w_in (b := inS ⟨#[c]⟩ z) rfl).mpr (by have := q' []; rw [List.append_nil] at this; exact this)
  · have e : (x.cps.toList.map fun c => D.str ⟨#[c]⟩).all (fun d => match d with | .str y => inS y z | _ => false) = sgn x z := by
      rw [List.all_map]
      rfl
    rw [e]
    exact q l
theorem name_wp {S : Sto} {d : D} {Q : D → Sto → Prop} (sv : Sv S d) (hx : ∀ x, d = .str x → x.length < sizeLine) (q : ∀ l, Q (.bl (onS nameB d)) (S ++ l)) : (g_is_name g_are_all [d] S).wp Q := by
  have q0 := q []
  rw [List.append_nil] at q0
  unfold g_is_name
  refine w_def rfl ?_
  simp only [s_nil, s_seq, s_drop, s_ret, s_set, s_if, s_par, s_put, s_for, w_var, w_c, w_bin, w_un, w_nil, w_cons, w_cb, w_tup, w_lst, w_val, w_tnot, w_tand, w_tor, w_and, w_or, w_not, w_if, w_chain, w_isi, w_mt, w_tab, w_onone, w_osome, w_sl, List.map_cons, List.map_nil, List.length_cons, List.length_nil, List.cons_append, List.nil_append, List.getElem?_cons_zero, List.getElem?_cons_succ, List.set_cons_zero, List.set_cons_succ, List.reduceReplicate, Nat.reduceAdd, Nat.reduceSub]
  refine ⟨sv.k, _, rfl, ?_⟩
  rw [sv.isS]
  cases d with
  | str x =>
    have hx := hx x rfl
    show if (!true) = true then _ else _
    rw [if_neg (by decide), w_lenS]
    refine ⟨Nat.le_of_lt hx, ?_⟩
    rw [w_fI]
    refine ⟨rfl, _, rfl, ?_⟩
    have tail : ∀ b : Bool, nameB x = (b && (sgn x "abcdefghijklmnopqrstuvwxyz" && !(isIn (.str x) ["if", "else", "loop", "give"]))) → if (!b) = true then Q (.bl false) S else (g_are_all [.str x, .str "abcdefghijklmnopqrstuvwxyz"] S).wp fun d S => ∃ x_1, d = .bl x_1 ∧ if x_1 = true then (fNotIn (.str x) (.tup [.str "if", .str "else", .str "loop", .str "give"]) S).wp Q else Q (.bl false) S := by
      intro b hb
      have q : ∀ l, Q (.bl (nameB x)) (S ++ l) := q
      rw [hb] at q
      cases b with
      | false =>
        have := q []
        rw [List.append_nil] at this
        simp only [Bool.not_false, Bool.not_true, Bool.false_eq_true, if_true, if_false, Bool.and_true, Bool.true_and, Bool.false_and, Bool.and_false, Bool.or_true, Bool.true_or, Bool.or_false, Bool.false_or] at this ⊢
        exact this
      | true =>
        simp only [Bool.not_false, Bool.not_true, Bool.false_eq_true, if_true, if_false, Bool.and_true, Bool.true_and, Bool.false_and, Bool.and_false, Bool.or_true, Bool.true_or, Bool.or_false, Bool.false_or] at q ⊢
        refine are_all_wp hx fun l => ⟨_, rfl, ?_⟩
        split
        · rename_i hs
          have := q l
          rw [hs] at this
          exact (w_notIn (inW_tup (d := .str x) trivial ["if", "else", "loop", "give"])).mpr this
        · rename_i hs
          have := q l
          rw [eq_false_of_ne_true hs] at this
          exact this
    by_cases h1 : (1 : Int) ≤ (x.length : Nat)
    · rw [if_pos (decide_eq_true h1), w_fI]
      refine ⟨rfl, _, rfl, ?_⟩
      refine tail _ ?_
      unfold nameB
      rw [decide_eq_true (show 1 ≤ x.length by omega), Bool.true_and]
      congr 1
      rw [Bool.eq_iff_iff, decide_eq_true_iff, decide_eq_true_iff]
      omega
    · rw [if_neg (by rw [decide_eq_false h1]; exact Bool.false_ne_true)]
      refine ⟨_, rfl, ?_⟩
      refine tail _ ?_
      unfold nameB
      rw [decide_eq_false (show ¬ 1 ≤ x.length by omega)]
      rfl
  | _ =>
    simp only [Bool.not_false, Bool.not_true, Bool.false_eq_true, if_true, if_false, Bool.and_true, Bool.true_and, Bool.false_and, Bool.and_false, Bool.or_true, Bool.true_or, Bool.or_false, Bool.false_or]
    exact q0
theorem w_ixS {S : Sto} {x : Str} {i : Int} {Q : D → Sto → Prop} : (fIx (.str x) (.int i) S).wp Q ↔ x.length ≤ sizeLine ∧ ∃ c, atI x.cps.toList i = some c ∧ Q (.str ⟨#[c]⟩) S := by
  show Res.wp (if x.length ≤ sizeLine then (match atI x.cps.toList i with | some c => .ok (.str ⟨#[c]⟩) S | none => .bad) else .bad) Q ↔ _
  constructor <;> intro h
  · split at h
    · rename_i hz
      split at h
      · rename_i c hc; exact ⟨hz, c, hc, h⟩
      · exact h.elim
    · exact h.elim
  · rw [if_pos h.1]
    obtain ⟨_, c, hc, h⟩ := h
    rw [hc]
    exact h
theorem w_stripC {S : Sto} {x y : Str} {Q : D → Sto → Prop} : (fStripC (.str x) [.str y] S).wp Q ↔ x.length ≤ sizeLine ∧ Q (.str (Txt.stripChars x y)) S := by
  show Res.wp (if x.length ≤ sizeLine then .ok (.str (Txt.stripChars x y)) S else .bad) Q ↔ _
  constructor <;> intro h
  · split at h
    · rename_i hz; exact ⟨hz, h⟩
    · exact h.elim
  · rw [if_pos h.1]; exact h.2
theorem beq_dec (x y : Str) : (x == y) = decide (x = y) := by
  rw [Bool.eq_iff_iff, beq_iff_eq, decide_eq_true_iff]
theorem atI_zero {α : Type} (c : α) (r : List α) : atI (c :: r) 0 = some c := by
  unfold atI
  rw [show ixN (c :: r).length 0 = some 0 by
    unfold ixN
    rw [if_pos (by decide), if_pos (by rw [List.length_cons]; omega)]
    rfl]
  rfl
theorem head_at {x : Str} (h : 1 ≤ x.length) : ∃ c, atI x.cps.toList 0 = some c ∧ x.cps.toList.head? = some c := by
  have hl : 0 < x.cps.toList.length := by rw [Array.length_toList]; exact h
  obtain ⟨c, r, e⟩ := List.exists_cons_of_length_pos hl
  rw [e]
  exact ⟨c, atI_zero _ _, rfl⟩
theorem one_ne (c : Nat) : (!((⟨#[c]⟩ : Str) == "0")) = !(decide (c = 48)) := by
  congr 1
  rw [beq_dec, Bool.eq_iff_iff, decide_eq_true_iff, decide_eq_true_iff]
  constructor
  · intro h
    have h : (⟨#[c]⟩ : Str).cps.toList = ("0" : Str).cps.toList := by rw [h]
    have h2 : [c] = [48] := h
    injection h2
  · intro h
    rw [h]
    rfl
theorem number_wp {S : Sto} {d : D} {Q : D → Sto → Prop} (sv : Sv S d) (hx : ∀ x, d = .str x → x.length < sizeLine) (q : ∀ l, Q (.bl (onS numB d)) (S ++ l)) : (g_is_number g_are_all [d] S).wp Q := by
  have q0 := q []
  rw [List.append_nil] at q0
  unfold g_is_number
  refine w_def rfl ?_
  simp only [s_nil, s_seq, s_drop, s_ret, s_set, s_if, s_par, s_put, s_for, w_var, w_c, w_bin, w_un, w_nil, w_cons, w_cb, w_tup, w_lst, w_val, w_tnot, w_tand, w_tor, w_and, w_or, w_not, w_if, w_chain, w_isi, w_mt, w_tab, w_onone, w_osome, w_sl, List.map_cons, List.map_nil, List.length_cons, List.length_nil, List.cons_append, List.nil_append, List.getElem?_cons_zero, List.getElem?_cons_succ, List.set_cons_zero, List.set_cons_succ, List.reduceReplicate, Nat.reduceAdd, Nat.reduceSub]
  refine ⟨sv.k, _, rfl, ?_⟩
  rw [sv.isS]
  cases d with
  | str x =>
    have hx := hx x rfl
    have q0 : Q (.bl (numB x)) S := q0
    have q : ∀ l, Q (.bl (numB x)) (S ++ l) := q
    simp only [Bool.not_false, Bool.not_true, Bool.false_eq_true, if_true, if_false, Bool.and_true, Bool.true_and, Bool.false_and, Bool.and_false, Bool.or_true, Bool.true_or, Bool.or_false, Bool.false_or]
    rw [w_lenS]
    refine ⟨Nat.le_of_lt hx, ?_⟩
    rw [w_fI]
    refine ⟨rfl, _, rfl, ?_⟩
    by_cases h1 : 1 ≤ x.length
    · rw [if_pos (decide_eq_true (by omega : (1 : Int) ≤ (x.length : Nat))), w_fI]
      refine ⟨rfl, _, rfl, ?_⟩
      by_cases h2 : x.length ≤ 6
      · rw [show decide (((x.length : Nat) : Int) ≤ 6) = true from decide_eq_true (by omega)]
        simp only [Bool.not_false, Bool.not_true, Bool.false_eq_true, if_true, if_false, Bool.and_true, Bool.true_and, Bool.false_and, Bool.and_false, Bool.or_true, Bool.true_or, Bool.or_false, Bool.false_or]
        refine are_all_wp hx fun l => ⟨_, rfl, ?_⟩
        have ql := q l
        unfold numB at ql
        rw [decide_eq_true h1, decide_eq_true h2] at ql
        cases hs : sgn x "0123456789" with
        | false =>
          rw [hs] at ql
          simp only [Bool.not_false, Bool.not_true, Bool.false_eq_true, if_true, if_false, Bool.and_true, Bool.true_and, Bool.false_and, Bool.and_false, Bool.or_true, Bool.true_or, Bool.or_false, Bool.false_or] at ql ⊢
          exact ql
        | true =>
          rw [hs] at ql
          simp only [Bool.not_false, Bool.not_true, Bool.false_eq_true, if_true, if_false, Bool.and_true, Bool.true_and, Bool.false_and, Bool.and_false, Bool.or_true, Bool.true_or, Bool.or_false, Bool.false_or] at ql ⊢
          rw [w_eq eqN_str]
          refine ⟨_, rfl, ?_⟩
          rw [beq_dec]
          by_cases h0 : x = "0"
          · rw [decide_eq_true h0] at ql ⊢
            simp only [Bool.not_false, Bool.not_true, Bool.false_eq_true, if_true, if_false, Bool.and_true, Bool.true_and, Bool.false_and, Bool.and_false, Bool.or_true, Bool.true_or, Bool.or_false, Bool.false_or] at ql ⊢
            exact ql
          · rw [decide_eq_false h0] at ql ⊢
            simp only [Bool.not_false, Bool.not_true, Bool.false_eq_true, if_true, if_false, Bool.and_true, Bool.true_and, Bool.false_and, Bool.and_false, Bool.or_true, Bool.true_or, Bool.or_false, Bool.false_or] at ql ⊢
            rw [w_ixS]
            obtain ⟨c, e1, e2⟩ := head_at h1
            refine ⟨Nat.le_of_lt hx, c, e1, ?_⟩
            rw [w_ne eqN_str, one_ne]
            rw [e2] at ql
            have e3 : decide (some c = some 48) = decide (c = 48) := by rw [Bool.eq_iff_iff, decide_eq_true_iff, decide_eq_true_iff]; simp
            rw [e3] at ql
            exact ql
      · rw [show decide (((x.length : Nat) : Int) ≤ 6) = false from decide_eq_false (by omega)]
        simp only [Bool.not_false, Bool.not_true, Bool.false_eq_true, if_true, if_false, Bool.and_true, Bool.true_and, Bool.false_and, Bool.and_false, Bool.or_true, Bool.true_or, Bool.or_false, Bool.false_or]
        unfold numB at q0
        rw [decide_eq_false h2] at q0
        simp only [Bool.not_false, Bool.not_true, Bool.false_eq_true, if_true, if_false, Bool.and_true, Bool.true_and, Bool.false_and, Bool.and_false, Bool.or_true, Bool.true_or, Bool.or_false, Bool.false_or] at q0
        exact q0
    · rw [if_neg (by rw [decide_eq_false (by omega : ¬ (1 : Int) ≤ (x.length : Nat))]; exact Bool.false_ne_true)]
      refine ⟨_, rfl, ?_⟩
      unfold numB at q0
      rw [decide_eq_false h1] at q0
      simp only [Bool.not_false, Bool.not_true, Bool.false_eq_true, if_true, if_false, Bool.and_true, Bool.true_and, Bool.false_and, Bool.and_false, Bool.or_true, Bool.true_or, Bool.or_false, Bool.false_or] at q0 ⊢
      exact q0
  | _ =>
    simp only [Bool.not_false, Bool.not_true, Bool.false_eq_true, if_true, if_false, Bool.and_true, Bool.true_and, Bool.false_and, Bool.and_false, Bool.or_true, Bool.true_or, Bool.or_false, Bool.false_or]
    exact q0
theorem note_wp {S : Sto} {d : D} {Q : D → Sto → Prop} (sv : Sv S d) (hx : ∀ x, d = .str x → x.length < sizeLine) (q : ∀ l, Q (.bl (onS noteB d)) (S ++ l)) : (g_is_note g_are_all [d] S).wp Q := by
  have q0 := q []
  rw [List.append_nil] at q0
  unfold g_is_note
  refine w_def rfl ?_
  simp only [s_nil, s_seq, s_drop, s_ret, s_set, s_if, s_par, s_put, s_for, w_var, w_c, w_bin, w_un, w_nil, w_cons, w_cb, w_tup, w_lst, w_val, w_tnot, w_tand, w_tor, w_and, w_or, w_not, w_if, w_chain, w_isi, w_mt, w_tab, w_onone, w_osome, w_sl, List.map_cons, List.map_nil, List.length_cons, List.length_nil, List.cons_append, List.nil_append, List.getElem?_cons_zero, List.getElem?_cons_succ, List.set_cons_zero, List.set_cons_succ, List.reduceReplicate, Nat.reduceAdd, Nat.reduceSub]
  refine ⟨sv.k, _, rfl, ?_⟩
  rw [sv.isS]
  cases d with
  | str x =>
    have hx := hx x rfl
    have q0 : Q (.bl (noteB x)) S := q0
    have q : ∀ l, Q (.bl (noteB x)) (S ++ l) := q
    simp only [Bool.not_false, Bool.not_true, Bool.false_eq_true, if_true, if_false, Bool.and_true, Bool.true_and, Bool.false_and, Bool.and_false, Bool.or_true, Bool.true_or, Bool.or_false, Bool.false_or]
    rw [w_lenS]
    refine ⟨Nat.le_of_lt hx, ?_⟩
    rw [w_fI]
    refine ⟨rfl, _, rfl, ?_⟩
    by_cases h1 : x.length ≤ 40
    · rw [show decide ((40 : Int) < ((x.length : Nat) : Int)) = false from decide_eq_false (by omega)]
      simp only [Bool.not_false, Bool.not_true, Bool.false_eq_true, if_true, if_false, Bool.and_true, Bool.true_and, Bool.false_and, Bool.and_false, Bool.or_true, Bool.true_or, Bool.or_false, Bool.false_or]
      rw [w_addS]
      refine ⟨by decide +kernel, ?_⟩
      rw [w_addS]
      refine ⟨by decide +kernel, ?_⟩
      rw [show ("abcdefghijklmnopqrstuvwxyz" : Str) ++ "0123456789" ++ " " = "abcdefghijklmnopqrstuvwxyz0123456789 " by decide +kernel]
      refine are_all_wp hx fun l => ⟨_, rfl, ?_⟩
      have ql := q l
      unfold noteB at ql
      rw [decide_eq_true h1] at ql
      cases hs : sgn x "abcdefghijklmnopqrstuvwxyz0123456789 " with
      | false =>
        rw [hs] at ql
        simp only [Bool.not_false, Bool.not_true, Bool.false_eq_true, if_true, if_false, Bool.and_true, Bool.true_and, Bool.false_and, Bool.and_false, Bool.or_true, Bool.true_or, Bool.or_false, Bool.false_or] at ql ⊢
        exact ql
      | true =>
        rw [hs] at ql
        simp only [Bool.not_false, Bool.not_true, Bool.false_eq_true, if_true, if_false, Bool.and_true, Bool.true_and, Bool.false_and, Bool.and_false, Bool.or_true, Bool.true_or, Bool.or_false, Bool.false_or] at ql ⊢
        refine ⟨rfl, ?_⟩
        rw [w_stripC]
        refine ⟨Nat.le_of_lt hx, ?_⟩
        rw [w_eq eqN_str, beq_dec]
        exact ql
    · rw [show decide ((40 : Int) < ((x.length : Nat) : Int)) = true from decide_eq_true (by omega)]
      simp only [Bool.not_false, Bool.not_true, Bool.false_eq_true, if_true, if_false, Bool.and_true, Bool.true_and, Bool.false_and, Bool.and_false, Bool.or_true, Bool.true_or, Bool.or_false, Bool.false_or]
      unfold noteB at q0
      rw [decide_eq_false h1] at q0
      simp only [Bool.not_false, Bool.not_true, Bool.false_eq_true, if_true, if_false, Bool.and_true, Bool.true_and, Bool.false_and, Bool.and_false, Bool.or_true, Bool.true_or, Bool.or_false, Bool.false_or] at q0
      exact q0
  | _ =>
    simp only [Bool.not_false, Bool.not_true, Bool.false_eq_true, if_true, if_false, Bool.and_true, Bool.true_and, Bool.false_and, Bool.and_false, Bool.or_true, Bool.true_or, Bool.or_false, Bool.false_or]
    exact q0
def one2 (f : D → Bool) : List D → Bool
  | [v] => f v
  | _ => false
def labB (k : Str) (r : List D) : Bool := if isIn (.str k) ["set", "run", "call", "name"] = true then one2 (onS nameB) r else if k = "number" then one2 (onS numB) r else if k = "note" then one2 (onS noteB) r else r.isEmpty
end Mn
set_option Elab.async false
set_option linter.all false
set_option maxRecDepth 100000
set_option maxHeartbeats 4000000
namespace Mn
open PySem PySem.Spec PyProof.Rows L2
structure Form where
  kinds : List Str
  least : Nat
  most : Option Nat
def kTerms : List Str := ["name", "number", "call", "list", "in"]
def kExprs : List Str := ["name", "number", "call", "list", "in", "sum"]
def kStmts : List Str := ["set", "run", "give", "if", "loop", "note"]
def lotsL : List (Str × List Str) := [("set", ["one E"]), ("run", ["E's"]), ("give", ["one E"]), ("if", ["one E", "a block", "perhaps an else"]), ("loop", ["one E", "a block"]), ("else", ["a block"]), ("note", []), ("name", []), ("number", []), ("call", ["E's"]), ("list", ["E's"]), ("in", ["one E"]), ("sum", ["terms with signs"]), ("plus", ["one term"]), ("minus", ["one term"])]
def formsL : List (Str × Form) := [("one E", ⟨kExprs, 1, some 1⟩), ("E's", ⟨kExprs, 0, none⟩), ("a block", ⟨kStmts, 0, none⟩), ("perhaps an else", ⟨["else"], 0, some 1⟩), ("terms with signs", ⟨["plus", "minus"], 2, none⟩), ("one term", ⟨kTerms, 1, some 1⟩)]
def sortsOf (k : Str) : List Str := ((lotsL.find? fun q => decide (q.1 = k)).map (·.2)).getD []
def formOf (s : Str) : Form := ((formsL.find? fun q => decide (q.1 = s)).map (·.2)).getD ⟨[], 0, none⟩
def Form.d (f : Form) : D := .tup [.tup (f.kinds.map .str), .int (f.least : Nat), match f.most with | none => .non | some m => .int (m : Nat)]
/-- the first item's label is ('plus',) -/
def plus1 : List D → Bool
  | .tup (.tup xs :: _) :: _ => decide (xs = [.str "plus"])
  | _ => false
def mostOk : Option Nat → Nat → Bool
  | none, _ => true
  | some m, n => decide (n ≤ m)
def lotW (pb : D → Bool) (added : Bool) (fm : Form) : D → Bool
  | .tup items => decide (fm.least ≤ items.length) && (mostOk fm.most items.length && (items.all pb && (!added || plus1 items)))
  | _ => false
def lotS (pb : List Str → D → Bool) (s : Str) (d : D) : Bool := lotW (pb (formOf s).kinds) (decide (s = "terms with signs")) (formOf s) d
/-- a part, looked at so deep -/
def partB : Nat → List Str → D → Bool
  | n + 1, kinds, .tup [.tup (.str k :: r), .tup lots] => isIn (.str k) kinds && (labB k r && (decide (lots.length = (sortsOf k).length) && (List.zip lots (sortsOf k)).all fun q => lotS (partB n) q.2 q.1))
  | _, _, _ => false
theorem Vl.app {p r w W h : Nat} {S : Sto} {d : D} (v : Vl p r w W h S d) (l : List Ob) : Vl p r w W h (S ++ l) d := v.ext ((Ext.refl p S).app l)
theorem Vls.app {p r w W h : Nat} {S : Sto} {ds : List D} (v : Vls p r w W h S ds) (l : List Ob) : Vls p r w W h (S ++ l) ds := v.ext ((Ext.refl p S).app l)
theorem isIn_str {d : D} {ys : List Str} (h : isIn d ys = true) : ∃ k, k ∈ ys ∧ d = .str k := by
  obtain ⟨k, hk, e⟩ := List.any_eq_true.mp h
  exact ⟨k, hk, of_decide_eq_true e⟩
end Mn
set_option Elab.async false
set_option linter.all false
set_option maxRecDepth 100000
set_option maxHeartbeats 4000000
namespace Mn
open PySem PySem.Spec PyProof.Rows L2
/-- note_of -/
def g_note_of  : F := mDef 1 1 (sRet (mMt "str" fStripC (mSl (mVar 0) (oSome (mC (.int 1))) oNone) (aCons (mC (.str " ")) aNil)))
/-- node_of -/
def g_node_of  : F := mDef 4 4 (sRet (mTup (aCons (mVar 0) (aCons (mVar 1) (aCons (mVar 2) (aCons (mVar 3) aNil))))))
/-- Reader.next_word -/
def g_Reader_next_word  : F := mDef 1 1 (sRet (mIf (tVal (mBin fLt (mAtt "Reader" "own_at" (mVar 0)) (mCB cLen (aCons (mAtt "Reader" "own_words" (mVar 0)) aNil)))) (mBin fIx (mBin fIx (mAtt "Reader" "own_words" (mVar 0)) (mAtt "Reader" "own_at" (mVar 0))) (mC (.int 0))) (mC (.str ""))))
/-- Reader.take -/
def g_Reader_take (c_Reader_next_word : F) (c_Reader_refuse : F) : F := mDef 2 2 (sSeq (sIf (tVal (mBin fNe (mMeth "Reader" "next_word" c_Reader_next_word (mVar 0) aNil) (mVar 1))) (sDrop (mMeth "Reader" "refuse" c_Reader_refuse (mVar 0) aNil)) sNil)
  (sSeq (sAttAdd "Reader" "own_at" (mVar 0) (mC (.int 1)))
  (sRet (mBin fSub (mAtt "Reader" "own_at" (mVar 0)) (mC (.int 1))))))
/-- Reader.take_name -/
def g_Reader_take_name (c_Reader_next_word : F) (c_is_name : F) (c_Reader_refuse : F) : F := mDef 1 2 (sSeq (sSet 1 (mMeth "Reader" "next_word" c_Reader_next_word (mVar 0) aNil))
  (sSeq (sIf (tNot (tVal (mCB c_is_name (aCons (mVar 1) aNil)))) (sDrop (mMeth "Reader" "refuse" c_Reader_refuse (mVar 0) aNil)) sNil)
  (sSeq (sAttAdd "Reader" "own_at" (mVar 0) (mC (.int 1)))
  (sRet (mVar 1)))))
/-- Reader.statements -/
def g_Reader_statements (c_Reader_next_word : F) (c_Reader_statement : F) : F := mDef 1 2 (sSeq (sSet 1 (mLst aNil))
  (sSeq (sWhile wN (tVal (mBin fNotIn (mMeth "Reader" "next_word" c_Reader_next_word (mVar 0) aNil) (mTup (aCons (mC (.str "")) (aCons (mC (.str "}")) aNil))))) (sDrop (mMt "list" fAppend (mVar 1) (aCons (mMeth "Reader" "statement" c_Reader_statement (mVar 0) aNil) aNil))))
  (sRet (mCB cTuple (aCons (mVar 1) aNil)))))
/-- Reader.statement -/
def g_Reader_statement (c_Reader_next_word : F) (c_Reader_branching : F) (c_Reader_giving : F) (c_Reader_noting : F) (c_note_of : F) (c_Reader_setting : F) : F := mDef 1 2 (sSeq (sSet 1 (mMeth "Reader" "next_word" c_Reader_next_word (mVar 0) aNil))
  (sSeq (sIf (tVal (mBin fIn (mVar 1) (mTup (aCons (mC (.str "if")) (aCons (mC (.str "loop")) aNil))))) (sRet (mMeth "Reader" "branching" c_Reader_branching (mVar 0) (aCons (mVar 1) aNil))) sNil)
  (sSeq (sIf (tVal (mBin fEq (mVar 1) (mC (.str "give")))) (sRet (mMeth "Reader" "giving" c_Reader_giving (mVar 0) aNil)) sNil)
  (sSeq (sIf (tVal (mBin fEq (mBin fIx (mVar 1) (mC (.int 0))) (mC (.str "#")))) (sRet (mMeth "Reader" "noting" c_Reader_noting (mVar 0) (aCons (mCB c_note_of (aCons (mVar 1) aNil)) aNil))) sNil)
  (sRet (mMeth "Reader" "setting" c_Reader_setting (mVar 0) aNil))))))
/-- Reader.noting -/
def g_Reader_noting (c_is_note : F) (c_Reader_refuse : F) (c_node_of : F) : F := mDef 2 2 (sSeq (sIf (tNot (tVal (mCB c_is_note (aCons (mVar 1) aNil)))) (sDrop (mMeth "Reader" "refuse" c_Reader_refuse (mVar 0) aNil)) sNil)
  (sSeq (sAttAdd "Reader" "own_at" (mVar 0) (mC (.int 1)))
  (sRet (mCB c_node_of (aCons (mTup (aCons (mC (.str "note")) (aCons (mVar 1) aNil))) (aCons (mTup aNil) (aCons (mBin fSub (mAtt "Reader" "own_at" (mVar 0)) (mC (.int 1))) (aCons (mBin fSub (mAtt "Reader" "own_at" (mVar 0)) (mC (.int 1))) aNil))))))))
/-- Reader.giving -/
def g_Reader_giving (c_Reader_take : F) (c_Reader_expression : F) (c_node_of : F) : F := mDef 1 3 (sSeq (sPar 1 2 (aCons (mMeth "Reader" "take" c_Reader_take (mVar 0) (aCons (mC (.str "give")) aNil)) (aCons (mMeth "Reader" "expression" c_Reader_expression (mVar 0) aNil) aNil)))
  (sRet (mCB c_node_of (aCons (mTup (aCons (mC (.str "give")) aNil)) (aCons (mTup (aCons (mTup (aCons (mVar 2) aNil)) aNil)) (aCons (mVar 1) (aCons (mMeth "Reader" "take" c_Reader_take (mVar 0) (aCons (mC (.str ";")) aNil)) aNil)))))))
/-- Reader.setting -/
def g_Reader_setting (c_Reader_take_name : F) (c_Reader_next_word : F) (c_Reader_take : F) (c_Reader_expression : F) (c_node_of : F) (c_Reader_expressions : F) : F := mDef 1 5 (sSeq (sPar 2 3 (aCons (mAtt "Reader" "own_at" (mVar 0)) (aCons (mMeth "Reader" "take_name" c_Reader_take_name (mVar 0) aNil) aNil)))
  (sSeq (sIf (tVal (mBin fEq (mMeth "Reader" "next_word" c_Reader_next_word (mVar 0) aNil) (mC (.str "=")))) (sSeq (sDrop (mMeth "Reader" "take" c_Reader_take (mVar 0) (aCons (mC (.str "=")) aNil)))
  (sSeq (sSet 4 (mMeth "Reader" "expression" c_Reader_expression (mVar 0) aNil))
  (sRet (mCB c_node_of (aCons (mTup (aCons (mC (.str "set")) (aCons (mVar 3) aNil))) (aCons (mTup (aCons (mTup (aCons (mVar 4) aNil)) aNil)) (aCons (mVar 2) (aCons (mMeth "Reader" "take" c_Reader_take (mVar 0) (aCons (mC (.str ";")) aNil)) aNil)))))))) sNil)
  (sSeq (sDrop (mMeth "Reader" "take" c_Reader_take (mVar 0) (aCons (mC (.str "(")) aNil)))
  (sSeq (sSet 1 (mMeth "Reader" "expressions" c_Reader_expressions (mVar 0) (aCons (mC (.str ")")) aNil)))
  (sSeq (sDrop (mMeth "Reader" "take" c_Reader_take (mVar 0) (aCons (mC (.str ")")) aNil)))
  (sRet (mCB c_node_of (aCons (mTup (aCons (mC (.str "run")) (aCons (mVar 3) aNil))) (aCons (mTup (aCons (mVar 1) aNil)) (aCons (mVar 2) (aCons (mMeth "Reader" "take" c_Reader_take (mVar 0) (aCons (mC (.str ";")) aNil)) aNil)))))))))))
/-- Reader.block -/
def g_Reader_block (c_Reader_take : F) (c_Reader_statements : F) : F := mDef 1 1 (sSeq (sDrop (mMeth "Reader" "take" c_Reader_take (mVar 0) (aCons (mC (.str "{")) aNil)))
  (sRet (mTup (aCons (mMeth "Reader" "statements" c_Reader_statements (mVar 0) aNil) (aCons (mMeth "Reader" "take" c_Reader_take (mVar 0) (aCons (mC (.str "}")) aNil)) aNil)))))
/-- Reader.branching -/
def g_Reader_branching (c_Reader_take : F) (c_Reader_expression : F) (c_Reader_block : F) (c_node_of : F) (c_Reader_next_word : F) : F := mDef 2 9 (sSeq (sPar 3 4 (aCons (mMeth "Reader" "take" c_Reader_take (mVar 0) (aCons (mVar 1) aNil)) (aCons (mMeth "Reader" "expression" c_Reader_expression (mVar 0) aNil) aNil)))
  (sSeq (sAsg (.tp [(.nm 5), (.nm 6)]) (mMeth "Reader" "block" c_Reader_block (mVar 0) aNil))
  (sSeq (sIf (tVal (mBin fEq (mVar 1) (mC (.str "loop")))) (sRet (mCB c_node_of (aCons (mTup (aCons (mVar 1) aNil)) (aCons (mTup (aCons (mTup (aCons (mVar 4) aNil)) (aCons (mVar 5) aNil))) (aCons (mVar 3) (aCons (mVar 6) aNil)))))) sNil)
  (sSeq (sSet 2 (mTup aNil))
  (sSeq (sIf (tVal (mBin fEq (mMeth "Reader" "next_word" c_Reader_next_word (mVar 0) aNil) (mC (.str "else")))) (sSeq (sSet 7 (mMeth "Reader" "take" c_Reader_take (mVar 0) (aCons (mC (.str "else")) aNil)))
  (sSeq (sAsg (.tp [(.nm 8), (.nm 6)]) (mMeth "Reader" "block" c_Reader_block (mVar 0) aNil))
  (sSet 2 (mTup (aCons (mCB c_node_of (aCons (mTup (aCons (mC (.str "else")) aNil)) (aCons (mTup (aCons (mVar 8) aNil)) (aCons (mVar 7) (aCons (mVar 6) aNil))))) aNil))))) sNil)
  (sRet (mCB c_node_of (aCons (mTup (aCons (mVar 1) aNil)) (aCons (mTup (aCons (mTup (aCons (mVar 4) aNil)) (aCons (mVar 5) (aCons (mVar 2) aNil)))) (aCons (mVar 3) (aCons (mVar 6) aNil)))))))))))
/-- Reader.expressions -/
def g_Reader_expressions (c_Reader_next_word : F) (c_Reader_expression : F) (c_Reader_take : F) : F := mDef 2 3 (sSeq (sSet 2 (mLst aNil))
  (sSeq (sWhile wN (tVal (mBin fNe (mMeth "Reader" "next_word" c_Reader_next_word (mVar 0) aNil) (mVar 1))) (sSeq (sDrop (mMt "list" fAppend (mVar 2) (aCons (mMeth "Reader" "expression" c_Reader_expression (mVar 0) aNil) aNil)))
  (sIf (tVal (mBin fNe (mMeth "Reader" "next_word" c_Reader_next_word (mVar 0) aNil) (mVar 1))) (sDrop (mMeth "Reader" "take" c_Reader_take (mVar 0) (aCons (mC (.str ",")) aNil))) sNil)))
  (sRet (mCB cTuple (aCons (mVar 2) aNil)))))
/-- Reader.expression -/
def g_Reader_expression (c_Reader_term : F) (c_node_of : F) (c_Reader_next_word : F) (c_Reader_take : F) : F := mDef 1 6 (sSeq (sSet 1 (mMeth "Reader" "term" c_Reader_term (mVar 0) aNil))
  (sSeq (sSet 2 (mLst (aCons (mCB c_node_of (aCons (mTup (aCons (mC (.str "plus")) aNil)) (aCons (mTup (aCons (mTup (aCons (mVar 1) aNil)) aNil)) (aCons (mBin fIx (mVar 1) (mC (.int 2))) (aCons (mBin fIx (mVar 1) (mC (.int 3))) aNil))))) aNil)))
  (sSeq (sWhile wN (tVal (mBin fIn (mMeth "Reader" "next_word" c_Reader_next_word (mVar 0) aNil) (mTup (aCons (mC (.str "+")) (aCons (mC (.str "-")) aNil))))) (sSeq (sSet 3 (mIf (tVal (mBin fEq (mMeth "Reader" "next_word" c_Reader_next_word (mVar 0) aNil) (mC (.str "+")))) (mC (.str "plus")) (mC (.str "minus"))))
  (sSeq (sSet 4 (mMeth "Reader" "take" c_Reader_take (mVar 0) (aCons (mMeth "Reader" "next_word" c_Reader_next_word (mVar 0) aNil) aNil)))
  (sSeq (sSet 5 (mMeth "Reader" "term" c_Reader_term (mVar 0) aNil))
  (sDrop (mMt "list" fAppend (mVar 2) (aCons (mCB c_node_of (aCons (mTup (aCons (mVar 3) aNil)) (aCons (mTup (aCons (mTup (aCons (mVar 5) aNil)) aNil)) (aCons (mVar 4) (aCons (mBin fIx (mVar 5) (mC (.int 3))) aNil))))) aNil)))))))
  (sRet (mIf (tVal (mBin fEq (mCB cLen (aCons (mVar 2) aNil)) (mC (.int 1)))) (mVar 1) (mCB c_node_of (aCons (mTup (aCons (mC (.str "sum")) aNil)) (aCons (mTup (aCons (mCB cTuple (aCons (mVar 2) aNil)) aNil)) (aCons (mBin fIx (mVar 1) (mC (.int 2))) (aCons (mBin fIx (mBin fIx (mVar 2) (mUn fNeg (mC (.int 1)))) (mC (.int 3))) aNil))))))))))
/-- Reader.term -/
def g_Reader_term (c_Reader_next_word : F) (c_Reader_take : F) (c_Reader_expression : F) (c_node_of : F) (c_Reader_expressions : F) (c_is_number : F) (c_Reader_take_name : F) : F := mDef 1 6 (sSeq (sPar 3 4 (aCons (mMeth "Reader" "next_word" c_Reader_next_word (mVar 0) aNil) (aCons (mAtt "Reader" "own_at" (mVar 0)) aNil)))
  (sSeq (sIf (tVal (mBin fEq (mVar 3) (mC (.str "(")))) (sSeq (sDrop (mMeth "Reader" "take" c_Reader_take (mVar 0) (aCons (mVar 3) aNil)))
  (sSeq (sSet 5 (mMeth "Reader" "expression" c_Reader_expression (mVar 0) aNil))
  (sRet (mCB c_node_of (aCons (mTup (aCons (mC (.str "in")) aNil)) (aCons (mTup (aCons (mTup (aCons (mVar 5) aNil)) aNil)) (aCons (mVar 4) (aCons (mMeth "Reader" "take" c_Reader_take (mVar 0) (aCons (mC (.str ")")) aNil)) aNil)))))))) sNil)
  (sSeq (sIf (tVal (mBin fEq (mVar 3) (mC (.str "[")))) (sSeq (sDrop (mMeth "Reader" "take" c_Reader_take (mVar 0) (aCons (mVar 3) aNil)))
  (sSeq (sSet 2 (mMeth "Reader" "expressions" c_Reader_expressions (mVar 0) (aCons (mC (.str "]")) aNil)))
  (sRet (mCB c_node_of (aCons (mTup (aCons (mC (.str "list")) aNil)) (aCons (mTup (aCons (mVar 2) aNil)) (aCons (mVar 4) (aCons (mMeth "Reader" "take" c_Reader_take (mVar 0) (aCons (mC (.str "]")) aNil)) aNil)))))))) sNil)
  (sSeq (sIf (tVal (mCB c_is_number (aCons (mVar 3) aNil))) (sRet (mCB c_node_of (aCons (mTup (aCons (mC (.str "number")) (aCons (mVar 3) aNil))) (aCons (mTup aNil) (aCons (mVar 4) (aCons (mMeth "Reader" "take" c_Reader_take (mVar 0) (aCons (mVar 3) aNil)) aNil)))))) sNil)
  (sSeq (sSet 1 (mMeth "Reader" "take_name" c_Reader_take_name (mVar 0) aNil))
  (sSeq (sIf (tVal (mBin fNe (mMeth "Reader" "next_word" c_Reader_next_word (mVar 0) aNil) (mC (.str "(")))) (sRet (mCB c_node_of (aCons (mTup (aCons (mC (.str "name")) (aCons (mVar 1) aNil))) (aCons (mTup aNil) (aCons (mVar 4) (aCons (mVar 4) aNil)))))) sNil)
  (sSeq (sDrop (mMeth "Reader" "take" c_Reader_take (mVar 0) (aCons (mC (.str "(")) aNil)))
  (sSeq (sSet 2 (mMeth "Reader" "expressions" c_Reader_expressions (mVar 0) (aCons (mC (.str ")")) aNil)))
  (sRet (mCB c_node_of (aCons (mTup (aCons (mC (.str "call")) (aCons (mVar 1) aNil))) (aCons (mTup (aCons (mVar 2) aNil)) (aCons (mVar 4) (aCons (mMeth "Reader" "take" c_Reader_take (mVar 0) (aCons (mC (.str ")")) aNil)) aNil))))))))))))))
section
variable {ρ : En} {S : Sto} {Q : D → Sto → Prop} {N : En → Sto → Prop} {R : D → Sto → Prop} {c f m : Str} {mo mv : M} {ma : MA} {fn : F}
theorem w_att : (mAtt c f mo ρ S).wp Q ↔ (mo ρ S).wp fun d S => ∃ n fs e, insD S c d = some (n, fs) ∧ fs.lookup f = some e ∧ Q e S := by
  unfold mAtt
  simp only [wp_bind]
  constructor <;> intro h <;> refine wp_mono h fun d S h => ?_
  · split at h
    · split at h
      · exact ⟨_, _, _, by assumption, by assumption, h⟩
      · exact h.elim
    · exact h.elim
  · obtain ⟨n, fs, e, h1, h2, h⟩ := h
    rw [h1]
    show Res.wp (match fs.lookup f with | some e => .ok e S | none => .bad) Q
    rw [h2]
    exact h
theorem w_meth : (mMeth c m fn mo ma ρ S).wp Q ↔ (mo ρ S).wp fun x S => ∃ n fs, insD S c x = some (n, fs) ∧ fs.lookup m = none ∧ (ma ρ S).wp fun ds S => (fn (x :: ds) S).wp Q := by
  unfold mMeth
  simp only [wp_bind]
  constructor <;> intro h <;> refine wp_mono h fun d S h => ?_
  · split at h
    · split at h
      · exact ⟨_, _, by assumption, by assumption, wp_bind.mp h⟩
      · exact h.elim
    · exact h.elim
  · obtain ⟨n, fs, h1, h2, h⟩ := h
    rw [h1]
    show Res.wp (if fs.lookup m = none then (ma ρ S).bind fun ds S2 => fn (d :: ds) S2 else .bad) Q
    rw [if_pos h2]
    exact wp_bind.mpr h
theorem insD_of {n : Nat} {fs : List (Str × D)} (h : S[n]? = some (.ins c fs)) : insD S c (.ref n) = some (n, fs) := by
  show (match S[n]? with | some (.ins c' fs) => if c' = c then some (n, fs) else none | _ => none) = _
  rw [h]
  exact if_pos rfl
/-- o.f += i -/
theorem s_attAdd {n : Nat} {fs : List (Str × D)} {i j : Int} {ρ : En} {mo mv : M} (h1 : ∀ Q, (mo ρ S).wp Q ↔ Q (.ref n) S) (h2 : ∀ Q, (mv ρ S).wp Q ↔ Q (.int j) S) (hs : S[n]? = some (.ins c fs)) (hl : fs.lookup f = some (.int i)) (hz : fs.length < 1000) :
    (sAttAdd c f mo mv ρ S).wp N R ↔ N ρ (S.set n (.ins c (putFD f (.int (i + j)) fs))) := by
  unfold sAttAdd
  rw [wp_st, h1]
  try dsimp only
  rw [insD_of hs]
  try dsimp only
  rw [hl]
  try dsimp only
  rw [wp_st, h2]
  try dsimp only
  rw [hs]
  try dsimp only
  rw [if_pos ⟨rfl, hz⟩]
  exact Iff.rfl
end
/-- a while loop: I of the turns that may be left -/
theorem while_wp {t : MT} {body : MS} {N : En → Sto → Prop} {R : D → Sto → Prop} (I : Nat → En → Sto → Prop)
    (h : ∀ k ρ S, I k ρ S → (t ρ S).wp fun x S1 => if x = true then (body ρ S1).wp (fun ρ2 S2 => ∃ j, j < k ∧ I j ρ2 S2) R else N ρ S1) : ∀ (n k : Nat) (ρ : En) (S : Sto), k < n → I k ρ S → (mWhile t body n ρ S).wp N R
  | 0, k, ρ, S, hk, _ => by omega
  | n + 1, k, ρ, S, hk, hi => by
    show RS.wp ((t ρ S).st ρ fun x S1 => if x = true then match body ρ S1 with
      | .nx ρ2 S2 => mWhile t body n ρ2 S2
      | .ct ρ2 S2 => mWhile t body n ρ2 S2
      | .bk ρ2 S2 => .nx ρ2 S2
      | .rt d S2 => .rt d S2
      | .ex c n ρ2 S2 => .ex c n ρ2 S2
      | .bad => .bad
    else .nx ρ S1) N R
    rw [wp_st]
    refine wp_mono (h k ρ S hi) fun x S1 hx => ?_
    cases x with
    | true =>
      rw [if_pos rfl] at hx ⊢
      generalize body ρ S1 = r at hx ⊢
      cases r with
      | nx ρ2 S2 =>
        obtain ⟨j, hj, hi2⟩ := hx
        exact while_wp I h n j ρ2 S2 (by omega) hi2
      | rt d S2 => exact hx
      | _ => exact hx.elim
    | false =>
      rw [if_neg Bool.false_ne_true] at hx ⊢
      exact hx
theorem s_while {t : MT} {body : MS} {N : En → Sto → Prop} {R : D → Sto → Prop} {n : Nat} {ρ : En} {S : Sto} : (sWhile n t body ρ S).wp N R ↔ (mWhile t body n ρ S).wp N R := Iff.rfl
def rdF (wl : Nat) (rows : Int) (i : Nat) : List (Str × D) := [("own_words", .ref wl), ("own_rows", .int rows), ("own_at", .int (i : Nat))]
/-- the words of a list of words with their places -/
structure Wds (W : List Str) (wds : List D) : Prop where
  len : wds.length = W.length
  at_ : ∀ (j : Nat) (w : Str), W[j]? = some w → ∃ r, wds[j]? = some (.tup (.str w :: r))
structure Rdr (a wl : Nat) (wds : List D) (rows : Int) (i : Nat) (S : Sto) : Prop where
  at_ : S[a]? = some (.ins "Reader" (rdF wl rows i))
  ws : S[wl]? = some (.lst wds)
  ne : wl ≠ a
section
variable {a wl : Nat} {wds : List D} {rows : Int} {i : Nat} {S S' : Sto} {W : List Str} {Q : D → Sto → Prop}
theorem Rdr.lt (h : Rdr a wl wds rows i S) : a < S.length := (List.getElem?_eq_some_iff.mp h.at_).1
theorem Rdr.app (h : Rdr a wl wds rows i S) (l : List Ob) : Rdr a wl wds rows i (S ++ l) := ⟨by rw [List.getElem?_append_left h.lt]; exact h.at_, by rw [List.getElem?_append_left (List.getElem?_eq_some_iff.mp h.ws).1]; exact h.ws, h.ne⟩
theorem Rdr.set (h : Rdr a wl wds rows i S) {m : Nat} (h1 : m ≠ a) (h2 : m ≠ wl) (o : Ob) : Rdr a wl wds rows i (S.set m o) := ⟨by rw [List.getElem?_set_ne h1]; exact h.at_, by rw [List.getElem?_set_ne h2]; exact h.ws, h.ne⟩
/-- one word on -/
abbrev stp (a wl : Nat) (rows : Int) (i : Nat) (S : Sto) : Sto := S.set a (.ins "Reader" (rdF wl rows (i + 1)))
theorem Rdr.step (h : Rdr a wl wds rows i S) : Rdr a wl wds rows (i + 1) (stp a wl rows i S) := ⟨List.getElem?_set_self h.lt, by rw [List.getElem?_set_ne (Ne.symm h.ne)]; exact h.ws, h.ne⟩
theorem Rdr.stepX (h : Rdr a wl wds rows i S) : Ext a S (stp a wl rows i S) := (Ext.refl a S).put _
def nxt (W : List Str) (i : Nat) : Str := (W[i]?).getD ""
theorem look_words : (rdF wl rows i).lookup ("own_words" : Str) = some (D.ref wl) := rfl
theorem look_at : (rdF wl rows i).lookup ("own_at" : Str) = some (D.int (i : Nat)) := by
  unfold rdF
  have h1 : (("own_at" : Str) == "own_words") = false := by decide +kernel
  have h2 : (("own_at" : Str) == "own_rows") = false := by decide +kernel
  simp only [List.lookup, h1, h2]
  rfl
theorem put_at : putFD "own_at" (.int ((i : Nat) + 1)) (rdF wl rows i) = rdF wl rows (i + 1) := by
  have h1 : ¬ (("own_words" : Str) = "own_at") := by decide +kernel
  have h2 : ¬ (("own_rows" : Str) = "own_at") := by decide +kernel
  unfold rdF
  simp only [putFD, if_neg h1, if_neg h2, if_true]
  rfl
theorem look_meth {m : Str} (h : m ≠ "own_words" ∧ m ≠ "own_rows" ∧ m ≠ "own_at") : (rdF wl rows i).lookup m = none := by
  unfold rdF
  have h1 : (m == "own_words") = false := beq_eq_false_iff_ne.mpr h.1
  have h2 : (m == "own_rows") = false := beq_eq_false_iff_ne.mpr h.2.1
  have h3 : (m == "own_at") = false := beq_eq_false_iff_ne.mpr h.2.2
  simp only [List.lookup, h1, h2, h3]
theorem next_wp (h : Rdr a wl wds rows i S) (hw : Wds W wds) (q : Q (.str (nxt W i)) S) : (g_Reader_next_word [.ref a] S).wp Q := by
  unfold g_Reader_next_word
  refine w_def rfl ?_
  rw [s_ret, w_if, w_val, w_bin, w_att]
  simp only [w_att, w_bin, w_cb, w_cons, w_nil, w_var, w_c, List.map_cons, List.map_nil, List.length_cons, List.length_nil, List.cons_append, List.nil_append, List.getElem?_cons_zero, List.getElem?_cons_succ, List.reduceReplicate, Nat.reduceAdd, Nat.reduceSub]
  refine ⟨a, _, _, insD_of h.at_, look_at, a, _, _, insD_of h.at_, look_words, ?_⟩
  rw [w_lenL h.ws, w_fI]
  refine ⟨rfl, _, rfl, ?_⟩
  by_cases hi : i < W.length
  · rw [if_pos (decide_eq_true (by rw [hw.len]; omega))]
    refine ⟨a, _, _, insD_of h.at_, look_words, a, _, _, insD_of h.at_, look_at, ?_⟩
    obtain ⟨w, hwi⟩ : ∃ w, W[i]? = some w := ⟨W[i], List.getElem?_eq_getElem hi⟩
    obtain ⟨r, hr⟩ := hw.at_ i w hwi
    rw [w_ixL h.ws]
    refine ⟨.tup (.str w :: r), ?_, ?_⟩
    · unfold atI
      rw [show ixN wds.length (i : Int) = some i by unfold ixN; rw [if_pos (by omega), if_pos (by rw [hw.len]; omega)]; simp]
      exact hr
    · rw [w_ixT]
      refine ⟨_, atI_zero _ _, ?_⟩
      have e : nxt W i = w := by unfold nxt; rw [hwi]; rfl
      rw [← e]
      exact q
  · rw [if_neg (by rw [hw.len]; simp; omega)]
    have e : nxt W i = "" := by unfold nxt; rw [List.getElem?_eq_none (by omega)]; rfl
    rw [← e]
    exact q
theorem take_wd {rf : F} {x : Str} (h : Rdr a wl wds rows i S) (hw : Wds W wds) (hx : nxt W i = x) (q : Q (.int (i : Nat)) (stp a wl rows i S)) : (g_Reader_take g_Reader_next_word rf [.ref a, .str x] S).wp Q := by
  unfold g_Reader_take
  refine w_def rfl ?_
  rw [s_seq, s_if, w_val, w_bin, w_meth]
  simp only [w_nil, w_var, w_c, List.map_cons, List.map_nil, List.length_cons, List.length_nil, List.cons_append, List.nil_append, List.getElem?_cons_zero, List.getElem?_cons_succ, List.reduceReplicate, Nat.reduceAdd, Nat.reduceSub]
  refine ⟨a, _, insD_of h.at_, look_meth (by decide +kernel), ?_⟩
  refine next_wp h hw ?_
  rw [hx, w_ne eqN_str]
  refine ⟨_, rfl, ?_⟩
  rw [if_neg (by simp), s_nil, s_seq]
  refine (s_attAdd (i := (i : Nat)) (j := 1) (n := a) (fs := rdF wl rows i) (fun Q => by rw [w_var]; exact Iff.rfl) (fun Q => Iff.rfl) h.at_ look_at (by show 3 < 1000; decide)).mpr ?_
  rw [put_at]
  rw [s_ret, w_bin, w_att]
  simp only [w_var, w_c, List.getElem?_cons_zero]
  refine ⟨a, _, _, insD_of h.step.at_, look_at, ?_⟩
  rw [w_fI]
  refine ⟨rfl, ?_⟩
  rw [show (((i + 1 : Nat) : Int) - 1) = (i : Nat) by omega]
  exact q
theorem takeName_wd {rf : F} (h : Rdr a wl wds rows i S) (hw : Wds W wds) (hx : nameB (nxt W i) = true) (q : ∀ l : List Ob, Q (.str (nxt W i)) (stp a wl rows i (S ++ l))) : (g_Reader_take_name g_Reader_next_word (g_is_name g_are_all) rf [.ref a] S).wp Q := by
  unfold g_Reader_take_name
  refine w_def rfl ?_
  rw [s_seq, s_set, w_meth]
  simp only [w_nil, w_var, w_c, List.map_cons, List.map_nil, List.length_cons, List.length_nil, List.cons_append, List.nil_append, List.getElem?_cons_zero, List.getElem?_cons_succ, List.set_cons_zero, List.set_cons_succ, List.reduceReplicate, Nat.reduceAdd, Nat.reduceSub]
  refine ⟨a, _, insD_of h.at_, look_meth (by decide +kernel), ?_⟩
  refine next_wp h hw ?_
  rw [s_seq, s_if, w_tnot, w_val, w_cb, w_cons]
  simp only [w_nil, w_var, List.getElem?_cons_zero, List.getElem?_cons_succ]
  have hb := hx
  unfold nameB at hb
  rw [Bool.and_eq_true, Bool.and_eq_true] at hb
  have h8 := of_decide_eq_true hb.2.1
  refine name_wp (d := .str (nxt W i)) trivial (fun x e => by
    injection e with e
    rw [← e, sizeLine_eq]
    omega) fun l => ⟨_, rfl, ?_⟩
  show if (!nameB (nxt W i)) = true then _ else _
  rw [hx, if_neg (by decide), s_nil, s_seq]
  refine (s_attAdd (i := (i : Nat)) (j := 1) (n := a) (fs := rdF wl rows i) (fun Q => by rw [w_var]; exact Iff.rfl) (fun Q => Iff.rfl) (h.app l).at_ look_at (by show 3 < 1000; decide)).mpr ?_
  rw [put_at]
  rw [s_ret, w_var]
  exact q l
end
end Mn
set_option Elab.async false
set_option linter.all false
set_option maxRecDepth 100000
set_option maxHeartbeats 4000000
namespace Mn
open PySem PySem.Spec PyProof.Rows L2
inductive Ex where
  | nam (x : Str)
  | num (x : Str)
  | call (x : Str) (es : List Ex)
  | lst (es : List Ex)
  | inn (e : Ex)
  | sum (e : Ex) (ss : List Bool) (es : List Ex)
def Ex.isTerm : Ex → Bool
  | .sum _ _ _ => false
  | _ => true
/-- plus, minus: the kind, the sign -/
def sgK : Bool → Str
  | true => "plus"
  | false => "minus"
def sgS : Bool → Str
  | true => "+"
  | false => "-"
def limbD (b : Bool) (d : D) : D := .tup [.tup [.str (sgK b)], .tup [.tup [d]]]
mutual
def Ex.d : Ex → D
  | .nam x => .tup [.tup [.str "name", .str x], .tup []]
  | .num x => .tup [.tup [.str "number", .str x], .tup []]
  | .call x es => .tup [.tup [.str "call", .str x], .tup [.tup (Ex.ds es)]]
  | .lst es => .tup [.tup [.str "list"], .tup [.tup (Ex.ds es)]]
  | .inn e => .tup [.tup [.str "in"], .tup [.tup [e.d]]]
  | .sum e ss es => .tup [.tup [.str "sum"], .tup [.tup (limbD true e.d :: Ex.ls ss es)]]
def Ex.ds : List Ex → List D
  | [] => []
  | e :: es => e.d :: Ex.ds es
def Ex.ls : List Bool → List Ex → List D
  | _, [] => []
  | [], _ :: _ => []
  | b :: ss, e :: es => limbD b e.d :: Ex.ls ss es
end
mutual
/-- these words are that expression -/
def Ex.tk : Ex → List Str → Prop
  | .nam x, ts => ts = [x] ∧ nameB x = true
  | .num x, ts => ts = [x] ∧ numB x = true
  | .call x es, ts => nameB x = true ∧ ∃ u : List Str, ts = x :: ("(" : Str) :: (u ++ [(")" : Str)]) ∧ Ex.tks es u
  | .lst es, ts => ∃ u : List Str, ts = ("[" : Str) :: (u ++ [("]" : Str)]) ∧ Ex.tks es u
  | .inn e, ts => ∃ u : List Str, ts = ("(" : Str) :: (u ++ [(")" : Str)]) ∧ Ex.tk e u
  | .sum e ss es, ts => e.isTerm = true ∧ ss ≠ [] ∧ ∃ u v, ts = u ++ v ∧ Ex.tk e u ∧ Ex.tss ss es v
def Ex.tks : List Ex → List Str → Prop
  | [], ts => ts = []
  | e :: es, ts => ∃ u v : List Str, ts = u ++ v ∧ Ex.tk e u ∧ ((es = [] ∧ (v = [] ∨ v = [("," : Str)])) ∨ (es ≠ [] ∧ ∃ r : List Str, v = ("," : Str) :: r ∧ Ex.tks es r))
def Ex.tss : List Bool → List Ex → List Str → Prop
  | ss, [], ts => ss = [] ∧ ts = []
  | [], _ :: _, _ => False
  | b :: ss, e :: es, ts => e.isTerm = true ∧ ∃ u v : List Str, ts = sgS b :: (u ++ v) ∧ Ex.tk e u ∧ Ex.tss ss es v
end
mutual
def Ex.ht : Ex → Nat
  | .nam _ => 1
  | .num _ => 1
  | .call _ es => Ex.hts es + 1
  | .lst es => Ex.hts es + 1
  | .inn e => e.ht + 1
  | .sum e _ es => max e.ht (Ex.hts es) + 2
def Ex.hts : List Ex → Nat
  | [] => 0
  | e :: es => max e.ht (Ex.hts es)
end
def stripL (f : D → Option D) : List D → Option (List D)
  | [] => some []
  | d :: r => match f d, stripL f r with
    | some a, some b => some (a :: b)
    | _, _ => none
def stripLots (f : D → Option D) : List D → Option (List D)
  | [] => some []
  | d :: r => match d with
    | .tup ns => match stripL f ns, stripLots f r with
      | some a, some b => some (.tup a :: b)
      | _, _ => none
    | _ => none
/-- a node's part -/
def strip : Nat → D → Option D
  | n + 1, .tup [lab, .tup lots, .int _, .int _] => (stripLots (strip n) lots).map fun ls => .tup [lab, .tup ls]
  | _, _ => none
def Nd (h : Nat) (d e : D) : Prop := ∀ n, h ≤ n → strip n d = some e
def Nds (h : Nat) (ds es : List D) : Prop := ∀ n, h ≤ n → stripL (strip n) ds = some es
theorem Nd.le {h h' : Nat} {d e : D} (a : Nd h d e) (z : h ≤ h') : Nd h' d e := fun n hn => a n (Nat.le_trans z hn)
theorem Nds.le {h h' : Nat} {d e : List D} (a : Nds h d e) (z : h ≤ h') : Nds h' d e := fun n hn => a n (Nat.le_trans z hn)
theorem Nds.nil {h : Nat} : Nds h [] [] := fun _ _ => rfl
theorem stripL_app {f : D → Option D} : ∀ {a b c d : List D}, stripL f a = some c → stripL f b = some d → stripL f (a ++ b) = some (c ++ d)
  | [], b, c, d, h1, h2 => by
    have h1 : some [] = some c := h1
    injection h1 with h1
    subst h1
    exact h2
  | x :: a, b, c, d, h1, h2 => by
    unfold stripL at h1
    split at h1
    · rename_i y z e1 e2
      injection h1 with h1
      subst h1
      show (match f x, stripL f (a ++ b) with | some p, some q => some (p :: q) | _, _ => none) = _
      rw [e1, stripL_app e2 h2]
      rfl
    · cases h1
theorem Nds.snoc {h : Nat} {ds es : List D} {d e : D} (a : Nds h ds es) (b : Nd h d e) : Nds h (ds ++ [d]) (es ++ [e]) := fun n hn => stripL_app (a n hn) (by
  show (match strip n d, (some [] : Option (List D)) with | some p, some q => some (p :: q) | _, _ => none) = _
  rw [b n hn])
theorem Nds.one {h : Nat} {d e : D} (b : Nd h d e) : Nds h [d] [e] := Nds.nil.snoc b
def nodeD (lab : D) (lots : List D) (f l : Int) : D := .tup [lab, .tup lots, .int f, .int l]
theorem Nd.mk0 {lab : D} {f l : Int} : Nd 1 (nodeD lab [] f l) (.tup [lab, .tup []]) := fun n hn => by
  obtain ⟨m, rfl⟩ : ∃ m, n = m + 1 := ⟨n - 1, by omega⟩
  rfl
theorem Nd.mk1 {h : Nat} {lab : D} {f l : Int} {ns es : List D} (a : Nds h ns es) : Nd (h + 1) (nodeD lab [.tup ns] f l) (.tup [lab, .tup [.tup es]]) := fun n hn => by
  obtain ⟨m, rfl⟩ : ∃ m, n = m + 1 := ⟨n - 1, by omega⟩
  show (match stripL (strip m) ns, (some [] : Option (List D)) with | some a, some b => some (D.tup a :: b) | _, _ => none).map (fun ls => D.tup [lab, .tup ls]) = _
  rw [a m (by omega)]
  rfl
theorem Nd.mk2 {h : Nat} {lab : D} {f l : Int} {ns es ns2 es2 : List D} (a : Nds h ns es) (b : Nds h ns2 es2) : Nd (h + 1) (nodeD lab [.tup ns, .tup ns2] f l) (.tup [lab, .tup [.tup es, .tup es2]]) := fun n hn => by
  obtain ⟨m, rfl⟩ : ∃ m, n = m + 1 := ⟨n - 1, by omega⟩
  have e2 : stripLots (strip m) [.tup ns2] = some [.tup es2] := by
    show (match stripL (strip m) ns2, (some [] : Option (List D)) with | some a, some b => some (D.tup a :: b) | _, _ => none) = _
    rw [b m (by omega)]
  show (match stripL (strip m) ns, stripLots (strip m) [.tup ns2] with | some a, some b => some (D.tup a :: b) | _, _ => none).map (fun ls => D.tup [lab, .tup ls]) = _
  rw [a m (by omega), e2]
  rfl
theorem Nd.mk3 {h : Nat} {lab : D} {f l : Int} {ns es ns2 es2 ns3 es3 : List D} (a : Nds h ns es) (b : Nds h ns2 es2) (c : Nds h ns3 es3) : Nd (h + 1) (nodeD lab [.tup ns, .tup ns2, .tup ns3] f l) (.tup [lab, .tup [.tup es, .tup es2, .tup es3]]) := fun n hn => by
  obtain ⟨m, rfl⟩ : ∃ m, n = m + 1 := ⟨n - 1, by omega⟩
  have e3 : stripLots (strip m) [.tup ns3] = some [.tup es3] := by
    show (match stripL (strip m) ns3, (some [] : Option (List D)) with | some a, some b => some (D.tup a :: b) | _, _ => none) = _
    rw [c m (by omega)]
  have e2 : stripLots (strip m) [.tup ns2, .tup ns3] = some [.tup es2, .tup es3] := by
    show (match stripL (strip m) ns2, stripLots (strip m) [.tup ns3] with | some a, some b => some (D.tup a :: b) | _, _ => none) = _
    rw [b m (by omega), e3]
  show (match stripL (strip m) ns, stripLots (strip m) [.tup ns2, .tup ns3] with | some a, some b => some (D.tup a :: b) | _, _ => none).map (fun ls => D.tup [lab, .tup ls]) = _
  rw [a m (by omega), e2]
  rfl
theorem Nd.shape {h : Nat} {d e : D} (a : Nd h d e) : ∃ lab lots f l, d = .tup [lab, .tup lots, .int f, .int l] := by
  have := a (h + 1) (by omega)
  unfold strip at this
  split at this
  · exact ⟨_, _, _, _, rfl⟩
  · cases this
theorem node_w {S : Sto} {Q : D → Sto → Prop} {lab : D} {lots : List D} {f l : Int} (q : Q (nodeD lab lots f l) S) : (g_node_of [lab, .tup lots, .int f, .int l] S).wp Q := by
  unfold g_node_of
  refine w_def rfl ?_
  simp only [s_ret, w_tup, w_cons, w_nil, w_var, List.map_cons, List.map_nil, List.length_cons, List.length_nil, List.cons_append, List.nil_append, List.getElem?_cons_zero, List.getElem?_cons_succ, List.reduceReplicate, Nat.reduceAdd, Nat.reduceSub]
  exact ⟨by rw [sizeLine_eq]; decide, q⟩
theorem drop_hd {W : List Str} {i : Nat} {t : Str} {r : List Str} (h : W.drop i = t :: r) : nxt W i = t ∧ W.drop (i + 1) = r := by
  have e : W[i]? = some t := by
    have := List.getElem?_drop (xs := W) (i := i) (j := 0)
    rw [h] at this
    simpa using this.symm
  refine ⟨by unfold nxt; rw [e]; rfl, ?_⟩
  rw [← List.drop_drop, h]
  rfl
theorem drop_nil {W : List Str} {i : Nat} (h : W.drop i = []) : nxt W i = "" := by
  have : W.length ≤ i := List.drop_eq_nil_iff.mp h
  unfold nxt
  rw [List.getElem?_eq_none this]
  rfl
theorem drop_app {W : List Str} {i : Nat} {u v : List Str} (h : W.drop i = u ++ v) : W.drop (i + u.length) = v := by
  rw [← List.drop_drop, h, List.drop_left]
/-- a word with which an expression begins -/
def Fst (t : Str) : Prop := nameB t = true ∨ numB t = true ∨ t = "(" ∨ t = "["
theorem Fst.ne {t : Str} (h : Fst t) : t ∉ ([")", "]", ",", "", "+", "-", "=", ";", "{", "}"] : List Str) := by
  have key : ([")", "]", ",", "", "+", "-", "=", ";", "{", "}"] : List Str).all (fun t => !(nameB t) && (!(numB t) && (!(decide (t = "(")) && !(decide (t = "["))))) = true := by decide +kernel
  intro hm
  have := List.all_eq_true.mp key t hm
  rw [Bool.and_eq_true, Bool.and_eq_true, Bool.and_eq_true] at this
  obtain ⟨h1, h2, h3, h4⟩ := this
  rcases h with h | h | h | h
  · rw [h] at h1; cases h1
  · rw [h] at h2; cases h2
  · rw [decide_eq_true h] at h3; cases h3
  · rw [decide_eq_true h] at h4; cases h4
mutual
theorem tk_fst : ∀ {e : Ex} {ts : List Str}, e.tk ts → ∃ t r, ts = t :: r ∧ Fst t
  | .nam x, ts, h => ⟨x, [], h.1, .inl h.2⟩
  | .num x, ts, h => ⟨x, [], h.1, .inr (.inl h.2)⟩
  | .call x es, ts, h => by
    obtain ⟨h1, u, h2, _⟩ := h
    exact ⟨x, _, h2, .inl h1⟩
  | .lst es, ts, h => by
    obtain ⟨u, h2, _⟩ := h
    exact ⟨_, _, h2, .inr (.inr (.inr rfl))⟩
  | .inn e, ts, h => by
    obtain ⟨u, h2, _⟩ := h
    exact ⟨_, _, h2, .inr (.inr (.inl rfl))⟩
  | .sum e ss es, ts, h => by
    obtain ⟨_, _, u, v, h2, h3, _⟩ := h
    obtain ⟨t, r, h4, h5⟩ := tk_fst h3
    exact ⟨t, r ++ v, by rw [h2, h4]; rfl, h5⟩
end
theorem tks_len : ∀ {es : List Ex} {ts : List Str}, Ex.tks es ts → es.length ≤ ts.length
  | [], _, _ => Nat.zero_le _
  | e :: es, ts, h => by
    obtain ⟨u, v, h1, h2, h3⟩ := h
    obtain ⟨t, r, h4, _⟩ := tk_fst h2
    rw [h1, h4, List.length_append, List.length_cons, List.length_cons]
    rcases h3 with ⟨rfl, _⟩ | ⟨_, r', rfl, h5⟩
    · rw [List.length_nil]
      omega
    · have := tks_len h5
      rw [List.length_cons]
      omega
theorem tss_len : ∀ {ss : List Bool} {es : List Ex} {ts : List Str}, Ex.tss ss es ts → es.length ≤ ts.length ∧ ss.length = es.length
  | ss, [], ts, h => by
    have h : ss = [] ∧ ts = [] := by cases ss <;> exact h
    rw [h.1]
    exact ⟨Nat.zero_le _, rfl⟩
  | [], _ :: _, _, h => h.elim
  | b :: ss, e :: es, ts, h => by
    obtain ⟨_, u, v, h1, h2, h3⟩ := h
    have := tss_len h3
    rw [h1, List.length_cons, List.length_cons, List.length_append, List.length_cons]
    omega
theorem name_num {x : Str} (h : nameB x = true) : numB x = false := by
  refine eq_false_of_ne_true fun hn => ?_
  unfold nameB at h
  unfold numB at hn
  rw [Bool.and_eq_true, Bool.and_eq_true, Bool.and_eq_true] at h
  rw [Bool.and_eq_true, Bool.and_eq_true, Bool.and_eq_true] at hn
  have h1 := of_decide_eq_true h.1
  obtain ⟨c, e1, e2⟩ := head_at h1
  have hc : c ∈ x.cps.toList := by
    cases hx : x.cps.toList with
    | nil => rw [hx] at e2; cases e2
    | cons y r =>
      rw [hx] at e2
      injection e2 with e2
      rw [e2]
      exact List.mem_cons_self
  have l1 := of_decide_eq_true (List.all_eq_true.mp h.2.2.1 c hc)
  have l2 := of_decide_eq_true (List.all_eq_true.mp hn.2.2.1 c hc)
  have key : (("abcdefghijklmnopqrstuvwxyz" : Str).cps.toList.all fun c => !(decide (c ∈ ("0123456789" : Str).cps.toList))) = true := by decide +kernel
  have := List.all_eq_true.mp key c l1
  rw [decide_eq_true l2] at this
  cases this
end Mn
set_option Elab.async false
set_option linter.all false
set_option maxRecDepth 100000
set_option maxHeartbeats 4000000
namespace Mn
open PySem PySem.Spec PyProof.Rows L2
abbrev nW : F := g_Reader_next_word
def Stop (rest : List Str) : Prop := rest.head? ≠ some ("(" : Str) ∧ rest.head? ≠ some ("+" : Str) ∧ rest.head? ≠ some ("-" : Str)
theorem stop_cons {t : Str} {r : List Str} (h : t ≠ "(" ∧ t ≠ "+" ∧ t ≠ "-") : Stop (t :: r) := ⟨fun z => h.1 (by injection z), fun z => h.2.1 (by injection z), fun z => h.2.2 (by injection z)⟩
/-- f reads at the words ts that mean x: what is left behind it must not go on; the answer stands for d -/
def ReadOk (f : F) (args : List D) (stop : List Str → Prop) (tk : List Str → Prop) (P : D → Prop) : Prop := ∀ (a wl : Nat) (wds : List D) (W : List Str) (rows : Int) (i : Nat) (S : Sto) (ts rest : List Str) (Q : D → Sto → Prop),
  Rdr a wl wds rows i S → Wds W wds → W.length < 1000000 → W.drop i = ts ++ rest → tk ts → stop rest → (∀ d S', Ext a S S' → Rdr a wl wds rows (i + ts.length) S' → P d → Q d S') → (f (.ref a :: args) S).wp Q
abbrev TermOk (f : F) (e : Ex) : Prop := ReadOk f [] (fun r => r.head? ≠ some ("(" : Str)) e.tk (fun d => Nd e.ht d e.d)
abbrev ExprOk (f : F) (e : Ex) : Prop := ReadOk f [] Stop e.tk (fun d => Nd e.ht d e.d)
abbrev ExprsOk (f : F) (es : List Ex) (cl : Str) : Prop := ReadOk f [.str cl] (fun r => r.head? = some cl) (Ex.tks es) (fun d => ∃ ns, d = .tup ns ∧ Nds (Ex.hts es) ns (Ex.ds es))
abbrev gTerm (tk e es tn : F) : F := g_Reader_term nW tk e g_node_of es (g_is_number g_are_all) tn
abbrev gTake (rf : F) : F := g_Reader_take nW rf
abbrev gTakeN (rf : F) : F := g_Reader_take_name nW (g_is_name g_are_all) rf
theorem hd_nxt {W : List Str} {i : Nat} {r : List Str} {x : Str} (h : W.drop i = r) (hx : x ≠ "") : (r.head? = some x ↔ nxt W i = x) := by
  cases r with
  | nil =>
    rw [drop_nil h]
    constructor
    · intro z; cases z
    · intro z; exact absurd z.symm hx
  | cons t r =>
    rw [(drop_hd h).1]
    constructor
    · intro z; injection z
    · intro z; rw [z]; rfl
/-- the parts of a term: what calls need -/
theorem term_ok {rf e es : F} {x : Ex} (ht : x.isTerm = true)
    (he : ∀ y, x = .inn y → ExprOk e y) (hes : ∀ y ys, x = .call y ys → ExprsOk es ys ")") (hls : ∀ ys, x = .lst ys → ExprsOk es ys "]") : TermOk (gTerm (gTake rf) e es (gTakeN rf)) x := by
  intro a wl wds W rows i S ts rest Q h hw hW hd hk hst q
  have sl : ∀ n : Nat, n ≤ 200 → n ≤ sizeLine := fun n h => by rw [sizeLine_eq]; omega
  obtain ⟨t, r, ets, hf⟩ := tk_fst hk
  have hd0 : W.drop i = t :: (r ++ rest) := by rw [hd, ets]; rfl
  obtain ⟨ht0, hd1⟩ := drop_hd hd0
  unfold gTerm g_Reader_term
  refine w_def rfl ?_
  rw [s_seq, s_par]
  simp only [w_cons, w_nil, w_var, w_meth, w_att, List.map_cons, List.map_nil, List.length_cons, List.length_nil, List.cons_append, List.nil_append, List.getElem?_cons_zero, List.getElem?_cons_succ, List.set_cons_zero, List.set_cons_succ, List.reduceReplicate, Nat.reduceAdd, Nat.reduceSub]
  refine ⟨a, _, insD_of h.at_, look_meth (by decide +kernel), ?_⟩
  refine next_wp h hw ?_
  refine ⟨a, _, _, insD_of h.at_, look_at, _, _, rfl, ?_⟩
  rw [ht0]
  rw [s_seq, s_if]
  simp only [w_val, w_bin, w_var, w_c, List.getElem?_cons_zero, List.getElem?_cons_succ]
  rw [w_eq eqN_str]
  refine ⟨_, rfl, ?_⟩
  have no : ∀ z : Str, z ∈ ([("(" : Str), "["] : List Str) → nameB t = true ∨ numB t = true → t ≠ z := by
    intro z hz hn e
    have key : ([("(" : Str), "["] : List Str).all (fun t => !(nameB t) && !(numB t)) = true := by decide +kernel
    have := List.all_eq_true.mp key z hz
    rw [Bool.and_eq_true] at this
    rw [← e] at this
    rcases hn with hn | hn
    · rw [hn] at this; cases this.1
    · rw [hn] at this; cases this.2
  cases x with
  | sum _ _ _ => cases ht
  | inn y =>
    obtain ⟨u, hu, hku⟩ := hk
    rw [hu] at ets
    injection ets with e1 e2
    subst e1
    rw [if_pos (by rw [beq_iff_eq]), s_seq, s_drop]
    simp only [w_cons, w_nil, w_var, w_meth, List.getElem?_cons_zero, List.getElem?_cons_succ]
    refine ⟨a, _, insD_of h.at_, look_meth (by decide +kernel), ?_⟩
    refine take_wd h hw ht0 ?_
    rw [s_seq, s_set]
    simp only [w_cons, w_nil, w_var, w_meth, List.getElem?_cons_zero, List.getElem?_cons_succ]
    refine ⟨a, _, insD_of h.step.at_, look_meth (by decide +kernel), ?_⟩
    rw [← e2, List.append_assoc] at hd1
    refine he y rfl a wl wds W rows (i + 1) _ u ([(")" : Str)] ++ rest) _ h.step hw hW hd1 hku (stop_cons (by decide +kernel)) fun d S1 x1 h1 n1 => ?_
    simp only [List.set_cons_zero, List.set_cons_succ]
    rw [s_ret]
    simp only [w_cb, w_cons, w_nil, w_var, w_c, w_tup, w_meth, List.getElem?_cons_zero, List.getElem?_cons_succ]
    refine ⟨sl _ (by simp), sl _ (by simp), sl _ (by simp), a, _, insD_of h1.at_, look_meth (by decide +kernel), ?_⟩
    refine take_wd h1 hw (drop_hd (drop_app hd1)).1 (node_w ?_)
    refine q _ _ ((h.stepX.trans x1).trans h1.stepX) ?_ (Nd.mk1 (Nds.one n1))
    have := h1.step
    rw [hu, List.length_cons, List.length_append, List.length_singleton, show i + (u.length + 1 + 1) = i + 1 + u.length + 1 by omega]
    exact this
  | lst ys =>
    obtain ⟨u, hu, hku⟩ := hk
    rw [hu] at ets
    injection ets with e1 e2
    subst e1
    rw [if_neg (by decide +kernel), s_nil, s_seq, s_if]
    simp only [w_val, w_bin, w_var, w_c, List.getElem?_cons_zero, List.getElem?_cons_succ]
    rw [w_eq eqN_str]
    refine ⟨_, rfl, ?_⟩
    rw [if_pos (by rw [beq_iff_eq]), s_seq, s_drop]
    simp only [w_cons, w_nil, w_var, w_meth, List.getElem?_cons_zero, List.getElem?_cons_succ]
    refine ⟨a, _, insD_of h.at_, look_meth (by decide +kernel), ?_⟩
    refine take_wd h hw ht0 ?_
    rw [s_seq, s_set]
    simp only [w_cons, w_nil, w_var, w_c, w_meth, List.getElem?_cons_zero, List.getElem?_cons_succ]
    refine ⟨a, _, insD_of h.step.at_, look_meth (by decide +kernel), ?_⟩
    rw [← e2, List.append_assoc] at hd1
    refine hls ys rfl a wl wds W rows (i + 1) _ u ([("]" : Str)] ++ rest) _ h.step hw hW hd1 hku rfl fun d S1 x1 h1 n1 => ?_
    obtain ⟨ns, rfl, n1⟩ := n1
    simp only [List.set_cons_zero, List.set_cons_succ]
    rw [s_ret]
    simp only [w_cb, w_cons, w_nil, w_var, w_c, w_tup, w_meth, List.getElem?_cons_zero, List.getElem?_cons_succ]
    refine ⟨sl _ (by simp), sl _ (by simp), a, _, insD_of h1.at_, look_meth (by decide +kernel), ?_⟩
    refine take_wd h1 hw (drop_hd (drop_app hd1)).1 (node_w ?_)
    refine q _ _ ((h.stepX.trans x1).trans h1.stepX) ?_ (Nd.mk1 n1)
    have := h1.step
    rw [hu, List.length_cons, List.length_append, List.length_singleton, show i + (u.length + 1 + 1) = i + 1 + u.length + 1 by omega]
    exact this
  | num y =>
    obtain ⟨hu, hn⟩ := hk
    rw [hu] at ets
    injection ets with e1 e2
    subst e1 e2
    rw [if_neg (by rw [beq_iff_eq]; exact no _ (by simp) (.inr hn)), s_nil, s_seq, s_if]
    simp only [w_val, w_bin, w_var, w_c, List.getElem?_cons_zero, List.getElem?_cons_succ]
    rw [w_eq eqN_str]
    refine ⟨_, rfl, ?_⟩
    rw [if_neg (by rw [beq_iff_eq]; exact no _ (by simp) (.inr hn)), s_nil, s_seq, s_if]
    simp only [w_val, w_cb, w_cons, w_nil, w_var, List.getElem?_cons_zero, List.getElem?_cons_succ]
    have h6 := hn
    unfold numB at h6
    rw [Bool.and_eq_true, Bool.and_eq_true] at h6
    have h6 := of_decide_eq_true h6.2.1
    refine number_wp (d := .str y) trivial (fun x e => by injection e with e; rw [← e, sizeLine_eq]; omega) fun l => ⟨_, rfl, ?_⟩
    show if numB y = true then _ else _
    rw [if_pos hn, s_ret]
    simp only [w_cb, w_cons, w_nil, w_var, w_c, w_tup, w_meth, List.getElem?_cons_zero, List.getElem?_cons_succ]
    refine ⟨sl _ (by simp), sl _ (by simp), a, _, insD_of (h.app l).at_, look_meth (by decide +kernel), ?_⟩
    refine take_wd (h.app l) hw ht0 (node_w ?_)
    refine q _ _ (((Ext.refl a S).app l).trans (h.app l).stepX) ?_ Nd.mk0
    have := (h.app l).step
    rw [hu]
    exact this
  | nam y =>
    obtain ⟨hu, hn⟩ := hk
    rw [hu] at ets
    injection ets with e1 e2
    subst e1 e2
    rw [if_neg (by rw [beq_iff_eq]; exact no _ (by simp) (.inl hn)), s_nil, s_seq, s_if]
    simp only [w_val, w_bin, w_var, w_c, List.getElem?_cons_zero, List.getElem?_cons_succ]
    rw [w_eq eqN_str]
    refine ⟨_, rfl, ?_⟩
    rw [if_neg (by rw [beq_iff_eq]; exact no _ (by simp) (.inl hn)), s_nil, s_seq, s_if]
    simp only [w_val, w_cb, w_cons, w_nil, w_var, List.getElem?_cons_zero, List.getElem?_cons_succ]
    have h6 := hn
    unfold nameB at h6
    rw [Bool.and_eq_true, Bool.and_eq_true] at h6
    have h6 := of_decide_eq_true h6.2.1
    refine number_wp (d := .str y) trivial (fun x e => by injection e with e; rw [← e, sizeLine_eq]; omega) fun l => ⟨_, rfl, ?_⟩
    show if numB y = true then _ else _
    rw [if_neg (by rw [name_num hn]; exact Bool.false_ne_true), s_nil, s_seq, s_set]
    simp only [w_cons, w_nil, w_var, w_meth, List.getElem?_cons_zero, List.getElem?_cons_succ]
    have hl := h.app l
    refine ⟨a, _, insD_of hl.at_, look_meth (by decide +kernel), ?_⟩
    refine takeName_wd hl hw (by rw [ht0]; exact hn) fun l2 => ?_
    rw [ht0]
    have h2 := (hl.app l2).step
    simp only [List.set_cons_zero, List.set_cons_succ]
    rw [s_seq, s_if]
    simp only [w_val, w_bin, w_cons, w_nil, w_var, w_c, w_meth, List.getElem?_cons_zero, List.getElem?_cons_succ]
    refine ⟨a, _, insD_of h2.at_, look_meth (by decide +kernel), ?_⟩
    refine next_wp h2 hw ?_
    rw [w_ne eqN_str]
    refine ⟨_, rfl, ?_⟩
    have hx : ¬ nxt W (i + 1) = "(" := fun z => hst ((hd_nxt hd1 (by decide +kernel)).mpr z)
    rw [if_pos (by rw [Bool.not_eq_true', beq_eq_false_iff_ne]; exact hx), s_ret]
    simp only [w_cb, w_cons, w_nil, w_var, w_c, w_tup, List.getElem?_cons_zero, List.getElem?_cons_succ]
    refine ⟨sl _ (by simp), sl _ (by simp), node_w ?_⟩
    refine q _ _ ((((Ext.refl a S).app l).app l2).trans (hl.app l2).stepX) ?_ Nd.mk0
    rw [hu]
    exact h2
  | call y ys =>
    obtain ⟨hn, u, hu, hku⟩ := hk
    rw [hu] at ets
    injection ets with e1 e2
    subst e1
    rw [if_neg (by rw [beq_iff_eq]; exact no _ (by simp) (.inl hn)), s_nil, s_seq, s_if]
    simp only [w_val, w_bin, w_var, w_c, List.getElem?_cons_zero, List.getElem?_cons_succ]
    rw [w_eq eqN_str]
    refine ⟨_, rfl, ?_⟩
    rw [if_neg (by rw [beq_iff_eq]; exact no _ (by simp) (.inl hn)), s_nil, s_seq, s_if]
    simp only [w_val, w_cb, w_cons, w_nil, w_var, List.getElem?_cons_zero, List.getElem?_cons_succ]
    have h6 := hn
    unfold nameB at h6
    rw [Bool.and_eq_true, Bool.and_eq_true] at h6
    have h6 := of_decide_eq_true h6.2.1
    refine number_wp (d := .str y) trivial (fun x e => by injection e with e; rw [← e, sizeLine_eq]; omega) fun l => ⟨_, rfl, ?_⟩
    show if numB y = true then _ else _
    rw [if_neg (by rw [name_num hn]; exact Bool.false_ne_true), s_nil, s_seq, s_set]
    simp only [w_cons, w_nil, w_var, w_meth, List.getElem?_cons_zero, List.getElem?_cons_succ]
    have hl := h.app l
    refine ⟨a, _, insD_of hl.at_, look_meth (by decide +kernel), ?_⟩
    refine takeName_wd hl hw (by rw [ht0]; exact hn) fun l2 => ?_
    rw [ht0]
    have h2 := (hl.app l2).step
    rw [← e2] at hd1
    have hd1 : W.drop (i + 1) = ("(" : Str) :: (u ++ ([(")" : Str)] ++ rest)) := by rw [hd1, List.cons_append, List.append_assoc]
    obtain ⟨hx, hd2⟩ := drop_hd hd1
    simp only [List.set_cons_zero, List.set_cons_succ]
    rw [s_seq, s_if]
    simp only [w_val, w_bin, w_cons, w_nil, w_var, w_c, w_meth, List.getElem?_cons_zero, List.getElem?_cons_succ]
    refine ⟨a, _, insD_of h2.at_, look_meth (by decide +kernel), ?_⟩
    refine next_wp h2 hw ?_
    rw [w_ne eqN_str]
    refine ⟨_, rfl, ?_⟩
    rw [if_neg (by rw [hx]; decide +kernel), s_nil, s_seq, s_drop]
    simp only [w_cons, w_nil, w_var, w_c, w_meth, List.getElem?_cons_zero, List.getElem?_cons_succ]
    refine ⟨a, _, insD_of h2.at_, look_meth (by decide +kernel), ?_⟩
    refine take_wd h2 hw hx ?_
    rw [s_seq, s_set]
    simp only [w_cons, w_nil, w_var, w_c, w_meth, List.getElem?_cons_zero, List.getElem?_cons_succ]
    refine ⟨a, _, insD_of h2.step.at_, look_meth (by decide +kernel), ?_⟩
    refine hes y ys rfl a wl wds W rows (i + 1 + 1) _ u ([(")" : Str)] ++ rest) _ h2.step hw hW hd2 hku rfl fun d S1 x1 h1 n1 => ?_
    obtain ⟨ns, rfl, n1⟩ := n1
    simp only [List.set_cons_zero, List.set_cons_succ]
    rw [s_ret]
    simp only [w_cb, w_cons, w_nil, w_var, w_c, w_tup, w_meth, List.getElem?_cons_zero, List.getElem?_cons_succ]
    refine ⟨sl _ (by simp), sl _ (by simp), a, _, insD_of h1.at_, look_meth (by decide +kernel), ?_⟩
    refine take_wd h1 hw (drop_hd (drop_app hd2)).1 (node_w ?_)
    refine q _ _ ((((((Ext.refl a S).app l).app l2).trans (hl.app l2).stepX).trans h2.stepX).trans (x1.trans h1.stepX)) ?_ (Nd.mk1 n1)
    have := h1.step
    rw [hu, List.length_cons, List.length_cons, List.length_append, List.length_singleton, show i + (u.length + 1 + 1 + 1) = i + 1 + 1 + u.length + 1 by omega]
    exact this
end Mn
set_option Elab.async false
set_option linter.all false
set_option maxRecDepth 100000
set_option maxHeartbeats 4000000
namespace Mn
open PySem PySem.Spec PyProof.Rows L2
theorem ds_app : ∀ (a b : List Ex), Ex.ds (a ++ b) = Ex.ds a ++ Ex.ds b
  | [], _ => rfl
  | x :: a, b => by
    show x.d :: Ex.ds (a ++ b) = _
    rw [ds_app a b]
    rfl
theorem hts_mem : ∀ {es : List Ex} {x : Ex}, x ∈ es → x.ht ≤ Ex.hts es
  | [], _, h => by cases h
  | y :: es, x, h => by
    rcases List.mem_cons.mp h with rfl | h
    · exact Nat.le_max_left _ _
    · exact Nat.le_trans (hts_mem h) (Nat.le_max_right _ _)
theorem wN_eq : wN = 1000000 := rfl
theorem exprs_ok {rf e : F} {es : List Ex} {cl : Str} (hcl : cl = ")" ∨ cl = "]") (he : ∀ y ∈ es, ExprOk e y) : ExprsOk (g_Reader_expressions nW e (gTake rf)) es cl := by
  intro a wl wds W rows i S ts rest Q h hw hW hd hk hst q
  have sl : ∀ n : Nat, n ≤ 200 → n ≤ sizeLine := fun n h => by rw [sizeLine_eq]; omega
  have hcn : cl ≠ "" ∧ cl ≠ "," ∧ cl ∈ ([")", "]", ",", "", "+", "-", "=", ";", "{", "}"] : List Str) ∧ (cl ≠ "(" ∧ cl ≠ "+" ∧ cl ≠ "-") := by
    rcases hcl with rfl | rfl <;> decide +kernel
  obtain ⟨rest', hrest⟩ : ∃ r, rest = cl :: r := by
    cases rest with
    | nil => cases hst
    | cons t r => injection hst with hst; exact ⟨r, by rw [hst]⟩
  unfold g_Reader_expressions
  refine w_def rfl ?_
  rw [s_seq, s_set]
  simp only [w_lst, w_nil, List.map_cons, List.map_nil, List.length_cons, List.length_nil, List.cons_append, List.nil_append, List.set_cons_zero, List.set_cons_succ, List.reduceReplicate, Nat.reduceAdd, Nat.reduceSub]
  refine ⟨sl _ (by decide), ?_⟩
  rw [s_seq, s_while]
  have hlen := tks_len hk
  have htl : ts.length ≤ W.length := by
    have := congrArg List.length hd
    rw [List.length_drop, List.length_append] at this
    omega
  have hwl : wl < S.length := (List.getElem?_eq_some_iff.mp h.ws).1
  have hal := h.lt
  refine while_wp (fun k ρ S' => ∃ (done todo : List Ex) (ns : List D) (j : Nat) (v : List Str), es = done ++ todo ∧ todo.length = k ∧ ρ = [some (.ref a), some (.str cl), some (.ref S.length)] ∧ Rdr a wl wds rows j S' ∧ W.drop j = v ++ rest ∧ Ex.tks todo v ∧ Ext a S S' ∧ S'[S.length]? = some (.lst ns) ∧ Nds (Ex.hts es) ns (Ex.ds done) ∧ j + v.length = i + ts.length ∧ ns.length = done.length) (fun k ρ S' => ?_) wN es.length _ _ (by rw [wN_eq]; omega)
    ⟨[], es, [], i, ts, rfl, rfl, rfl, h.app _, hd, hk, (Ext.refl a S).app _, List.getElem?_concat_length, Nds.nil, rfl, rfl⟩
  rintro ⟨done, todo, ns, j, v, hes, htk, rfl, hj, hdj, hv, x, hn, hnd, hjv, hnl⟩
  simp only [w_val, w_bin, w_meth, w_cons, w_nil, w_var, List.getElem?_cons_zero, List.getElem?_cons_succ]
  refine ⟨a, _, insD_of hj.at_, look_meth (by decide +kernel), ?_⟩
  refine next_wp hj hw ?_
  rw [w_ne eqN_str]
  refine ⟨_, rfl, ?_⟩
  have hnle : ns.length ≤ 1000000 := by
    have := congrArg List.length hes
    rw [List.length_append] at this
    omega
  cases todo with
  | nil =>
    have hv : v = [] := hv
    subst hv
    have hnx : nxt W j = cl := (drop_hd (by rw [hdj, hrest]; rfl)).1
    rw [if_neg (by rw [hnx]; simp), s_ret]
    simp only [w_cb, w_cons, w_nil, w_var, List.getElem?_cons_zero, List.getElem?_cons_succ]
    rw [w_tupL hn]
    rw [List.append_nil] at hes
    refine q _ S' x ?_ ⟨ns, rfl, by rw [hes] at hnd ⊢; exact hnd⟩
    rw [show i + ts.length = j by rw [← hjv]; rfl]
    exact hj
  | cons y t =>
    obtain ⟨u, v', hvu, hyu, hrs⟩ := hv
    obtain ⟨t0, r0, hu0, hf0⟩ := tk_fst hyu
    have hdj1 : W.drop j = u ++ (v' ++ rest) := by rw [hdj, hvu, List.append_assoc]
    have hnx : nxt W j = t0 := (drop_hd (by rw [hdj1, hu0]; rfl)).1
    have hne : t0 ≠ cl := fun z => hf0.ne (by rw [z]; exact hcn.2.2.1)
    rw [if_pos (by rw [hnx, Bool.not_eq_true', beq_eq_false_iff_ne]; exact hne), s_seq, s_drop]
    simp only [w_mt, w_meth, w_cons, w_nil, w_var, List.getElem?_cons_zero, List.getElem?_cons_succ]
    refine ⟨by show kOb S'[S.length]? = "list"; rw [hn]; rfl, a, _, insD_of hj.at_, look_meth (by decide +kernel), ?_⟩
    have hmem : y ∈ es := by rw [hes]; exact List.mem_append_right _ List.mem_cons_self
    have hstop : Stop (v' ++ rest) := by
      rcases hrs with ⟨_, rfl | rfl⟩ | ⟨_, r, rfl, _⟩
      · rw [hrest]; exact stop_cons hcn.2.2.2
      · exact stop_cons (by decide +kernel)
      · exact stop_cons (by decide +kernel)
    refine he y hmem a wl wds W rows j S' u (v' ++ rest) _ hj hw hW hdj1 hyu hstop fun d S1 x1 h1 n1 => ?_
    have hn1 := x1.at_ hn (by omega)
    have hl1 : S.length < S1.length := (List.getElem?_eq_some_iff.mp hn1).1
    rw [w_app hn1]
    refine ⟨by rw [sizeLine_eq]; omega, ?_⟩
    have h2 := h1.set (m := S.length) (by omega) (by omega) (.lst (ns ++ [d]))
    have hn2 : (S1.set S.length (.lst (ns ++ [d])))[S.length]? = some (.lst (ns ++ [d])) := List.getElem?_set_self hl1
    have x2 : Ext a S (S1.set S.length (.lst (ns ++ [d]))) := (x.trans x1).set (Nat.le_refl _) _
    have hnd2 : Nds (Ex.hts es) (ns ++ [d]) (Ex.ds (done ++ [y])) := by
      rw [ds_app]
      exact hnd.snoc (n1.le (hts_mem hmem))
    have hes2 : es = (done ++ [y]) ++ t := by rw [hes, List.append_assoc]; rfl
    have hdj2 := drop_app hdj1
    have hln : (ns ++ [d]).length = (done ++ [y]).length := by rw [List.length_append, List.length_append, hnl]; rfl
    have hvl : v.length = u.length + v'.length := by rw [hvu, List.length_append]
    rw [s_if]
    simp only [w_val, w_bin, w_meth, w_cons, w_nil, w_var, List.getElem?_cons_zero, List.getElem?_cons_succ]
    refine ⟨a, _, insD_of h2.at_, look_meth (by decide +kernel), ?_⟩
    refine next_wp h2 hw ?_
    rw [w_ne eqN_str]
    refine ⟨_, rfl, ?_⟩
    rw [List.length_cons] at htk
    -- a comma stands there
    have comma : ∀ r : List Str, v' = ("," : Str) :: r → Ex.tks t r → (if (!(nxt W (j + u.length) == cl)) = true then (sDrop (mMeth "Reader" "take" (gTake rf) (mVar 0) (aCons (mC (.str ",")) aNil)) [some (.ref a), some (.str cl), some (.ref S.length)] (S1.set S.length (.lst (ns ++ [d])))).wp (fun ρ2 S2 => ∃ j', j' < k ∧ ∃ (done todo : List Ex) (ns : List D) (j : Nat) (v : List Str), es = done ++ todo ∧ todo.length = j' ∧ ρ2 = [some (.ref a), some (.str cl), some (.ref S.length)] ∧ Rdr a wl wds rows j S2 ∧ W.drop j = v ++ rest ∧ Ex.tks todo v ∧ Ext a S S2 ∧ S2[S.length]? = some (.lst ns) ∧ Nds (Ex.hts es) ns (Ex.ds done) ∧ j + v.length = i + ts.length ∧ ns.length = done.length) Q else (sNil [some (.ref a), some (.str cl), some (.ref S.length)] (S1.set S.length (.lst (ns ++ [d])))).wp (fun ρ2 S2 => ∃ j', j' < k ∧ ∃ (done todo : List Ex) (ns : List D) (j : Nat) (v : List Str), es = done ++ todo ∧ todo.length = j' ∧ ρ2 = [some (.ref a), some (.str cl), some (.ref S.length)] ∧ Rdr a wl wds rows j S2 ∧ W.drop j = v ++ rest ∧ Ex.tks todo v ∧ Ext a S S2 ∧ S2[S.length]? = some (.lst ns) ∧ Nds (Ex.hts es) ns (Ex.ds done) ∧ j + v.length = i + ts.length ∧ ns.length = done.length) Q) := by
      intro r hr htr
      obtain ⟨hc1, hc2⟩ := drop_hd (show W.drop (j + u.length) = ("," : Str) :: (r ++ rest) by rw [hdj2, hr]; rfl)
      rw [if_pos (by rw [hc1, Bool.not_eq_true', beq_eq_false_iff_ne]; exact fun z => hcn.2.1 z.symm), s_drop]
      simp only [w_meth, w_cons, w_nil, w_var, w_c, List.getElem?_cons_zero, List.getElem?_cons_succ]
      refine ⟨a, _, insD_of h2.at_, look_meth (by decide +kernel), ?_⟩
      refine take_wd h2 hw hc1 ?_
      refine ⟨t.length, by omega, done ++ [y], t, ns ++ [d], _, r, hes2, rfl, by first | rfl | trivial, h2.step, hc2, htr, x2.trans h2.stepX, h2.stepX.at_ hn2 (by omega), hnd2, ?_, hln⟩
      rw [hr, List.length_cons] at hvl
      omega
    rcases hrs with ⟨rfl, rfl | rfl⟩ | ⟨_, r, rfl, htr⟩
    · have hc1 : nxt W (j + u.length) = cl := (drop_hd (by rw [hdj2, hrest]; rfl)).1
      rw [if_neg (by rw [hc1]; simp), s_nil]
      refine ⟨0, by omega, done ++ [y], [], ns ++ [d], _, [], hes2, rfl, rfl, h2, hdj2, rfl, x2, hn2, hnd2, ?_, hln⟩
      rw [List.length_nil] at hvl ⊢
      omega
    · exact comma [] rfl rfl
    · exact comma r rfl htr
theorem isIn_two {x y z : Str} : isIn (.str x) [y, z] = (decide (x = y) || decide (x = z)) := by
  unfold isIn isX
  have e : ∀ p q : Str, decide (D.str p = .str q) = decide (p = q) := fun p q => by
    rw [Bool.eq_iff_iff, decide_eq_true_iff, decide_eq_true_iff]
    exact ⟨fun z => by injection z, fun z => by rw [z]⟩
  simp only [List.any_cons, List.any_nil, e, Bool.or_false]
theorem ls_app : ∀ {sa sb : List Bool} {a b : List Ex}, sa.length = a.length → Ex.ls (sa ++ sb) (a ++ b) = Ex.ls sa a ++ Ex.ls sb b
  | [], sb, [], b, _ => by cases sb <;> cases b <;> rfl
  | [], _, _ :: _, _, h => by cases h
  | _ :: _, _, [], _, h => by cases h
  | s :: sa, sb, x :: a, b, h => by
    have h : sa.length = a.length := Nat.succ.inj h
    show limbD s x.d :: Ex.ls (sa ++ sb) (a ++ b) = _
    rw [ls_app h]
    rfl
theorem sgS_ne (b : Bool) : sgS b ≠ "(" ∧ (sgS b = "+" ∨ sgS b = "-") := by cases b <;> decide +kernel
theorem sgK_of (b : Bool) : (if (sgS b == "+") = true then (D.str "plus") else D.str "minus") = .str (sgK b) := by cases b <;> decide +kernel
theorem Nd.limb {h : Nat} {b : Bool} {d e : D} {f l : Int} (a : Nd h d e) : Nd (h + 1) (nodeD (.tup [.str (sgK b)]) [.tup [d]] f l) (limbD b e) := Nd.mk1 (Nds.one a)
/-- a term and what is added to it -/
def sumE (y : Ex) (ss : List Bool) (es : List Ex) : Ex := if es = [] then y else .sum y ss es
theorem atI_last {ds : List D} {d : D} (n : Nat) : atI (ds ++ [d]) (-1) = some d := by
  unfold atI
  have e : ixN (ds ++ [d]).length (-1) = some ds.length := by
    unfold ixN
    rw [if_neg (by decide), List.length_append, List.length_singleton]
    rw [if_pos (by omega)]
    congr 1
    omega
  rw [e]
  simp
theorem sum_ok {rf t : F} {y : Ex} {ss : List Bool} {es : List Ex} (hy : TermOk t y) (hes : ∀ z ∈ es, TermOk t z) :
    ReadOk (g_Reader_expression t g_node_of nW (gTake rf)) [] Stop (fun ts => ∃ u v, ts = u ++ v ∧ y.tk u ∧ Ex.tss ss es v) (fun d => Nd (sumE y ss es).ht d (sumE y ss es).d) := by
  intro a wl wds W rows i S ts rest Q h hw hW hd hk hst q
  obtain ⟨u, v, hts, hku, hkv⟩ := hk
  have sl : ∀ n : Nat, n ≤ 200 → n ≤ sizeLine := fun n h => by rw [sizeLine_eq]; omega
  have htl : ts.length ≤ W.length := by
    have := congrArg List.length hd
    rw [List.length_drop, List.length_append] at this
    omega
  have hvl : v.length ≤ ts.length := by rw [hts, List.length_append]; omega
  have hwl : wl < S.length := (List.getElem?_eq_some_iff.mp h.ws).1
  have hal := h.lt
  obtain ⟨hel, hsl⟩ := tss_len hkv
  have hd0 : W.drop i = u ++ (v ++ rest) := by rw [hd, hts, List.append_assoc]
  -- what follows a term is no bracket
  have nob : ∀ {st : List Bool} {et : List Ex} {v' : List Str}, Ex.tss st et v' → (v' ++ rest).head? ≠ some ("(" : Str) := by
    intro st et v' hv'
    cases et with
    | nil =>
      have hv' : st = [] ∧ v' = [] := by cases st <;> exact hv'
      rw [hv'.2]
      exact hst.1
    | cons z et =>
      cases st with
      | nil => exact hv'.elim
      | cons b st =>
        obtain ⟨_, u', v'', rfl, _⟩ := hv'
        intro e
        injection e with e
        exact (sgS_ne b).1 e
  unfold g_Reader_expression
  refine w_def rfl ?_
  rw [s_seq, s_set]
  simp only [w_meth, w_cons, w_nil, w_var, List.map_cons, List.map_nil, List.length_cons, List.length_nil, List.cons_append, List.nil_append, List.getElem?_cons_zero, List.getElem?_cons_succ, List.set_cons_zero, List.set_cons_succ, List.reduceReplicate, Nat.reduceAdd, Nat.reduceSub]
  refine ⟨a, _, insD_of h.at_, look_meth (by decide +kernel), ?_⟩
  refine hy a wl wds W rows i S u (v ++ rest) _ h hw hW hd0 hku (nob hkv) fun d0 S0 x0 h0 n0 => ?_
  obtain ⟨lab0, lots0, f0, l0, hd0e⟩ := n0.shape
  have hd1 := drop_app hd0
  have h4 : ∀ {S : Sto} {Q : D → Sto → Prop}, Q (.int f0) S → (fIx d0 (.int 2) S).wp Q := fun {S Q} hq => by
    rw [hd0e, w_ixT]
    exact ⟨_, rfl, hq⟩
  have h5 : ∀ {S : Sto} {Q : D → Sto → Prop}, Q (.int l0) S → (fIx d0 (.int 3) S).wp Q := fun {S Q} hq => by
    rw [hd0e, w_ixT]
    exact ⟨_, rfl, hq⟩
  rw [s_seq, s_set]
  simp only [w_lst, w_cb, w_tup, w_bin, w_cons, w_nil, w_var, w_c, List.getElem?_cons_zero, List.getElem?_cons_succ, List.set_cons_zero, List.set_cons_succ]
  refine ⟨sl _ (by simp), sl _ (by simp), sl _ (by simp), h4 (h5 (node_w ⟨sl _ (by simp), ?_⟩))⟩
  have hx0 := x0.1
  rw [s_seq, s_while]
  obtain ⟨h, hh⟩ : ∃ h, h = max y.ht (Ex.hts es) := ⟨_, rfl⟩
  refine while_wp (fun k ρ S' => ∃ (sd st : List Bool) (ed et : List Ex) (ns : List D) (j : Nat) (v' : List Str) (w3 w4 w5 : Option D), ss = sd ++ st ∧ es = ed ++ et ∧ sd.length = ed.length ∧ et.length = k ∧ ρ = [some (.ref a), some d0, some (.ref S0.length), w3, w4, w5] ∧ Rdr a wl wds rows j S' ∧ W.drop j = v' ++ rest ∧ Ex.tss st et v' ∧ Ext a S0 S' ∧ S'[S0.length]? = some (.lst ns) ∧ Nds (h + 1) ns (limbD true y.d :: Ex.ls sd ed) ∧ j + v'.length = i + ts.length ∧ ns.length = ed.length + 1 ∧ (∃ l lab lots f e, ns = l ++ [.tup [lab, lots, .int f, .int e]])) (fun k ρ S' => ?_) wN es.length _ _ (by rw [wN_eq]; omega)
    ⟨[], ss, [], es, [_], _, v, _, _, _, rfl, rfl, rfl, rfl, rfl, h0.app _, hd1, hkv, (Ext.refl a S0).app _, List.getElem?_concat_length, Nds.one (Nd.limb (b := true) (n0.le (h' := h) (by omega))), by rw [hts, List.length_append]; omega, rfl, ⟨[], _, _, _, _, rfl⟩⟩
  rintro ⟨sd, st, ed, et, ns, j, v', w3, w4, w5, hss, hes', hse, htk, rfl, hj, hdj, hv', x, hn, hnd, hjv, hnl, hlast⟩
  simp only [w_val, w_bin, w_meth, w_tup, w_cons, w_nil, w_var, w_c, List.getElem?_cons_zero, List.getElem?_cons_succ]
  refine ⟨a, _, insD_of hj.at_, look_meth (by decide +kernel), ?_⟩
  refine next_wp hj hw ⟨sl _ (by simp), ?_⟩
  refine (w_in (inW_tup (d := .str (nxt W j)) trivial ["+", "-"])).mpr ⟨_, rfl, ?_⟩
  rw [isIn_two]
  have hnle : ns.length ≤ 1000001 := by
    have := congrArg List.length hes'
    rw [List.length_append] at this
    omega
  cases et with
  | nil =>
    have hv' : st = [] ∧ v' = [] := by cases st <;> exact hv'
    obtain ⟨rfl, rfl⟩ := hv'
    rw [List.append_nil] at hss hes'
    have hdj : W.drop j = rest := hdj
    have m1 : ¬ nxt W j = "+" := fun z => hst.2.1 ((hd_nxt hdj (by decide +kernel)).mpr z)
    have m2 : ¬ nxt W j = "-" := fun z => hst.2.2 ((hd_nxt hdj (by decide +kernel)).mpr z)
    rw [decide_eq_false m1, decide_eq_false m2, if_neg (by decide), s_ret]
    simp only [w_if, w_val, w_bin, w_un, w_cb, w_cons, w_nil, w_var, w_c, w_tup, List.getElem?_cons_zero, List.getElem?_cons_succ]
    rw [w_lenL hn, w_eq eqN_int]
    refine ⟨_, rfl, ?_⟩
    have hj' : i + ts.length = j := by rw [← hjv]; rfl
    subst hss hes'
    by_cases hz : es = []
    · subst hz
      rw [if_pos (by rw [hnl]; decide)]
      exact q d0 S' (x0.trans x) (by rw [hj']; exact hj) n0
    · have hp : 0 < es.length := List.length_pos_iff.mpr hz
      rw [if_neg (by rw [beq_iff_eq, hnl]; omega)]
      refine ⟨sl _ (by simp), ?_⟩
      rw [w_tupL hn]
      refine ⟨sl _ (by simp), h4 ?_⟩
      show Res.wp (fIx (.ref S0.length) (.int (-1)) S') _
      obtain ⟨l, lab, lots, f, e, hl⟩ := hlast
      rw [w_ixL hn]
      refine ⟨.tup [lab, lots, .int f, .int e], by rw [hl]; exact atI_last 0, ?_⟩
      rw [w_ixT]
      refine ⟨.int e, rfl, node_w ?_⟩
      refine q _ S' (x0.trans x) (by rw [hj']; exact hj) ?_
      unfold sumE
      rw [if_neg hz]
      rw [hh] at hnd
      exact Nd.mk1 hnd
  | cons z tl =>
    cases st with
    | nil => exact hv'.elim
    | cons b st =>
      obtain ⟨hzt, u', v'', hve, hzu, hrs⟩ := hv'
      rw [hve] at hdj
      have hdj : W.drop j = sgS b :: (u' ++ (v'' ++ rest)) := by rw [hdj, List.cons_append, List.append_assoc]
      obtain ⟨hx, hdj1⟩ := drop_hd hdj
      have hdj2 := drop_app hdj1
      have htr : (decide (nxt W j = "+") || decide (nxt W j = "-")) = true := by
        rw [hx]
        rcases (sgS_ne b).2 with z | z <;> rw [z] <;> decide +kernel
      rw [htr, if_pos rfl, s_seq, s_set]
      simp only [w_if, w_val, w_bin, w_meth, w_cons, w_nil, w_var, w_c, List.getElem?_cons_zero, List.getElem?_cons_succ, List.set_cons_zero, List.set_cons_succ]
      refine ⟨a, _, insD_of hj.at_, look_meth (by decide +kernel), ?_⟩
      refine next_wp hj hw ?_
      rw [w_eq eqN_str]
      refine ⟨_, rfl, ?_⟩
      rw [hx]
      -- the kind
      suffices core : ((sSeq (sSet 4 (mMeth "Reader" "take" (gTake rf) (mVar 0) (aCons (mMeth "Reader" "next_word" nW (mVar 0) aNil) aNil)))
          (sSeq (sSet 5 (mMeth "Reader" "term" t (mVar 0) aNil))
          (sDrop (mMt "list" fAppend (mVar 2) (aCons (mCB g_node_of (aCons (mTup (aCons (mVar 3) aNil)) (aCons (mTup (aCons (mTup (aCons (mVar 5) aNil)) aNil)) (aCons (mVar 4) (aCons (mBin fIx (mVar 5) (mC (.int 3))) aNil))))) aNil))))) [some (.ref a), some d0, some (.ref S0.length), some (.str (sgK b)), w4, w5] S').wp (fun ρ2 S2 => ∃ j', j' < k ∧ ∃ (sd st : List Bool) (ed et : List Ex) (ns : List D) (j : Nat) (v' : List Str) (w3 w4 w5 : Option D), ss = sd ++ st ∧ es = ed ++ et ∧ sd.length = ed.length ∧ et.length = j' ∧ ρ2 = [some (.ref a), some d0, some (.ref S0.length), w3, w4, w5] ∧ Rdr a wl wds rows j S2 ∧ W.drop j = v' ++ rest ∧ Ex.tss st et v' ∧ Ext a S0 S2 ∧ S2[S0.length]? = some (.lst ns) ∧ Nds (h + 1) ns (limbD true y.d :: Ex.ls sd ed) ∧ j + v'.length = i + ts.length ∧ ns.length = ed.length + 1 ∧ (∃ l lab lots f e, ns = l ++ [.tup [lab, lots, .int f, .int e]])) Q by
        have hb := sgK_of b
        by_cases hz : (sgS b == "+") = true
        · rw [if_pos hz] at hb ⊢
          rw [hb]
          exact core
        · rw [if_neg hz] at hb ⊢
          rw [hb]
          exact core
      rw [s_seq, s_set]
      simp only [w_meth, w_cons, w_nil, w_var, List.getElem?_cons_zero, List.getElem?_cons_succ, List.set_cons_zero, List.set_cons_succ]
      refine ⟨a, _, insD_of hj.at_, look_meth (by decide +kernel), a, _, insD_of hj.at_, look_meth (by decide +kernel), ?_⟩
      refine next_wp hj hw ?_
      refine take_wd hj hw rfl ?_
      rw [s_seq, s_set]
      simp only [w_meth, w_cons, w_nil, w_var, List.getElem?_cons_zero, List.getElem?_cons_succ, List.set_cons_zero, List.set_cons_succ]
      refine ⟨a, _, insD_of hj.step.at_, look_meth (by decide +kernel), ?_⟩
      have hmem : z ∈ es := by rw [hes']; exact List.mem_append_right _ List.mem_cons_self
      refine hes z hmem a wl wds W rows (j + 1) _ u' (v'' ++ rest) _ hj.step hw hW hdj1 hzu (nob hrs) fun d S1 x1 h1 n1 => ?_
      obtain ⟨lab, lots, f, l, hde⟩ := n1.shape
      have hnp : S0.length ≠ a := by omega
      have hn1 := x1.at_ (hj.stepX.at_ hn hnp) hnp
      have hl1 : S0.length < S1.length := (List.getElem?_eq_some_iff.mp hn1).1
      rw [s_drop]
      simp only [w_mt, w_cb, w_tup, w_bin, w_cons, w_nil, w_var, w_c, List.getElem?_cons_zero, List.getElem?_cons_succ]
      refine ⟨by show kOb S1[S0.length]? = "list"; rw [hn1]; rfl, sl _ (by simp), sl _ (by simp), sl _ (by simp), ?_⟩
      have n1' := n1
      rw [hde]
      rw [hde] at n1'
      rw [w_ixT]
      refine ⟨.int l, rfl, node_w ?_⟩
      rw [w_app hn1]
      refine ⟨by rw [sizeLine_eq]; omega, ?_⟩
      have hnw : wl ≠ S0.length := by omega
      rw [List.length_cons] at htk
      refine ⟨tl.length, by omega, sd ++ [b], st, ed ++ [z], tl, _, _, v'', _, _, _, by rw [hss, List.append_assoc]; rfl, by rw [hes', List.append_assoc]; rfl, by rw [List.length_append, List.length_append, hse]; rfl, rfl, rfl, h1.set (by omega) (by omega) _, hdj2, hrs, ((x.trans hj.stepX).trans x1).set (Nat.le_refl _) _, List.getElem?_set_self hl1, ?_, ?_, ?_, ⟨ns, _, _, _, _, rfl⟩⟩
      · rw [ls_app hse]
        show Nds (h + 1) (ns ++ [_]) ((limbD true y.d :: Ex.ls sd ed) ++ [limbD b z.d])
        have hzh := hts_mem hmem
        exact hnd.snoc (Nd.limb (n1'.le (h' := h) (by omega)))
      · rw [hve, List.length_cons, List.length_append] at hjv
        omega
      · rw [List.length_append, List.length_append, hnl]
        rfl
/-- the defs that read expressions, by how deep they may call -/
structure RdFam (T E L : Nat → F) (rf : Nat → F) : Prop where
  t : ∀ k, 3 ≤ k → T (k + 1) = gTerm (gTake (rf k)) (E k) (L k) (gTakeN (rf k))
  e : ∀ k, 3 ≤ k → E (k + 1) = g_Reader_expression (T k) g_node_of nW (gTake (rf k))
  l : ∀ k, 3 ≤ k → L (k + 1) = g_Reader_expressions nW (E k) (gTake (rf k))
theorem ht_pos : ∀ x : Ex, 1 ≤ x.ht
  | .nam _ => Nat.le_refl _
  | .num _ => Nat.le_refl _
  | .call _ _ => Nat.succ_le_succ (Nat.zero_le _)
  | .lst _ => Nat.succ_le_succ (Nat.zero_le _)
  | .inn _ => Nat.succ_le_succ (Nat.zero_le _)
  | .sum _ _ _ => Nat.succ_le_succ (Nat.zero_le _)
theorem RdFam.all {T E L rf : Nat → F} (f : RdFam T E L rf) : ∀ n, (∀ (x : Ex) (k : Nat), x.ht ≤ n → x.isTerm = true → 3 * n + 4 ≤ k → TermOk (T k) x) ∧ (∀ (x : Ex) (k : Nat), x.ht ≤ n → 3 * n + 5 ≤ k → ExprOk (E k) x) ∧ (∀ (es : List Ex) (cl : Str) (k : Nat), Ex.hts es ≤ n → (cl = ")" ∨ cl = "]") → 3 * n + 6 ≤ k → ExprsOk (L k) es cl) := by
  have lists : ∀ n, (∀ (x : Ex) (k : Nat), x.ht ≤ n → 3 * n + 5 ≤ k → ExprOk (E k) x) → (∀ (es : List Ex) (cl : Str) (k : Nat), Ex.hts es ≤ n → (cl = ")" ∨ cl = "]") → 3 * n + 6 ≤ k → ExprsOk (L k) es cl) := fun n he es cl k hn hcl hk => by
    obtain ⟨m, rfl⟩ : ∃ m, k = m + 1 := ⟨k - 1, by omega⟩
    rw [f.l m (by omega)]
    exact exprs_ok hcl fun y hy => he y m (Nat.le_trans (hts_mem hy) hn) (by omega)
  have exprs : ∀ n, (∀ (x : Ex) (k : Nat), x.ht ≤ n → x.isTerm = true → 3 * n + 4 ≤ k → TermOk (T k) x) → (∀ (x : Ex) (k : Nat), x.ht ≤ n → 3 * n + 5 ≤ k → ExprOk (E k) x) := fun n ht x k hn hk => by
    obtain ⟨m, rfl⟩ : ∃ m, k = m + 1 := ⟨k - 1, by omega⟩
    rw [f.e m (by omega)]
    have one : x.isTerm = true → ExprOk (g_Reader_expression (T m) g_node_of nW (gTake (rf m))) x := fun hx a wl wds W rows i S ts rest Q h hw hW hd hk hst q =>
      sum_ok (y := x) (ss := []) (es := []) (ht x m hn hx (by omega)) (fun z hz => by cases hz) a wl wds W rows i S ts rest Q h hw hW hd ⟨ts, [], by rw [List.append_nil], hk, rfl, rfl⟩ hst q
    cases x with
    | sum y ss es =>
      intro a wl wds W rows i S ts rest Q h hw hW hd hk' hst q
      obtain ⟨hy, hss, u, v, h1, h2, h3⟩ := hk'
      have hn : max y.ht (Ex.hts es) + 2 ≤ n := hn
      have hes : es ≠ [] := fun z => by
        subst z
        have := (tss_len h3).2
        cases ss with
        | nil => exact hss rfl
        | cons _ _ => cases this
      have esT : ∀ {ss : List Bool} {es : List Ex} {v : List Str}, Ex.tss ss es v → ∀ z ∈ es, z.isTerm = true := by
        intro ss es
        induction es generalizing ss with
        | nil => intro v _ z hz; cases hz
        | cons w es ih =>
          intro v h z hz
          cases ss with
          | nil => exact h.elim
          | cons b ss =>
            obtain ⟨hw, u, v', _, _, h'⟩ := h
            rcases List.mem_cons.mp hz with rfl | hz
            · exact hw
            · exact ih h' z hz
      have := sum_ok (rf := rf m) (y := y) (ss := ss) (es := es) (ht y m (by omega) hy (by omega)) (fun z hz => ht z m (by have := hts_mem hz; omega) (esT h3 z hz) (by omega)) a wl wds W rows i S ts rest Q h hw hW hd ⟨u, v, h1, h2, h3⟩ hst
      unfold sumE at this
      rw [if_neg hes] at this
      exact this q
    | nam _ => exact one rfl
    | num _ => exact one rfl
    | call _ _ => exact one rfl
    | lst _ => exact one rfl
    | inn _ => exact one rfl
  intro n
  induction n with
  | zero =>
    have t0 : ∀ (x : Ex) (k : Nat), x.ht ≤ 0 → x.isTerm = true → 3 * 0 + 4 ≤ k → TermOk (T k) x := fun x k h _ _ => by have := ht_pos x; omega
    exact ⟨t0, exprs 0 t0, lists 0 (exprs 0 t0)⟩
  | succ n ih =>
    obtain ⟨_, ihe, ihl⟩ := ih
    have t1 : ∀ (x : Ex) (k : Nat), x.ht ≤ n + 1 → x.isTerm = true → 3 * (n + 1) + 4 ≤ k → TermOk (T k) x := fun x k hn hx hk => by
      obtain ⟨m, rfl⟩ : ∃ m, k = m + 1 := ⟨k - 1, by omega⟩
      rw [f.t m (by omega)]
      refine term_ok hx (fun y hy => ?_) (fun y ys hy => ?_) (fun ys hy => ?_)
      · subst hy
        have hn : y.ht + 1 ≤ n + 1 := hn
        exact ihe y m (by omega) (by omega)
      · subst hy
        have hn : Ex.hts ys + 1 ≤ n + 1 := hn
        exact ihl ys _ m (by omega) (.inl rfl) (by omega)
      · subst hy
        have hn : Ex.hts ys + 1 ≤ n + 1 := hn
        exact ihl ys _ m (by omega) (.inr rfl) (by omega)
    exact ⟨t1, exprs _ t1, lists _ (exprs _ t1)⟩
end Mn
set_option Elab.async false
set_option linter.all false
set_option maxRecDepth 100000
set_option maxHeartbeats 4000000
namespace Mn
open PySem PySem.Spec PyProof.Rows L2
inductive St where
  | set (x : Str) (e : Ex)
  | run (x : Str) (es : List Ex)
  | give (e : Ex)
  | note (x : Str)
  | loop (e : Ex) (b : List St)
  | iff (e : Ex) (b : List St) (o : Bool) (c : List St)
def elseD (ds : List D) : D := .tup [.tup [.str "else"], .tup [.tup ds]]
mutual
def St.d : St → D
  | .set x e => .tup [.tup [.str "set", .str x], .tup [.tup [e.d]]]
  | .run x es => .tup [.tup [.str "run", .str x], .tup [.tup (Ex.ds es)]]
  | .give e => .tup [.tup [.str "give"], .tup [.tup [e.d]]]
  | .note x => .tup [.tup [.str "note", .str x], .tup []]
  | .loop e b => .tup [.tup [.str "loop"], .tup [.tup [e.d], .tup (St.ds b)]]
  | .iff e b o c => .tup [.tup [.str "if"], .tup [.tup [e.d], .tup (St.ds b), .tup (if o = true then [elseD (St.ds c)] else [])]]
def St.ds : List St → List D
  | [] => []
  | s :: ss => s.d :: St.ds ss
end
/-- w is a word that notes x -/
def NoteW (w x : Str) : Prop := (∃ r, w.cps.toList = 35 :: r) ∧ Txt.stripChars (L2.cutS w (some 1) none) " " = x ∧ noteB x = true ∧ w.length < 1000000
mutual
def St.tk : St → List Str → Prop
  | .set x e, ts => nameB x = true ∧ ∃ u : List Str, ts = x :: ("=" : Str) :: (u ++ [(";" : Str)]) ∧ e.tk u
  | .run x es, ts => nameB x = true ∧ ∃ u : List Str, ts = x :: ("(" : Str) :: (u ++ [(")" : Str), (";" : Str)]) ∧ Ex.tks es u
  | .give e, ts => ∃ u : List Str, ts = ("give" : Str) :: (u ++ [(";" : Str)]) ∧ e.tk u
  | .note x, ts => ∃ w : Str, ts = [w] ∧ NoteW w x
  | .loop e b, ts => ∃ u v : List Str, ts = ("loop" : Str) :: (u ++ ("{" : Str) :: (v ++ [("}" : Str)])) ∧ e.tk u ∧ St.tks b v
  | .iff e b o c, ts => ∃ u v w : List Str, ts = ("if" : Str) :: (u ++ ("{" : Str) :: (v ++ ("}" : Str) :: w)) ∧ e.tk u ∧ St.tks b v ∧ ((o = false ∧ c = [] ∧ w = []) ∨ (o = true ∧ ∃ z : List Str, w = ("else" : Str) :: ("{" : Str) :: (z ++ [("}" : Str)]) ∧ St.tks c z))
def St.tks : List St → List Str → Prop
  | [], ts => ts = []
  | s :: ss, ts => ∃ u v : List Str, ts = u ++ v ∧ s.tk u ∧ St.tks ss v
end
mutual
def St.ht : St → Nat
  | .set _ e => e.ht + 1
  | .run _ es => Ex.hts es + 1
  | .give e => e.ht + 1
  | .note _ => 1
  | .loop e b => max e.ht (St.hts b) + 1
  | .iff e b _ c => max (max e.ht (St.hts b)) (St.hts c + 1) + 1
def St.hts : List St → Nat
  | [] => 0
  | s :: ss => max s.ht (St.hts ss)
end
theorem sds_app : ∀ (a b : List St), St.ds (a ++ b) = St.ds a ++ St.ds b
  | [], _ => rfl
  | x :: a, b => by
    show x.d :: St.ds (a ++ b) = _
    rw [sds_app a b]
    rfl
theorem shts_mem : ∀ {es : List St} {x : St}, x ∈ es → x.ht ≤ St.hts es
  | [], _, h => by cases h
  | y :: es, x, h => by
    rcases List.mem_cons.mp h with rfl | h
    · exact Nat.le_max_left _ _
    · exact Nat.le_trans (shts_mem h) (Nat.le_max_right _ _)
/-- a word with which a statement begins -/
def Fst2 (t : Str) : Prop := nameB t = true ∨ t = "give" ∨ t = "loop" ∨ t = "if" ∨ ∃ r, t.cps.toList = 35 :: r
theorem Fst2.ne {t : Str} (h : Fst2 t) : t ≠ "" ∧ t ≠ "}" ∧ t ≠ "else" := by
  have key : ([("" : Str), "}", "else"] : List Str).all (fun t => !(nameB t) && (!(decide (t = "give")) && (!(decide (t = "loop")) && (!(decide (t = "if")) && !(decide (t.cps.toList.head? = some 35)))))) = true := by decide +kernel
  have each : ∀ z ∈ ([("" : Str), "}", "else"] : List Str), t ≠ z := by
    intro z hz e
    have := List.all_eq_true.mp key z hz
    rw [← e, Bool.and_eq_true, Bool.and_eq_true, Bool.and_eq_true, Bool.and_eq_true] at this
    obtain ⟨h1, h2, h3, h4, h5⟩ := this
    rcases h with h | h | h | h | ⟨r, h⟩
    · rw [h] at h1; cases h1
    · rw [decide_eq_true h] at h2; cases h2
    · rw [decide_eq_true h] at h3; cases h3
    · rw [decide_eq_true h] at h4; cases h4
    · rw [h] at h5; cases h5
  exact ⟨each _ (by simp), each _ (by simp), each _ (by simp)⟩
theorem stk_fst : ∀ {s : St} {ts : List Str}, s.tk ts → ∃ t r, ts = t :: r ∧ Fst2 t
  | .set x e, ts, h => by
    obtain ⟨h1, u, h2, _⟩ := h
    exact ⟨x, _, h2, .inl h1⟩
  | .run x es, ts, h => by
    obtain ⟨h1, u, h2, _⟩ := h
    exact ⟨x, _, h2, .inl h1⟩
  | .give e, ts, h => by
    obtain ⟨u, h2, _⟩ := h
    exact ⟨_, _, h2, .inr (.inl rfl)⟩
  | .note x, ts, h => by
    obtain ⟨w, h2, h3⟩ := h
    exact ⟨w, [], h2, .inr (.inr (.inr (.inr h3.1)))⟩
  | .loop e b, ts, h => by
    obtain ⟨u, v, h2, _⟩ := h
    exact ⟨_, _, h2, .inr (.inr (.inl rfl))⟩
  | .iff e b o c, ts, h => by
    obtain ⟨u, v, w, h2, _⟩ := h
    exact ⟨_, _, h2, .inr (.inr (.inr (.inl rfl)))⟩
theorem stks_len : ∀ {ss : List St} {ts : List Str}, St.tks ss ts → ss.length ≤ ts.length
  | [], _, _ => Nat.zero_le _
  | s :: ss, ts, h => by
    obtain ⟨u, v, h1, h2, h3⟩ := h
    obtain ⟨t, r, h4, _⟩ := stk_fst h2
    have := stks_len h3
    rw [h1, h4, List.length_append, List.length_cons, List.length_cons]
    omega
abbrev StmtOk (f : F) (s : St) : Prop := ReadOk f [] (fun r => r.head? ≠ some ("else" : Str)) s.tk (fun d => Nd s.ht d s.d)
def EndB (r : List Str) : Prop := r = [] ∨ r.head? = some ("}" : Str)
abbrev StmtsOk (f : F) (ss : List St) : Prop := ReadOk f [] EndB (St.tks ss) (fun d => ∃ ns, d = .tup ns ∧ Nds (St.hts ss) ns (St.ds ss))
/-- a block with its braces -/
abbrev BlockOk (f : F) (ss : List St) : Prop := ReadOk f [] (fun _ => True) (fun ts => ∃ v : List Str, ts = ("{" : Str) :: (v ++ [("}" : Str)]) ∧ St.tks ss v) (fun d => ∃ ns l, d = .tup [.tup ns, .int l] ∧ Nds (St.hts ss) ns (St.ds ss))
theorem stmts_ok {f : F} {ss : List St} (he : ∀ y ∈ ss, StmtOk f y) : StmtsOk (g_Reader_statements nW f) ss := by
  intro a wl wds W rows i S ts rest Q h hw hW hd hk hst q
  have sl : ∀ n : Nat, n ≤ 200 → n ≤ sizeLine := fun n h => by rw [sizeLine_eq]; omega
  unfold g_Reader_statements
  refine w_def rfl ?_
  rw [s_seq, s_set]
  simp only [w_lst, w_nil, List.map_cons, List.map_nil, List.length_cons, List.length_nil, List.cons_append, List.nil_append, List.set_cons_zero, List.set_cons_succ, List.reduceReplicate, Nat.reduceAdd, Nat.reduceSub]
  refine ⟨sl _ (by decide), ?_⟩
  rw [s_seq, s_while]
  have hlen := stks_len hk
  have htl : ts.length ≤ W.length := by
    have := congrArg List.length hd
    rw [List.length_drop, List.length_append] at this
    omega
  have hwl : wl < S.length := (List.getElem?_eq_some_iff.mp h.ws).1
  have hal := h.lt
  refine while_wp (fun k ρ S' => ∃ (done todo : List St) (ns : List D) (j : Nat) (v : List Str), ss = done ++ todo ∧ todo.length = k ∧ ρ = [some (.ref a), some (.ref S.length)] ∧ Rdr a wl wds rows j S' ∧ W.drop j = v ++ rest ∧ St.tks todo v ∧ Ext a S S' ∧ S'[S.length]? = some (.lst ns) ∧ Nds (St.hts ss) ns (St.ds done) ∧ j + v.length = i + ts.length ∧ ns.length = done.length) (fun k ρ S' => ?_) wN ss.length _ _ (by rw [wN_eq]; omega)
    ⟨[], ss, [], i, ts, rfl, rfl, rfl, h.app _, hd, hk, (Ext.refl a S).app _, List.getElem?_concat_length, Nds.nil, rfl, rfl⟩
  rintro ⟨done, todo, ns, j, v, hes, htk, rfl, hj, hdj, hv, x, hn, hnd, hjv, hnl⟩
  simp only [w_val, w_bin, w_meth, w_tup, w_cons, w_nil, w_var, w_c, List.getElem?_cons_zero, List.getElem?_cons_succ]
  refine ⟨a, _, insD_of hj.at_, look_meth (by decide +kernel), ?_⟩
  refine next_wp hj hw ⟨sl _ (by simp), ?_⟩
  refine (w_notIn (inW_tup (d := .str (nxt W j)) trivial ["", "}"])).mpr ⟨_, rfl, ?_⟩
  rw [isIn_two]
  have hnle : ns.length ≤ 1000000 := by
    have := congrArg List.length hes
    rw [List.length_append] at this
    omega
  cases todo with
  | nil =>
    have hv : v = [] := hv
    subst hv
    have hnx : (decide (nxt W j = "") || decide (nxt W j = "}")) = true := by
      rcases hst with hr | hr
      · rw [drop_nil (by rw [hdj, hr]; rfl)]
        rfl
      · have : nxt W j = "}" := (hd_nxt (W := W) (i := j) (r := rest) hdj (by decide +kernel)).mp hr
        rw [this]
        decide +kernel
    rw [hnx, if_neg (by decide), s_ret]
    simp only [w_cb, w_cons, w_nil, w_var, List.getElem?_cons_zero, List.getElem?_cons_succ]
    rw [w_tupL hn]
    rw [List.append_nil] at hes
    refine q _ S' x ?_ ⟨ns, rfl, by rw [hes] at hnd ⊢; exact hnd⟩
    rw [show i + ts.length = j by rw [← hjv]; rfl]
    exact hj
  | cons y t =>
    obtain ⟨u, v', hvu, hyu, hrs⟩ := hv
    obtain ⟨t0, r0, hu0, hf0⟩ := stk_fst hyu
    have hdj1 : W.drop j = u ++ (v' ++ rest) := by rw [hdj, hvu, List.append_assoc]
    have hnx : nxt W j = t0 := (drop_hd (by rw [hdj1, hu0]; rfl)).1
    rw [hnx, decide_eq_false hf0.ne.1, decide_eq_false hf0.ne.2.1, if_pos (by decide), s_drop]
    simp only [w_mt, w_meth, w_cons, w_nil, w_var, List.getElem?_cons_zero, List.getElem?_cons_succ]
    refine ⟨by show kOb S'[S.length]? = "list"; rw [hn]; rfl, a, _, insD_of hj.at_, look_meth (by decide +kernel), ?_⟩
    have hmem : y ∈ ss := by rw [hes]; exact List.mem_append_right _ List.mem_cons_self
    have hstop : (v' ++ rest).head? ≠ some ("else" : Str) := by
      cases t with
      | nil =>
        have hrs : v' = [] := hrs
        subst hrs
        intro z
        have z : rest.head? = some ("else" : Str) := z
        rcases hst with hr | hr
        · rw [hr] at z; cases z
        · rw [hr] at z
          injection z with z
          exact absurd z (by decide +kernel)
      | cons y2 t2 =>
        obtain ⟨u2, v2, hv2, hy2, _⟩ := hrs
        obtain ⟨t3, r3, hu3, hf3⟩ := stk_fst hy2
        rw [hv2, hu3]
        intro z
        injection z with z
        exact hf3.ne.2.2 z
    refine he y hmem a wl wds W rows j S' u (v' ++ rest) _ hj hw hW hdj1 hyu hstop fun d S1 x1 h1 n1 => ?_
    have hn1 := x1.at_ hn (by omega)
    have hl1 : S.length < S1.length := (List.getElem?_eq_some_iff.mp hn1).1
    rw [w_app hn1]
    refine ⟨by rw [sizeLine_eq]; omega, ?_⟩
    rw [List.length_cons] at htk
    refine ⟨t.length, by omega, done ++ [y], t, ns ++ [d], _, v', by rw [hes, List.append_assoc]; rfl, rfl, by first | rfl | trivial, h1.set (by omega) (by omega) _, drop_app hdj1, hrs, (x.trans x1).set (Nat.le_refl _) _, List.getElem?_set_self hl1, ?_, ?_, ?_⟩
    · rw [sds_app]
      exact hnd.snoc (n1.le (shts_mem hmem))
    · rw [hvu, List.length_append] at hjv
      omega
    · rw [List.length_append, List.length_append, hnl]
      rfl
theorem block_ok {rf f : F} {ss : List St} (hs : StmtsOk f ss) : BlockOk (g_Reader_block (gTake rf) f) ss := by
  intro a wl wds W rows i S ts rest Q h hw hW hd hk hst q
  obtain ⟨v, hts, hv⟩ := hk
  have sl : ∀ n : Nat, n ≤ 200 → n ≤ sizeLine := fun n h => by rw [sizeLine_eq]; omega
  have hd0 : W.drop i = ("{" : Str) :: (v ++ ([("}" : Str)] ++ rest)) := by rw [hd, hts, List.cons_append, List.append_assoc]
  obtain ⟨hx, hd1⟩ := drop_hd hd0
  unfold g_Reader_block
  refine w_def rfl ?_
  rw [s_seq, s_drop]
  simp only [w_meth, w_cons, w_nil, w_var, w_c, List.map_cons, List.map_nil, List.length_cons, List.length_nil, List.cons_append, List.nil_append, List.getElem?_cons_zero, List.getElem?_cons_succ, List.reduceReplicate, Nat.reduceAdd, Nat.reduceSub]
  refine ⟨a, _, insD_of h.at_, look_meth (by decide +kernel), ?_⟩
  refine take_wd h hw hx ?_
  rw [s_ret]
  simp only [w_tup, w_meth, w_cons, w_nil, w_var, w_c, List.getElem?_cons_zero, List.getElem?_cons_succ]
  refine ⟨a, _, insD_of h.step.at_, look_meth (by decide +kernel), ?_⟩
  refine hs a wl wds W rows (i + 1) _ v ([("}" : Str)] ++ rest) _ h.step hw hW hd1 hv (.inr rfl) fun d S1 x1 h1 n1 => ?_
  obtain ⟨ns, rfl, n1⟩ := n1
  refine ⟨a, _, insD_of h1.at_, look_meth (by decide +kernel), ?_⟩
  refine take_wd h1 hw (drop_hd (drop_app hd1)).1 ⟨sl _ (by simp), ?_⟩
  refine q _ _ ((h.stepX.trans x1).trans h1.stepX) ?_ ⟨ns, _, rfl, n1⟩
  have := h1.step
  rw [hts, List.length_cons, List.length_append, List.length_singleton, show i + (v.length + 1 + 1) = i + 1 + v.length + 1 by omega]
  exact this
theorem giving_ok {rf e : F} {x : Ex} (he : ExprOk e x) : ReadOk (g_Reader_giving (gTake rf) e g_node_of) [] (fun _ => True) (St.give x).tk (fun d => Nd (St.give x).ht d (St.give x).d) := by
  intro a wl wds W rows i S ts rest Q h hw hW hd hk hst q
  obtain ⟨u, hts, hu⟩ := hk
  have sl : ∀ n : Nat, n ≤ 200 → n ≤ sizeLine := fun n h => by rw [sizeLine_eq]; omega
  have hd0 : W.drop i = ("give" : Str) :: (u ++ ([(";" : Str)] ++ rest)) := by rw [hd, hts, List.cons_append, List.append_assoc]
  obtain ⟨hx, hd1⟩ := drop_hd hd0
  unfold g_Reader_giving
  refine w_def rfl ?_
  rw [s_seq, s_par]
  simp only [w_meth, w_cons, w_nil, w_var, w_c, List.map_cons, List.map_nil, List.length_cons, List.length_nil, List.cons_append, List.nil_append, List.getElem?_cons_zero, List.getElem?_cons_succ, List.set_cons_zero, List.set_cons_succ, List.reduceReplicate, Nat.reduceAdd, Nat.reduceSub]
  refine ⟨a, _, insD_of h.at_, look_meth (by decide +kernel), ?_⟩
  refine take_wd h hw hx ?_
  refine ⟨a, _, insD_of h.step.at_, look_meth (by decide +kernel), ?_⟩
  refine he a wl wds W rows (i + 1) _ u ([(";" : Str)] ++ rest) _ h.step hw hW hd1 hu (stop_cons (by decide +kernel)) fun d S1 x1 h1 n1 => ⟨_, _, rfl, ?_⟩
  rw [s_ret]
  simp only [w_cb, w_cons, w_nil, w_var, w_c, w_tup, w_meth, List.getElem?_cons_zero, List.getElem?_cons_succ, List.set_cons_zero, List.set_cons_succ]
  refine ⟨sl _ (by simp), sl _ (by simp), sl _ (by simp), a, _, insD_of h1.at_, look_meth (by decide +kernel), ?_⟩
  refine take_wd h1 hw (drop_hd (drop_app hd1)).1 (node_w ?_)
  refine q _ _ ((h.stepX.trans x1).trans h1.stepX) ?_ (Nd.mk1 (Nds.one n1))
  have := h1.step
  rw [hts, List.length_cons, List.length_append, List.length_singleton, show i + (u.length + 1 + 1) = i + 1 + u.length + 1 by omega]
  exact this
/-- set, run -/
theorem setting_ok {rf e es : F} {s : St} (hs : (∃ x y, s = .set x y ∧ ExprOk e y) ∨ ∃ x ys, s = .run x ys ∧ ExprsOk es ys ")") : ReadOk (g_Reader_setting (gTakeN rf) nW (gTake rf) e g_node_of es) [] (fun _ => True) s.tk (fun d => Nd s.ht d s.d) := by
  intro a wl wds W rows i S ts rest Q h hw hW hd hk hst q
  have sl : ∀ n : Nat, n ≤ 200 → n ≤ sizeLine := fun n h => by rw [sizeLine_eq]; omega
  unfold g_Reader_setting
  refine w_def rfl ?_
  rw [s_seq, s_par]
  simp only [w_meth, w_att, w_cons, w_nil, w_var, w_c, List.map_cons, List.map_nil, List.length_cons, List.length_nil, List.cons_append, List.nil_append, List.getElem?_cons_zero, List.getElem?_cons_succ, List.set_cons_zero, List.set_cons_succ, List.reduceReplicate, Nat.reduceAdd, Nat.reduceSub]
  refine ⟨a, _, _, insD_of h.at_, look_at, a, _, insD_of h.at_, look_meth (by decide +kernel), ?_⟩
  rcases hs with ⟨x, y, rfl, he⟩ | ⟨x, ys, rfl, he⟩
  · obtain ⟨hn, u, hts, hu⟩ := hk
    have hd0 : W.drop i = x :: ("=" : Str) :: (u ++ ([(";" : Str)] ++ rest)) := by rw [hd, hts, List.cons_append, List.cons_append, List.append_assoc]
    obtain ⟨hx, hd1⟩ := drop_hd hd0
    obtain ⟨hx1, hd2⟩ := drop_hd hd1
    refine takeName_wd h hw (by rw [hx]; exact hn) fun l => ⟨_, _, rfl, ?_⟩
    rw [hx]
    have h2 := (h.app l).step
    rw [s_seq, s_if]
    simp only [w_val, w_bin, w_meth, w_cons, w_nil, w_var, w_c, List.getElem?_cons_zero, List.getElem?_cons_succ, List.set_cons_zero, List.set_cons_succ]
    refine ⟨a, _, insD_of h2.at_, look_meth (by decide +kernel), ?_⟩
    refine next_wp h2 hw ?_
    rw [hx1, w_eq eqN_str]
    refine ⟨_, rfl, ?_⟩
    rw [if_pos (by decide +kernel), s_seq, s_drop]
    simp only [w_meth, w_cons, w_nil, w_var, w_c, List.getElem?_cons_zero, List.getElem?_cons_succ]
    refine ⟨a, _, insD_of h2.at_, look_meth (by decide +kernel), ?_⟩
    refine take_wd h2 hw hx1 ?_
    rw [s_seq, s_set]
    simp only [w_meth, w_cons, w_nil, w_var, w_c, List.getElem?_cons_zero, List.getElem?_cons_succ]
    refine ⟨a, _, insD_of h2.step.at_, look_meth (by decide +kernel), ?_⟩
    refine he a wl wds W rows (i + 1 + 1) _ u ([(";" : Str)] ++ rest) _ h2.step hw hW hd2 hu (stop_cons (by decide +kernel)) fun d S1 x1 h1 n1 => ?_
    rw [s_ret]
    simp only [w_cb, w_cons, w_nil, w_var, w_c, w_tup, w_meth, List.getElem?_cons_zero, List.getElem?_cons_succ, List.set_cons_zero, List.set_cons_succ]
    refine ⟨sl _ (by simp), sl _ (by simp), sl _ (by simp), a, _, insD_of h1.at_, look_meth (by decide +kernel), ?_⟩
    refine take_wd h1 hw (drop_hd (drop_app hd2)).1 (node_w ?_)
    refine q _ _ ((((((Ext.refl a S).app l).trans (h.app l).stepX).trans h2.stepX).trans x1).trans h1.stepX) ?_ (Nd.mk1 (Nds.one n1))
    have := h1.step
    rw [hts, List.length_cons, List.length_cons, List.length_append, List.length_singleton, show i + (u.length + 1 + 1 + 1) = i + 1 + 1 + u.length + 1 by omega]
    exact this
  · obtain ⟨hn, u, hts, hu⟩ := hk
    have hd0 : W.drop i = x :: ("(" : Str) :: (u ++ ((")" : Str) :: (";" : Str) :: rest)) := by rw [hd, hts, List.cons_append, List.cons_append, List.append_assoc]; rfl
    obtain ⟨hx, hd1⟩ := drop_hd hd0
    obtain ⟨hx1, hd2⟩ := drop_hd hd1
    refine takeName_wd h hw (by rw [hx]; exact hn) fun l => ⟨_, _, rfl, ?_⟩
    rw [hx]
    have h2 := (h.app l).step
    rw [s_seq, s_if]
    simp only [w_val, w_bin, w_meth, w_cons, w_nil, w_var, w_c, List.getElem?_cons_zero, List.getElem?_cons_succ, List.set_cons_zero, List.set_cons_succ]
    refine ⟨a, _, insD_of h2.at_, look_meth (by decide +kernel), ?_⟩
    refine next_wp h2 hw ?_
    rw [hx1, w_eq eqN_str]
    refine ⟨_, rfl, ?_⟩
    rw [if_neg (by decide +kernel), s_nil, s_seq, s_drop]
    simp only [w_meth, w_cons, w_nil, w_var, w_c, List.getElem?_cons_zero, List.getElem?_cons_succ]
    refine ⟨a, _, insD_of h2.at_, look_meth (by decide +kernel), ?_⟩
    refine take_wd h2 hw hx1 ?_
    rw [s_seq, s_set]
    simp only [w_meth, w_cons, w_nil, w_var, w_c, List.getElem?_cons_zero, List.getElem?_cons_succ]
    refine ⟨a, _, insD_of h2.step.at_, look_meth (by decide +kernel), ?_⟩
    refine he a wl wds W rows (i + 1 + 1) _ u ((")" : Str) :: (";" : Str) :: rest) _ h2.step hw hW hd2 hu rfl fun d S1 x1 h1 n1 => ?_
    obtain ⟨ns, rfl, n1⟩ := n1
    have hd3 := drop_app hd2
    obtain ⟨hx3, hd4⟩ := drop_hd hd3
    obtain ⟨hx4, _⟩ := drop_hd hd4
    rw [s_seq, s_drop]
    simp only [w_cb, w_cons, w_nil, w_var, w_c, w_tup, w_meth, List.getElem?_cons_zero, List.getElem?_cons_succ, List.set_cons_zero, List.set_cons_succ]
    refine ⟨a, _, insD_of h1.at_, look_meth (by decide +kernel), ?_⟩
    refine take_wd h1 hw hx3 ?_
    rw [s_ret]
    simp only [w_cb, w_cons, w_nil, w_var, w_c, w_tup, w_meth, List.getElem?_cons_zero, List.getElem?_cons_succ]
    refine ⟨sl _ (by simp), sl _ (by simp), a, _, insD_of h1.step.at_, look_meth (by decide +kernel), ?_⟩
    refine take_wd h1.step hw hx4 (node_w ?_)
    refine q _ _ (((((((Ext.refl a S).app l).trans (h.app l).stepX).trans h2.stepX).trans x1).trans h1.stepX).trans h1.step.stepX) ?_ (Nd.mk1 n1)
    have := h1.step.step
    rw [hts, List.length_cons, List.length_cons, List.length_append, List.length_cons, List.length_singleton, show i + (u.length + (1 + 1) + 1 + 1) = i + 1 + 1 + u.length + 1 + 1 by omega]
    exact this
theorem noting_ok {rf : F} {x : Str} {a wl : Nat} {wds : List D} {rows : Int} {i : Nat} {S : Sto} {Q : D → Sto → Prop} (h : Rdr a wl wds rows i S) (hx : noteB x = true)
    (q : ∀ d S', Ext a S S' → Rdr a wl wds rows (i + 1) S' → Nd 1 d (St.note x).d → Q d S') : (g_Reader_noting (g_is_note g_are_all) rf g_node_of [.ref a, .str x] S).wp Q := by
  have sl : ∀ n : Nat, n ≤ 200 → n ≤ sizeLine := fun n h => by rw [sizeLine_eq]; omega
  unfold g_Reader_noting
  refine w_def rfl ?_
  rw [s_seq, s_if]
  simp only [w_tnot, w_val, w_cb, w_cons, w_nil, w_var, w_c, List.map_cons, List.map_nil, List.length_cons, List.length_nil, List.cons_append, List.nil_append, List.getElem?_cons_zero, List.getElem?_cons_succ, List.reduceReplicate, Nat.reduceAdd, Nat.reduceSub]
  have h6 := hx
  unfold noteB at h6
  rw [Bool.and_eq_true] at h6
  have h6 := of_decide_eq_true h6.1
  refine note_wp (d := .str x) trivial (fun y e => by injection e with e; rw [← e, sizeLine_eq]; omega) fun l => ⟨_, rfl, ?_⟩
  show if (!noteB x) = true then _ else _
  rw [hx, if_neg (by decide), s_nil, s_seq]
  have hl := h.app l
  refine (s_attAdd (i := (i : Nat)) (j := 1) (n := a) (fs := rdF wl rows i) (fun Q => by rw [w_var]; exact Iff.rfl) (fun Q => Iff.rfl) hl.at_ look_at (by show 3 < 1000; decide)).mpr ?_
  rw [put_at, s_ret]
  simp only [w_cb, w_cons, w_nil, w_var, w_c, w_tup, w_att, w_bin, List.getElem?_cons_zero, List.getElem?_cons_succ]
  refine ⟨sl _ (by simp), sl _ (by simp), a, _, _, insD_of hl.step.at_, look_at, ?_⟩
  rw [w_fI]
  refine ⟨rfl, a, _, _, insD_of hl.step.at_, look_at, ?_⟩
  rw [w_fI]
  refine ⟨rfl, node_w ?_⟩
  exact q _ _ (((Ext.refl a S).app l).trans hl.stepX) hl.step Nd.mk0
end Mn
set_option Elab.async false
set_option linter.all false
set_option maxRecDepth 100000
set_option maxHeartbeats 4000000
namespace Mn
open PySem PySem.Spec PyProof.Rows L2
theorem w_slSt {S : Sto} {Q : D → Sto → Prop} {x : Str} {lo hi : Option Int} : (fSl (.str x) lo hi S).wp Q ↔ x.length ≤ sizeLine ∧ Q (.str (L2.cutS x lo hi)) S := by
  show Res.wp (if x.length ≤ sizeLine then .ok (.str (L2.cutS x lo hi)) S else .bad) Q ↔ _
  constructor <;> intro h
  · split at h
    · rename_i hc; exact ⟨hc, h⟩
    · exact h.elim
  · rw [if_pos h.1]; exact h.2
abbrev gBranch (rf e bl : F) : F := g_Reader_branching (gTake rf) e bl g_node_of nW
/-- kind's word is passed -/
def BranchOk (f : F) (s : St) (k : Str) : Prop := ReadOk f [.str k] (fun r => r.head? ≠ some ("else" : Str)) s.tk (fun d => Nd s.ht d s.d)
theorem loop_ok {rf e bl : F} {x : Ex} {b : List St} (he : ExprOk e x) (hb : BlockOk bl b) : BranchOk (gBranch rf e bl) (.loop x b) "loop" := by
  intro a wl wds W rows i S ts rest Q h hw hW hd hk hst q
  obtain ⟨u, v, hts, hu, hv⟩ := hk
  have sl : ∀ n : Nat, n ≤ 200 → n ≤ sizeLine := fun n h => by rw [sizeLine_eq]; omega
  have hd0 : W.drop i = ("loop" : Str) :: (u ++ (("{" : Str) :: (v ++ [("}" : Str)]) ++ rest)) := by rw [hd, hts, List.cons_append, List.append_assoc]
  obtain ⟨hx, hd1⟩ := drop_hd hd0
  unfold gBranch g_Reader_branching
  refine w_def rfl ?_
  rw [s_seq, s_par]
  simp only [w_meth, w_cons, w_nil, w_var, w_c, List.map_cons, List.map_nil, List.length_cons, List.length_nil, List.cons_append, List.nil_append, List.getElem?_cons_zero, List.getElem?_cons_succ, List.set_cons_zero, List.set_cons_succ, List.reduceReplicate, Nat.reduceAdd, Nat.reduceSub]
  refine ⟨a, _, insD_of h.at_, look_meth (by decide +kernel), ?_⟩
  refine take_wd h hw hx ?_
  refine ⟨a, _, insD_of h.step.at_, look_meth (by decide +kernel), ?_⟩
  refine he a wl wds W rows (i + 1) _ u (("{" : Str) :: (v ++ [("}" : Str)]) ++ rest) _ h.step hw hW hd1 hu (stop_cons (by decide +kernel)) fun d S1 x1 h1 n1 => ⟨_, _, rfl, ?_⟩
  have hd2 := drop_app hd1
  rw [s_seq, s_asg]
  simp only [w_meth, w_cons, w_nil, w_var, w_c, List.getElem?_cons_zero, List.getElem?_cons_succ, List.set_cons_zero, List.set_cons_succ]
  refine ⟨a, _, insD_of h1.at_, look_meth (by decide +kernel), ?_⟩
  refine hb a wl wds W rows _ S1 (("{" : Str) :: (v ++ [("}" : Str)])) rest _ h1 hw hW hd2 ⟨v, rfl, hv⟩ trivial fun d2 S2 x2 h2 n2 => ?_
  obtain ⟨ns, l, rfl, n2⟩ := n2
  refine ⟨_, rfl, ?_⟩
  show RS.wp (sSeq _ _ [some (.ref a), some (.str "loop"), none, some (.int (i : Nat)), some d, some (.tup ns), some (.int l), none, none] S2) _ _
  rw [s_seq, s_if]
  simp only [w_val, w_bin, w_var, w_c, List.getElem?_cons_zero, List.getElem?_cons_succ]
  rw [w_eq eqN_str]
  refine ⟨_, rfl, ?_⟩
  rw [if_pos (by decide +kernel), s_ret]
  simp only [w_cb, w_cons, w_nil, w_var, w_tup, List.getElem?_cons_zero, List.getElem?_cons_succ]
  refine ⟨sl _ (by simp), sl _ (by simp), sl _ (by simp), node_w ?_⟩
  refine q _ _ ((h.stepX.trans x1).trans x2) ?_ (Nd.mk2 (h := max x.ht (St.hts b)) ((Nds.one n1).le (by omega)) (n2.le (by omega)))
  rw [hts, List.length_cons, List.length_append, show i + (u.length + (("{" : Str) :: (v ++ [("}" : Str)])).length + 1) = i + 1 + u.length + (("{" : Str) :: (v ++ [("}" : Str)])).length by omega]
  exact h2
theorem if_ok {rf e bl : F} {x : Ex} {b : List St} {o : Bool} {c : List St} (he : ExprOk e x) (hb : BlockOk bl b) (hc : BlockOk bl c) : BranchOk (gBranch rf e bl) (.iff x b o c) "if" := by
  intro a wl wds W rows i S ts rest Q h hw hW hd hk hst q
  obtain ⟨u, v, w, hts, hu, hv, hw2⟩ := hk
  have sl : ∀ n : Nat, n ≤ 200 → n ≤ sizeLine := fun n h => by rw [sizeLine_eq]; omega
  have hts2 : ts = ("if" : Str) :: (u ++ (("{" : Str) :: (v ++ [("}" : Str)]) ++ w)) := by rw [hts]; simp
  have hd0 : W.drop i = ("if" : Str) :: (u ++ (("{" : Str) :: (v ++ [("}" : Str)]) ++ (w ++ rest))) := by rw [hd, hts2]; simp
  obtain ⟨hx, hd1⟩ := drop_hd hd0
  unfold gBranch g_Reader_branching
  refine w_def rfl ?_
  rw [s_seq, s_par]
  simp only [w_meth, w_cons, w_nil, w_var, w_c, List.map_cons, List.map_nil, List.length_cons, List.length_nil, List.cons_append, List.nil_append, List.getElem?_cons_zero, List.getElem?_cons_succ, List.set_cons_zero, List.set_cons_succ, List.reduceReplicate, Nat.reduceAdd, Nat.reduceSub]
  refine ⟨a, _, insD_of h.at_, look_meth (by decide +kernel), ?_⟩
  refine take_wd h hw hx ?_
  refine ⟨a, _, insD_of h.step.at_, look_meth (by decide +kernel), ?_⟩
  refine he a wl wds W rows (i + 1) _ u (("{" : Str) :: (v ++ [("}" : Str)]) ++ (w ++ rest)) _ h.step hw hW hd1 hu (stop_cons (by decide +kernel)) fun d S1 x1 h1 n1 => ⟨_, _, rfl, ?_⟩
  have hd2 := drop_app hd1
  rw [s_seq, s_asg]
  simp only [w_meth, w_cons, w_nil, w_var, w_c, List.getElem?_cons_zero, List.getElem?_cons_succ, List.set_cons_zero, List.set_cons_succ]
  refine ⟨a, _, insD_of h1.at_, look_meth (by decide +kernel), ?_⟩
  refine hb a wl wds W rows _ S1 (("{" : Str) :: (v ++ [("}" : Str)])) (w ++ rest) _ h1 hw hW hd2 ⟨v, rfl, hv⟩ trivial fun d2 S2 x2 h2 n2 => ?_
  obtain ⟨ns, l, rfl, n2⟩ := n2
  have hd3 := drop_app hd2
  refine ⟨_, rfl, ?_⟩
  show RS.wp (sSeq _ _ [some (.ref a), some (.str "if"), none, some (.int (i : Nat)), some d, some (.tup ns), some (.int l), none, none] S2) _ _
  rw [s_seq, s_if]
  simp only [w_val, w_bin, w_var, w_c, List.getElem?_cons_zero, List.getElem?_cons_succ]
  rw [w_eq eqN_str]
  refine ⟨_, rfl, ?_⟩
  rw [if_neg (by decide +kernel), s_nil, s_seq, s_set]
  simp only [w_tup, w_nil]
  refine ⟨sl _ (by decide), ?_⟩
  rw [s_seq, s_if]
  simp only [w_val, w_bin, w_meth, w_cons, w_nil, w_var, w_c, List.getElem?_cons_zero, List.getElem?_cons_succ, List.set_cons_zero, List.set_cons_succ]
  refine ⟨a, _, insD_of h2.at_, look_meth (by decide +kernel), ?_⟩
  refine next_wp h2 hw ?_
  rw [w_eq eqN_str]
  refine ⟨_, rfl, ?_⟩
  have x02 := (h.stepX.trans x1).trans x2
  have m1 : Nds (max (max x.ht (St.hts b)) (St.hts c + 1)) [d] [x.d] := (Nds.one n1).le (by omega)
  have m2 : Nds (max (max x.ht (St.hts b)) (St.hts c + 1)) ns (St.ds b) := n2.le (by omega)
  rcases hw2 with ⟨rfl, rfl, rfl⟩ | ⟨rfl, z, hz, hcz⟩
  · have hne : ¬ nxt W (i + 1 + u.length + (("{" : Str) :: (v ++ [("}" : Str)])).length) = "else" := fun y => hst ((hd_nxt (show W.drop _ = rest from hd3) (by decide +kernel)).mpr y)
    rw [if_neg (by rw [beq_iff_eq]; exact hne), s_nil, s_ret]
    simp only [w_cb, w_cons, w_nil, w_var, w_tup, List.getElem?_cons_zero, List.getElem?_cons_succ]
    refine ⟨sl _ (by simp), sl _ (by simp), sl _ (by simp), node_w ?_⟩
    refine q _ _ x02 ?_ (Nd.mk3 m1 m2 Nds.nil)
    rw [hts2, List.length_cons, List.length_append, List.append_nil, show i + (u.length + (("{" : Str) :: (v ++ [("}" : Str)])).length + 1) = i + 1 + u.length + (("{" : Str) :: (v ++ [("}" : Str)])).length by omega]
    exact h2
  · have hd3 : W.drop (i + 1 + u.length + (("{" : Str) :: (v ++ [("}" : Str)])).length) = ("else" : Str) :: ((("{" : Str) :: (z ++ [("}" : Str)])) ++ rest) := by rw [hd3, hz]; rfl
    obtain ⟨hx3, hd4⟩ := drop_hd hd3
    rw [if_pos (by rw [hx3]; decide +kernel), s_seq, s_set]
    simp only [w_meth, w_cons, w_nil, w_var, w_c, List.getElem?_cons_zero, List.getElem?_cons_succ, List.set_cons_zero, List.set_cons_succ]
    refine ⟨a, _, insD_of h2.at_, look_meth (by decide +kernel), ?_⟩
    refine take_wd h2 hw hx3 ?_
    rw [s_seq, s_asg]
    simp only [w_meth, w_cons, w_nil, w_var, w_c, List.getElem?_cons_zero, List.getElem?_cons_succ, List.set_cons_zero, List.set_cons_succ]
    refine ⟨a, _, insD_of h2.step.at_, look_meth (by decide +kernel), ?_⟩
    refine hc a wl wds W rows _ _ (("{" : Str) :: (z ++ [("}" : Str)])) rest _ h2.step hw hW hd4 ⟨z, rfl, hcz⟩ trivial fun d4 S4 x4 h4 n4 => ?_
    obtain ⟨ns4, l4, rfl, n4⟩ := n4
    refine ⟨_, rfl, ?_⟩
    show RS.wp (sSet 2 _ [some (.ref a), some (.str "if"), some (.tup []), some (.int (i : Nat)), some d, some (.tup ns), some (.int l4), some (.int ((i + 1 + u.length + (("{" : Str) :: (v ++ [("}" : Str)])).length : Nat) : Int)), some (.tup ns4)] S4) _ _
    rw [s_set]
    simp only [w_cb, w_cons, w_nil, w_var, w_c, w_tup, List.getElem?_cons_zero, List.getElem?_cons_succ, List.set_cons_zero, List.set_cons_succ]
    refine ⟨sl _ (by simp), sl _ (by simp), node_w ⟨sl _ (by simp), ?_⟩⟩
    rw [s_ret]
    simp only [w_cb, w_cons, w_nil, w_var, w_tup, List.getElem?_cons_zero, List.getElem?_cons_succ]
    refine ⟨sl _ (by simp), sl _ (by simp), sl _ (by simp), node_w ?_⟩
    have m3 : Nds (max (max x.ht (St.hts b)) (St.hts c + 1)) [nodeD (.tup [.str "else"]) [.tup ns4] ((i + 1 + u.length + (("{" : Str) :: (v ++ [("}" : Str)])).length : Nat) : Int) l4] [elseD (St.ds c)] := (Nds.one (Nd.mk1 n4)).le (by omega)
    refine q _ _ ((x02.trans h2.stepX).trans x4) ?_ (Nd.mk3 m1 m2 m3)
    have e : i + ts.length = i + 1 + u.length + (("{" : Str) :: (v ++ [("}" : Str)])).length + 1 + (("{" : Str) :: (z ++ [("}" : Str)])).length := by
      rw [hts2, hz]
      simp only [List.length_cons, List.length_append, List.length_nil]
      omega
    rw [e]
    exact h4
/-- a statement: what its kind needs -/
theorem stmt_ok {rf e es bl : F} {s : St} (h1 : ∀ x y, s = .set x y → ExprOk e y) (h2 : ∀ x ys, s = .run x ys → ExprsOk es ys ")") (h3 : ∀ y, s = .give y → ExprOk e y) (h4 : ∀ y b, s = .loop y b → ExprOk e y ∧ BlockOk bl b) (h5 : ∀ y b o c, s = .iff y b o c → ExprOk e y ∧ BlockOk bl b ∧ BlockOk bl c) :
    StmtOk (g_Reader_statement nW (gBranch rf e bl) (g_Reader_giving (gTake rf) e g_node_of) (g_Reader_noting (g_is_note g_are_all) rf g_node_of) g_note_of (g_Reader_setting (gTakeN rf) nW (gTake rf) e g_node_of es)) s := by
  intro a wl wds W rows i S ts rest Q h hw hW hd hk hst q
  have sl : ∀ n : Nat, n ≤ 200 → n ≤ sizeLine := fun n h => by rw [sizeLine_eq]; omega
  obtain ⟨t, r, ets, hf⟩ := stk_fst hk
  have hd0 : W.drop i = t :: (r ++ rest) := by rw [hd, ets]; rfl
  obtain ⟨ht0, hd1⟩ := drop_hd hd0
  unfold g_Reader_statement
  refine w_def rfl ?_
  rw [s_seq, s_set]
  simp only [w_meth, w_cons, w_nil, w_var, w_c, List.map_cons, List.map_nil, List.length_cons, List.length_nil, List.cons_append, List.nil_append, List.getElem?_cons_zero, List.getElem?_cons_succ, List.set_cons_zero, List.set_cons_succ, List.reduceReplicate, Nat.reduceAdd, Nat.reduceSub]
  refine ⟨a, _, insD_of h.at_, look_meth (by decide +kernel), ?_⟩
  refine next_wp h hw ?_
  rw [ht0, s_seq, s_if]
  simp only [w_val, w_bin, w_tup, w_cons, w_nil, w_var, w_c, List.getElem?_cons_zero, List.getElem?_cons_succ]
  refine ⟨sl _ (by simp), ?_⟩
  refine (w_in (inW_tup (d := .str t) trivial ["if", "loop"])).mpr ⟨_, rfl, ?_⟩
  rw [isIn_two]
  have gnw : ∀ {t : Str}, nameB t = true ∨ (∃ r, t.cps.toList = 35 :: r) → t ≠ "if" ∧ t ≠ "loop" ∧ t ≠ "give" := by
    intro t ht
    have key : ([("if" : Str), "loop", "give"] : List Str).all (fun t => !(nameB t) && !(decide (t.cps.toList.head? = some 35))) = true := by decide +kernel
    have each : ∀ z ∈ ([("if" : Str), "loop", "give"] : List Str), t ≠ z := by
      intro z hz e
      have := List.all_eq_true.mp key z hz
      rw [← e, Bool.and_eq_true] at this
      rcases ht with hn | ⟨r, hr⟩
      · rw [hn] at this; cases this.1
      · rw [hr] at this; cases this.2
    exact ⟨each _ (by simp), each _ (by simp), each _ (by simp)⟩
  -- set, run
  have named : nameB t = true → ((g_Reader_setting (gTakeN rf) nW (gTake rf) e g_node_of es) [.ref a] S).wp Q → (if (decide (t = "if") || decide (t = "loop")) = true then (sRet (mMeth "Reader" "branching" (gBranch rf e bl) (mVar 0) (aCons (mVar 1) aNil)) [some (.ref a), some (.str t)] S).wp (fun ρ S => RS.wp (sSeq (sIf (tVal (mBin fEq (mVar 1) (mC (.str "give")))) (sRet (mMeth "Reader" "giving" (g_Reader_giving (gTake rf) e g_node_of) (mVar 0) aNil)) sNil)
  (sSeq (sIf (tVal (mBin fEq (mBin fIx (mVar 1) (mC (.int 0))) (mC (.str "#")))) (sRet (mMeth "Reader" "noting" (g_Reader_noting (g_is_note g_are_all) rf g_node_of) (mVar 0) (aCons (mCB g_note_of (aCons (mVar 1) aNil)) aNil))) sNil)
  (sRet (mMeth "Reader" "setting" (g_Reader_setting (gTakeN rf) nW (gTake rf) e g_node_of es) (mVar 0) aNil))) ρ S) (fun _ S => Q .non S) Q) Q else (sNil [some (.ref a), some (.str t)] S).wp (fun ρ S => RS.wp (sSeq (sIf (tVal (mBin fEq (mVar 1) (mC (.str "give")))) (sRet (mMeth "Reader" "giving" (g_Reader_giving (gTake rf) e g_node_of) (mVar 0) aNil)) sNil)
  (sSeq (sIf (tVal (mBin fEq (mBin fIx (mVar 1) (mC (.int 0))) (mC (.str "#")))) (sRet (mMeth "Reader" "noting" (g_Reader_noting (g_is_note g_are_all) rf g_node_of) (mVar 0) (aCons (mCB g_note_of (aCons (mVar 1) aNil)) aNil))) sNil)
  (sRet (mMeth "Reader" "setting" (g_Reader_setting (gTakeN rf) nW (gTake rf) e g_node_of es) (mVar 0) aNil))) ρ S) (fun _ S => Q .non S) Q) Q) := by
    intro hn hq
    obtain ⟨e1, e2, e3⟩ := gnw (.inl hn)
    rw [decide_eq_false e1, decide_eq_false e2, if_neg (by decide), s_nil, s_seq, s_if]
    simp only [w_val, w_bin, w_var, w_c, List.getElem?_cons_zero, List.getElem?_cons_succ]
    rw [w_eq eqN_str]
    refine ⟨_, rfl, ?_⟩
    rw [if_neg (by rw [beq_iff_eq]; exact e3), s_nil, s_seq, s_if]
    simp only [w_val, w_bin, w_var, w_c, List.getElem?_cons_zero, List.getElem?_cons_succ]
    have h6 := hn
    unfold nameB at h6
    rw [Bool.and_eq_true, Bool.and_eq_true, Bool.and_eq_true] at h6
    have h8 := of_decide_eq_true h6.2.1
    obtain ⟨c, ec, eh⟩ := head_at (of_decide_eq_true h6.1)
    rw [w_ixS]
    refine ⟨by rw [sizeLine_eq]; omega, c, ec, ?_⟩
    rw [w_eq eqN_str]
    refine ⟨_, rfl, ?_⟩
    have hc : c ∈ t.cps.toList := by
      cases hx : t.cps.toList with
      | nil => rw [hx] at eh; cases eh
      | cons y r =>
        rw [hx] at eh
        injection eh with eh
        rw [eh]
        exact List.mem_cons_self
    have l1 := of_decide_eq_true (List.all_eq_true.mp h6.2.2.1 c hc)
    have key : (("abcdefghijklmnopqrstuvwxyz" : Str).cps.toList.all fun c => !((⟨#[c]⟩ : Str) == "#")) = true := by decide +kernel
    have hne := List.all_eq_true.mp key c l1
    rw [if_neg (by rw [Bool.not_eq_true'] at hne; rw [hne]; exact Bool.false_ne_true), s_nil, s_ret]
    simp only [w_meth, w_cons, w_nil, w_var, List.getElem?_cons_zero, List.getElem?_cons_succ]
    exact ⟨a, _, insD_of h.at_, look_meth (by decide +kernel), hq⟩
  cases s with
  | set x y =>
    have hn : nameB t = true := by
      obtain ⟨hn, u, hu, _⟩ := hk
      rw [hu] at ets
      injection ets with e1 e2
      rw [← e1]
      exact hn
    exact named hn (setting_ok (.inl ⟨x, y, rfl, h1 x y rfl⟩) a wl wds W rows i S ts rest Q h hw hW hd hk trivial q)
  | run x ys =>
    have hn : nameB t = true := by
      obtain ⟨hn, u, hu, _⟩ := hk
      rw [hu] at ets
      injection ets with e1 e2
      rw [← e1]
      exact hn
    exact named hn (setting_ok (.inr ⟨x, ys, rfl, h2 x ys rfl⟩) a wl wds W rows i S ts rest Q h hw hW hd hk trivial q)
  | give y =>
    have ht : t = "give" := by
      obtain ⟨u, hu, _⟩ := hk
      rw [hu] at ets
      injection ets with e1 e2
      exact e1.symm
    rw [ht, if_neg (by decide +kernel), s_nil, s_seq, s_if]
    simp only [w_val, w_bin, w_var, w_c, List.getElem?_cons_zero, List.getElem?_cons_succ]
    rw [w_eq eqN_str]
    refine ⟨_, rfl, ?_⟩
    rw [if_pos (by decide +kernel), s_ret]
    simp only [w_meth, w_cons, w_nil, w_var, List.getElem?_cons_zero, List.getElem?_cons_succ]
    refine ⟨a, _, insD_of h.at_, look_meth (by decide +kernel), ?_⟩
    exact giving_ok (h3 y rfl) a wl wds W rows i S ts rest Q h hw hW hd hk trivial q
  | loop y b =>
    have ht : t = "loop" := by
      obtain ⟨u, v, hu, _⟩ := hk
      rw [hu] at ets
      injection ets with e1 e2
      exact e1.symm
    rw [ht, if_pos (by decide +kernel), s_ret]
    simp only [w_meth, w_cons, w_nil, w_var, List.getElem?_cons_zero, List.getElem?_cons_succ]
    refine ⟨a, _, insD_of h.at_, look_meth (by decide +kernel), ?_⟩
    obtain ⟨p1, p2⟩ := h4 y b rfl
    exact loop_ok p1 p2 a wl wds W rows i S ts rest Q h hw hW hd hk hst q
  | iff y b o c =>
    have ht : t = "if" := by
      obtain ⟨u, v, w, hu, _⟩ := hk
      rw [hu] at ets
      injection ets with e1 e2
      exact e1.symm
    rw [ht, if_pos (by decide +kernel), s_ret]
    simp only [w_meth, w_cons, w_nil, w_var, List.getElem?_cons_zero, List.getElem?_cons_succ]
    refine ⟨a, _, insD_of h.at_, look_meth (by decide +kernel), ?_⟩
    obtain ⟨p1, p2, p3⟩ := h5 y b o c rfl
    exact if_ok p1 p2 p3 a wl wds W rows i S ts rest Q h hw hW hd hk hst q
  | note x =>
    obtain ⟨w, hu, ⟨r35, hr35⟩, hstrip, hnote, hwl⟩ := hk
    rw [hu] at ets
    injection ets with e1 e2
    subst e1 e2
    obtain ⟨e1, e2, e3⟩ := gnw (t := w) (.inr ⟨r35, hr35⟩)
    rw [decide_eq_false e1, decide_eq_false e2, if_neg (by decide), s_nil, s_seq, s_if]
    simp only [w_val, w_bin, w_var, w_c, List.getElem?_cons_zero, List.getElem?_cons_succ]
    rw [w_eq eqN_str]
    refine ⟨_, rfl, ?_⟩
    rw [if_neg (by rw [beq_iff_eq]; exact e3), s_nil, s_seq, s_if]
    simp only [w_val, w_bin, w_var, w_c, List.getElem?_cons_zero, List.getElem?_cons_succ]
    rw [w_ixS]
    refine ⟨by rw [sizeLine_eq]; omega, 35, by rw [hr35]; exact atI_zero _ _, ?_⟩
    rw [w_eq eqN_str]
    refine ⟨_, rfl, ?_⟩
    rw [if_pos (by decide +kernel), s_ret]
    simp only [w_meth, w_cb, w_cons, w_nil, w_var, List.getElem?_cons_zero, List.getElem?_cons_succ]
    refine ⟨a, _, insD_of h.at_, look_meth (by decide +kernel), ?_⟩
    unfold g_note_of
    refine w_def rfl ?_
    rw [s_ret]
    simp only [w_mt, w_sl, w_onone, w_osome, w_cons, w_nil, w_var, w_c, List.map_cons, List.map_nil, List.length_cons, List.length_nil, List.cons_append, List.nil_append, List.getElem?_cons_zero, List.getElem?_cons_succ]
    refine ⟨1, rfl, ?_⟩
    rw [w_slSt]
    refine ⟨by rw [sizeLine_eq]; omega, rfl, ?_⟩
    rw [w_stripC]
    have hcl := L2.cutS_length w (some 1) none
    refine ⟨by rw [sizeLine_eq]; omega, ?_⟩
    rw [hstrip]
    refine noting_ok h hnote fun d S' x' h' n' => ?_
    exact q d S' x' (by rw [hu]; exact h') n'
/-- the defs that read statements, by how deep they may call -/
structure StFam (T E L ST SS BL BR GI NO SE : Nat → F) (rf : Nat → F) : Prop where
  rd : RdFam T E L rf
  ss : ∀ k, 3 ≤ k → SS (k + 1) = g_Reader_statements nW (ST k)
  st : ∀ k, 4 ≤ k → ST (k + 1) = g_Reader_statement nW (BR k) (GI k) (NO k) g_note_of (SE k)
  bl : ∀ k, 3 ≤ k → BL (k + 1) = g_Reader_block (gTake (rf k)) (SS k)
  br : ∀ k, 3 ≤ k → BR (k + 1) = gBranch (rf k) (E k) (BL k)
  gi : ∀ k, 3 ≤ k → GI (k + 1) = g_Reader_giving (gTake (rf k)) (E k) g_node_of
  no : ∀ k, 3 ≤ k → NO (k + 1) = g_Reader_noting (g_is_note g_are_all) (rf k) g_node_of
  se : ∀ k, 3 ≤ k → SE (k + 1) = g_Reader_setting (gTakeN (rf k)) nW (gTake (rf k)) (E k) g_node_of (L k)
theorem StFam.all {T E L ST SS BL BR GI NO SE rf : Nat → F} (f : StFam T E L ST SS BL BR GI NO SE rf) : ∀ n, (∀ (s : St) (k : Nat), s.ht ≤ n → 4 * n + 8 ≤ k → StmtOk (ST k) s) ∧ (∀ (ss : List St) (k : Nat), St.hts ss ≤ n → 4 * n + 9 ≤ k → StmtsOk (SS k) ss) := by
  have lists : ∀ n, (∀ (s : St) (k : Nat), s.ht ≤ n → 4 * n + 8 ≤ k → StmtOk (ST k) s) → (∀ (ss : List St) (k : Nat), St.hts ss ≤ n → 4 * n + 9 ≤ k → StmtsOk (SS k) ss) := fun n hs ss k hn hk => by
    obtain ⟨m, rfl⟩ : ∃ m, k = m + 1 := ⟨k - 1, by omega⟩
    rw [f.ss m (by omega)]
    exact stmts_ok fun y hy => hs y m (Nat.le_trans (shts_mem hy) hn) (by omega)
  have pos : ∀ s : St, 1 ≤ s.ht := fun s => by cases s <;> exact Nat.succ_le_succ (Nat.zero_le _)
  intro n
  induction n with
  | zero =>
    have t0 : ∀ (s : St) (k : Nat), s.ht ≤ 0 → 4 * 0 + 8 ≤ k → StmtOk (ST k) s := fun x k h _ => by have := pos x; omega
    exact ⟨t0, lists 0 t0⟩
  | succ n ih =>
    obtain ⟨_, ihs⟩ := ih
    have t1 : ∀ (s : St) (k : Nat), s.ht ≤ n + 1 → 4 * (n + 1) + 8 ≤ k → StmtOk (ST k) s := fun s k hn hk => by
      obtain ⟨m, rfl⟩ : ∃ m, k = m + 1 + 1 := ⟨k - 2, by omega⟩
      rw [f.st (m + 1) (by omega), f.br m (by omega), f.gi m (by omega), f.no m (by omega), f.se m (by omega)]
      have ex := f.rd.all n
      refine stmt_ok (fun x y e => ?_) (fun x ys e => ?_) (fun y e => ?_) (fun y b e => ?_) (fun y b o c e => ?_)
      · subst e
        have hn : y.ht + 1 ≤ n + 1 := hn
        exact ex.2.1 y m (by omega) (by omega)
      · subst e
        have hn : Ex.hts ys + 1 ≤ n + 1 := hn
        exact ex.2.2 ys _ m (by omega) (.inl rfl) (by omega)
      · subst e
        have hn : y.ht + 1 ≤ n + 1 := hn
        exact ex.2.1 y m (by omega) (by omega)
      · subst e
        have hn : max y.ht (St.hts b) + 1 ≤ n + 1 := hn
        refine ⟨ex.2.1 y m (by omega) (by omega), ?_⟩
        obtain ⟨m2, rfl⟩ : ∃ m2, m = m2 + 1 := ⟨m - 1, by omega⟩
        rw [f.bl m2 (by omega)]
        exact block_ok (ihs b m2 (by omega) (by omega))
      · subst e
        have hn : max (max y.ht (St.hts b)) (St.hts c + 1) + 1 ≤ n + 1 := hn
        refine ⟨ex.2.1 y m (by omega) (by omega), ?_⟩
        obtain ⟨m2, rfl⟩ : ∃ m2, m = m2 + 1 := ⟨m - 1, by omega⟩
        rw [f.bl m2 (by omega)]
        exact ⟨block_ok (ihs b m2 (by omega) (by omega)), block_ok (ihs c m2 (by omega) (by omega))⟩
    exact ⟨t1, lists _ t1⟩
end Mn
set_option Elab.async false
set_option linter.all false
set_option maxRecDepth 100000
set_option maxHeartbeats 4000000
namespace Mn
open PySem PySem.Spec PyProof.Rows L2
theorem tkw_app {g : Nat → Bool} {n : List Nat} (hn : ∀ c, n.head? = some c → g c = false) : ∀ {a : List Nat}, (∀ c ∈ a, g c = true) → (a ++ n).takeWhile g = a
  | [], _ => by
    cases n with
    | nil => rfl
    | cons c n =>
      show List.takeWhile g (c :: n) = []
      rw [List.takeWhile_cons, if_neg (by rw [hn c rfl]; exact Bool.false_ne_true)]
  | c :: a, h => by
    show List.takeWhile g (c :: (a ++ n)) = _
    rw [List.takeWhile_cons, if_pos (h c List.mem_cons_self), tkw_app hn fun d hd => h d (List.mem_cons_of_mem _ hd)]
theorem rstrip_mid {g : Nat → Bool} {x : Str} {n b : List Nat} (e : x.cps.toList = n ++ b) (hb : ∀ c ∈ b, g c = true) (h2 : ∀ c, n.reverse.head? = some c → g c = false) : (Txt.stripBy g false true x).cps.toList = n := by
  have hx : x.length = (n ++ b).length := by rw [← e, Array.length_toList]; rfl
  have hbr : ∀ c ∈ b.reverse, g c = true := fun c hc => hb c (List.mem_reverse.mp hc)
  rw [PyProof.Rows.stripBy_eq, PySem.StrLaws.strSub_toList]
  unfold PySem.stripLo PySem.stripHi
  rw [if_neg Bool.false_ne_true, if_pos rfl, e, List.drop_zero, List.reverse_append, tkw_app (a := b.reverse) h2 hbr]
  rw [hx, List.length_append, List.length_reverse]
  rw [show n.length + b.length - b.length - 0 = n.length by omega, List.take_left]
theorem str_ext {x y : Str} (h : x.cps.toList = y.cps.toList) : x = y := by
  obtain ⟨a⟩ := x
  obtain ⟨b⟩ := y
  congr
  exact Array.toList_inj.mp h
theorem bl_goes (c : Nat) : (" " : Str).cps.contains c = decide (c = 32) := by
  rw [Bool.eq_iff_iff, decide_eq_true_iff]
  show (#[32] : Array Nat).contains c = true ↔ _
  rw [Array.contains_iff_mem]
  simp
end Mn
set_option Elab.async false
set_option linter.all false
set_option maxRecDepth 100000
set_option maxHeartbeats 4000000
namespace Mn
open PySem PySem.Spec PyProof.Rows L2
def anB (c : Nat) : Bool := decide (c ∈ ("abcdefghijklmnopqrstuvwxyz0123456789" : Str).cps.toList)
/-- these signs are those words -/
inductive Lx : List Nat → List Str → Prop
  | nil : Lx [] []
  | blank {cs ws} : Lx cs ws → Lx (32 :: cs) ws
  | note {r} {w : Str} : Txt.rstripChars ⟨(35 :: r).toArray⟩ " " = w → Lx (35 :: r) [w]
  | run {c u cs ws} : anB c = true → (∀ d ∈ u, anB d = true) → (∀ d, cs.head? = some d → anB d = false) → Lx cs ws → Lx (c :: (u ++ cs)) ((⟨(c :: u).toArray⟩ : Str) :: ws)
  | sign {c cs ws} : anB c = false → c ≠ 32 → c ≠ 35 → Lx cs ws → Lx (c :: cs) ((⟨#[c]⟩ : Str) :: ws)
/-- the first word -/
theorem Lx.step {l : List Nat} {ws : List Str} (h : Lx l ws) : (l = [] ∧ ws = []) ∨ (∃ r, l = 32 :: r ∧ Lx r ws) ∨ ∃ c u r w rest, l = c :: (u ++ r) ∧ c ≠ 32 ∧ ws = w :: rest ∧ Lx r rest ∧ Txt.rstripChars ⟨(c :: u).toArray⟩ " " = w ∧ ((c = 35 ∧ r = []) ∨ (c ≠ 35 ∧ anB c = false ∧ u = []) ∨ (anB c = true ∧ (∀ d ∈ u, anB d = true) ∧ (∀ d, r.head? = some d → anB d = false))) := by
  have rs : ∀ (c : Nat) (u : List Nat), (∀ d ∈ c :: u, d ≠ 32) → Txt.rstripChars ⟨(c :: u).toArray⟩ " " = ⟨(c :: u).toArray⟩ := fun c u hu => str_ext (rstrip_mid (n := c :: u) (b := []) (by simp) (fun _ h => by cases h) fun d hd => by
    rw [bl_goes]
    exact decide_eq_false (hu d (List.mem_reverse.mp (List.mem_of_mem_head? hd))))
  cases h with
  | nil => exact .inl ⟨rfl, rfl⟩
  | blank h => exact .inr (.inl ⟨_, rfl, h⟩)
  | note e => exact .inr (.inr ⟨35, _, [], _, [], by rw [List.append_nil], by decide, rfl, .nil, e, .inl ⟨rfl, rfl⟩⟩)
  | run h1 h2 h3 h4 =>
    have n32 : ∀ d, anB d = true → d ≠ 32 := fun d hd e => by rw [e] at hd; exact absurd hd (by decide +kernel)
    exact .inr (.inr ⟨_, _, _, _, _, rfl, n32 _ h1, rfl, h4, rs _ _ (fun d hd => (List.mem_cons.mp hd).elim (fun e => e ▸ n32 _ h1) fun hd => n32 _ (h2 d hd)), .inr (.inr ⟨h1, h2, h3⟩)⟩)
  | sign h1 h2 h3 h4 => exact .inr (.inr ⟨_, [], _, _, _, rfl, h2, rfl, h4, rs _ _ (fun d hd => by rw [List.mem_singleton.mp hd]; exact h2), .inr (.inl ⟨h3, h1, rfl⟩)⟩)
theorem Wds.snoc {W : List Str} {ds : List D} {w : Str} {r : List D} (h : Wds W ds) : Wds (W ++ [w]) (ds ++ [.tup (.str w :: r)]) := by
  refine ⟨by rw [List.length_append, List.length_append, h.len]; rfl, fun j v hj => ?_⟩
  by_cases hl : j < W.length
  · rw [List.getElem?_append_left hl] at hj
    obtain ⟨r, hr⟩ := h.at_ j v hj
    exact ⟨r, by rw [List.getElem?_append_left (by rw [h.len]; exact hl)]; exact hr⟩
  · rw [List.getElem?_append_right (by omega)] at hj
    have := (List.getElem?_eq_some_iff.mp hj).1
    have hz : j - W.length = 0 := by
      rw [List.length_singleton] at this
      omega
    rw [hz] at hj
    injection hj with hj
    subst hj
    exact ⟨r, by rw [List.getElem?_append_right (by rw [h.len]; omega), h.len, hz]; rfl⟩
theorem Wds.app {W W2 : List Str} {ds ds2 : List D} (h : Wds W ds) (h2 : Wds W2 ds2) : Wds (W ++ W2) (ds ++ ds2) := by
  refine ⟨by rw [List.length_append, List.length_append, h.len, h2.len], fun j v hj => ?_⟩
  by_cases hl : j < W.length
  · rw [List.getElem?_append_left hl] at hj
    obtain ⟨r, hr⟩ := h.at_ j v hj
    exact ⟨r, by rw [List.getElem?_append_left (by rw [h.len]; exact hl)]; exact hr⟩
  · rw [List.getElem?_append_right (by omega)] at hj
    obtain ⟨r, hr⟩ := h2.at_ _ v hj
    exact ⟨r, by rw [List.getElem?_append_right (by rw [h.len]; omega), h.len]; exact hr⟩
theorem Wds.nil : Wds [] [] := ⟨rfl, fun _ _ h => by cases h⟩
end Mn
set_option Elab.async false
set_option linter.all false
set_option maxRecDepth 100000
set_option maxHeartbeats 4000000
namespace Mn
open PySem PySem.Spec PyProof.Rows L2
end Mn
set_option Elab.async false
set_option linter.all false
set_option maxRecDepth 100000
set_option maxHeartbeats 4000000
namespace Mn
open PySem PySem.Spec PyProof.Rows L2
/-- _law_leaf -/
def g_w_leaf (c_w_of : F) : F := mDef 2 3 (sSeq (sSet 2 (mCB c_w_of (aCons (mVar 0) (aCons (mBin fAdd (mVar 1) (mLst (aCons (mC (.str "0")) (aCons (mC (.str "7")) (aCons (mC (.str "41")) aNil))))) aNil))))
  (sRet (mIf (tVal (mBin fIn (mBin fIx (mVar 2) (mC (.int 0))) (mC (.str "0123456789")))) (mTup (aCons (mTup (aCons (mC (.str "number")) (aCons (mVar 2) aNil))) (aCons (mTup aNil) aNil))) (mTup (aCons (mTup (aCons (mC (.str "name")) (aCons (mVar 2) aNil))) (aCons (mTup aNil) aNil))))))
/-- _law_term -/
def g_w_term (c_w_take : F) (c_w_leaf : F) (c_w_of : F) (c_w_row_of : F) (c_w_e : F) : F := mDef 3 4 (sSeq (sSet 3 (mIf (tVal (mBin fGt (mVar 1) (mC (.int 0)))) (mCB c_w_take (aCons (mVar 0) (aCons (mC (.int 8)) aNil))) (mC (.int 0))))
  (sSeq (sIf (tVal (mBin fLt (mVar 3) (mC (.int 3)))) (sRet (mCB c_w_leaf (aCons (mVar 0) (aCons (mVar 2) aNil)))) sNil)
  (sSeq (sIf (tVal (mBin fLt (mVar 3) (mC (.int 6)))) (sRet (mTup (aCons (mTup (aCons (mC (.str "call")) (aCons (mCB c_w_of (aCons (mVar 0) (aCons (mVar 2) aNil))) aNil))) (aCons (mTup (aCons (mCB c_w_row_of (aCons (mVar 0) (aCons (mBin fSub (mVar 1) (mC (.int 1))) (aCons (mVar 2) aNil)))) aNil)) aNil)))) sNil)
  (sSeq (sIf (tVal (mBin fEq (mVar 3) (mC (.int 6)))) (sRet (mTup (aCons (mTup (aCons (mC (.str "list")) aNil)) (aCons (mTup (aCons (mCB c_w_row_of (aCons (mVar 0) (aCons (mBin fSub (mVar 1) (mC (.int 1))) (aCons (mVar 2) aNil)))) aNil)) aNil)))) sNil)
  (sRet (mTup (aCons (mTup (aCons (mC (.str "in")) aNil)) (aCons (mTup (aCons (mTup (aCons (mCB c_w_e (aCons (mVar 0) (aCons (mBin fSub (mVar 1) (mC (.int 1))) (aCons (mVar 2) aNil)))) aNil)) aNil)) aNil))))))))
/-- _law_e -/
def g_w_e (c_w_take : F) (c_w_term : F) (c_w_of : F) : F := mDef 3 5 (sSeq (sIf (tOr (tVal (mBin fLt (mVar 1) (mC (.int 1)))) (tVal (mBin fGt (mCB c_w_take (aCons (mVar 0) (aCons (mC (.int 3)) aNil))) (mC (.int 0))))) (sRet (mCB c_w_term (aCons (mVar 0) (aCons (mVar 1) (aCons (mVar 2) aNil))))) sNil)
  (sSeq (sSet 3 (mLst (aCons (mTup (aCons (mTup (aCons (mC (.str "plus")) aNil)) (aCons (mTup (aCons (mTup (aCons (mCB c_w_term (aCons (mVar 0) (aCons (mBin fSub (mVar 1) (mC (.int 1))) (aCons (mVar 2) aNil)))) aNil)) aNil)) aNil))) aNil)))
  (sSeq (sFor (iRange1 (aCons (mBin fAdd (mC (.int 1)) (mCB c_w_take (aCons (mVar 0) (aCons (mC (.int 3)) aNil)))) aNil)) (.nm 4) (sDrop (mMt "list" fAppend (mVar 3) (aCons (mTup (aCons (mTup (aCons (mCB c_w_of (aCons (mVar 0) (aCons (mLst (aCons (mC (.str "plus")) (aCons (mC (.str "minus")) aNil))) aNil))) aNil)) (aCons (mTup (aCons (mTup (aCons (mCB c_w_term (aCons (mVar 0) (aCons (mBin fSub (mVar 1) (mC (.int 1))) (aCons (mVar 2) aNil)))) aNil)) aNil)) aNil))) aNil))))
  (sRet (mTup (aCons (mTup (aCons (mC (.str "sum")) aNil)) (aCons (mTup (aCons (mCB cTuple (aCons (mVar 3) aNil)) aNil)) aNil)))))))
/-- _law_row_of -/
def g_w_row_of (c_w_take : F) (c_w_e : F) : F := mDef 3 4 (sRet (mCB cTuple (aCons (mComp (iRange1 (aCons (mCB c_w_take (aCons (mVar 0) (aCons (mC (.int 4)) aNil))) aNil)) (.nm 3) tYesM (mCB c_w_e (aCons (mVar 0) (aCons (mVar 1) (aCons (mVar 2) aNil)))) [3]) aNil)))
theorem part_mk {n : Nat} {kinds : List Str} {k : Str} {r lots : List D} (h1 : isIn (.str k) kinds = true) (h2 : labB k r = true) (h3 : lots.length = (sortsOf k).length) (h4 : ∀ q ∈ List.zip lots (sortsOf k), lotS (partB n) q.2 q.1 = true) : partB (n + 1) kinds (.tup [.tup (.str k :: r), .tup lots]) = true := by
  show (isIn (.str k) kinds && (labB k r && (decide (lots.length = (sortsOf k).length) && (List.zip lots (sortsOf k)).all fun q => lotS (partB n) q.2 q.1))) = true
  rw [h1, h2, decide_eq_true h3, List.all_eq_true.mpr h4]
  rfl
theorem lot_mk {n : Nat} {s : Str} {items : List D} (h1 : (formOf s).least ≤ items.length) (h2 : mostOk (formOf s).most items.length = true) (h3 : ∀ d ∈ items, partB n (formOf s).kinds d = true) (h4 : s = "terms with signs" → plus1 items = true) : lotS (partB n) s (.tup items) = true := by
  show (decide ((formOf s).least ≤ items.length) && (mostOk (formOf s).most items.length && (items.all (partB n (formOf s).kinds) && (!(decide (s = "terms with signs")) || plus1 items)))) = true
  rw [decide_eq_true h1, h2, List.all_eq_true.mpr h3]
  by_cases z : s = "terms with signs"
  · rw [h4 z, Bool.or_true]; rfl
  · rw [decide_eq_false z]; rfl
theorem isIn_sub {d : D} {a b : List Str} (h : ∀ k ∈ a, k ∈ b) (hd : isIn d a = true) : isIn d b = true := by
  obtain ⟨k, hk, e⟩ := isIn_str hd
  exact List.any_eq_true.mpr ⟨k, h k hk, decide_eq_true e⟩
theorem part_sub {n : Nat} {a b : List Str} {d : D} (h : ∀ k ∈ a, k ∈ b) (hd : partB n a d = true) : partB n b d = true := by
  cases n with
  | zero => cases hd
  | succ n =>
    unfold partB at hd
    split at hd
    · rename_i n' kinds k r lots hn
      injection hn with hn
      subst hn
      rw [Bool.and_eq_true] at hd
      show (isIn (.str k) b && _) = true
      rw [isIn_sub h hd.1, hd.2]
      rfl
    · cases hd
/-- drawn: data without lists, of bounded size, a part of these kinds -/
structure Dr (kinds : List Str) (g W h : Nat) (d : D) : Prop where
  vl : ∀ p S, Vl p 0 8 W h S d
  ok : ∀ n, g ≤ n → partB n kinds d = true
theorem Dr.le {kinds kinds' : List Str} {g W h g' W' h' : Nat} {d : D} (x : Dr kinds g W h d) (hk : ∀ k ∈ kinds, k ∈ kinds') (a : g ≤ g') (b : W ≤ W') (c : h ≤ h') : Dr kinds' g' W' h' d :=
  ⟨fun p S => (x.vl p S).le (Nat.le_refl _) (Nat.le_refl _) b c, fun n hn => part_sub hk (x.ok n (Nat.le_trans a hn))⟩
/-- words of a vocabulary -/
def Wd (x : Str) : Prop := nameB x = true ∧ x.length ≤ 8 ∧ (x.cps.toList.all fun c => decide (c < 128)) = true
theorem vl_str {p S} {x : Str} (h : (x.cps.toList.all fun c => decide (c < 128)) = true) : Vl p 0 8 x.length 0 S (.str x) := ⟨.str x, rfl, h, Nat.le_refl _, Nat.le_refl _⟩
theorem vl_two {p S} {a b : D} {W1 W2 h1 h2 : Nat} (x : Vl p 0 8 W1 h1 S a) (y : Vl p 0 8 W2 h2 S b) : Vl p 0 8 (W1 + W2 + 2) (max h1 h2 + 1) S (.tup [a, b]) :=
  ((Vls.cons x (Vls.cons y Vls.nil)).le (Nat.le_refl _) (Nat.le_refl _) (by omega) (by omega)).tup (by show 2 ≤ 8; decide)
theorem vl_one {p S} {a : D} {W1 h1 : Nat} (x : Vl p 0 8 W1 h1 S a) : Vl p 0 8 (W1 + 1) (h1 + 1) S (.tup [a]) :=
  ((Vls.cons x Vls.nil).le (Nat.le_refl _) (Nat.le_refl _) (by omega) (by omega)).tup (by show 1 ≤ 8; decide)
theorem vl_nil {p S} : Vl p 0 8 0 1 S (.tup []) := Vls.nil.tup (by show 0 ≤ 8; decide)
theorem at_app {S : Sto} {q : Nat} {o : Ob} (h : S[q]? = some o) (l : List Ob) : (S ++ l)[q]? = some o := by
  rw [List.getElem?_append_left (List.getElem?_eq_some_iff.mp h).1]
  exact h
/-- a leaf -/
theorem leaf_dr {x : Str} (h : Wd x) : Dr kTerms 1 18 2 (.tup [.tup [.str "name", .str x], .tup []]) := by
  refine ⟨fun p S => ?_, fun n hn => ?_⟩
  · have a := vl_two (vl_two (p := p) (S := S) (vl_str (x := "name") (by decide +kernel)) (vl_str h.2.2)) vl_nil
    have := h.2.1
    exact a.le (Nat.le_refl _) (Nat.le_refl _) (by show 4 + x.length + 2 + 0 + 2 ≤ 18; omega) (by decide)
  · obtain ⟨m, rfl⟩ : ∃ m, n = m + 1 := ⟨n - 1, by omega⟩
    exact part_mk (by decide +kernel) (by show nameB x = true; exact h.1) rfl (fun q hq => by cases hq)
theorem leafN_dr {x : Str} (h : numB x = true) (hl : x.length ≤ 6) (ha : (x.cps.toList.all fun c => decide (c < 128)) = true) : Dr kTerms 1 18 2 (.tup [.tup [.str "number", .str x], .tup []]) := by
  refine ⟨fun p S => ?_, fun n hn => ?_⟩
  · have a := vl_two (vl_two (p := p) (S := S) (vl_str (x := "number") (by decide +kernel)) (vl_str ha)) vl_nil
    exact a.le (Nat.le_refl _) (Nat.le_refl _) (by show 6 + x.length + 2 + 0 + 2 ≤ 18; omega) (by decide)
  · obtain ⟨m, rfl⟩ : ∃ m, n = m + 1 := ⟨n - 1, by omega⟩
    exact part_mk (by decide +kernel) (by show numB x = true; exact h) rfl (fun q hq => by cases hq)
theorem name_first {x : Str} (h : nameB x = true) : ∃ c, atI x.cps.toList 0 = some c ∧ inS ⟨#[c]⟩ "0123456789" = false := by
  unfold nameB at h
  rw [Bool.and_eq_true, Bool.and_eq_true, Bool.and_eq_true] at h
  obtain ⟨c, e1, e2⟩ := head_at (of_decide_eq_true h.1)
  refine ⟨c, e1, ?_⟩
  have hc : c ∈ x.cps.toList := by
    cases hx : x.cps.toList with
    | nil => rw [hx] at e2; cases e2
    | cons a r =>
      rw [hx] at e2
      injection e2 with e2
      rw [e2]
      exact List.mem_cons_self
  have hl := of_decide_eq_true (List.all_eq_true.mp h.2.2.1 c hc)
  have all : (("abcdefghijklmnopqrstuvwxyz" : Str).cps.toList.all fun c => !(inS ⟨#[c]⟩ "0123456789")) = true := by decide +kernel
  have := List.all_eq_true.mp all c hl
  rw [Bool.not_eq_true'] at this
  exact this
/-- a vocabulary at n -/
def Voc (n : Nat) (ws : List Str) (p : Nat) (S : Sto) : Prop := S[n]? = some (.lst (ws.map .str)) ∧ n ≠ p ∧ (∀ x ∈ ws, Wd x) ∧ 0 < ws.length ∧ ws.length < 100
theorem Voc.ext {n p : Nat} {ws : List Str} {S S' : Sto} (v : Voc n ws p S) (x : Ext p S S') : Voc n ws p S' := ⟨x.at_ v.1 v.2.1, v.2⟩
theorem leaf_wp {p n : Nat} {c : Int} {ws : List Str} {S : Sto} {Q : D → Sto → Prop} (h : Pot p c S) (hc : c < 2 ^ 40) (v : Voc n ws p S) (q : ∀ d S', Ext p S S' → Pot p (c + 1) S' → Dr kTerms 1 18 2 d → Q d S') : (g_w_leaf (fOf fTake) [.ref p, .ref n] S).wp Q := by
  have sl : ∀ n : Nat, n ≤ 200 → n ≤ sizeLine := fun n h => by rw [sizeLine_eq]; omega
  obtain ⟨hv, np, hw, h0, h1⟩ := v
  unfold g_w_leaf
  refine w_def rfl ?_
  simp only [s_nil, s_seq, s_drop, s_ret, s_set, s_if, s_par, s_put, s_for, w_var, w_c, w_bin, w_un, w_nil, w_cons, w_cb, w_tup, w_lst, w_val, w_tnot, w_tand, w_tor, w_and, w_or, w_not, w_if, w_chain, w_isi, w_mt, w_tab, w_onone, w_osome, w_sl, List.map_cons, List.map_nil, List.length_cons, List.length_nil, List.cons_append, List.nil_append, List.getElem?_cons_zero, List.getElem?_cons_succ, List.set_cons_zero, List.set_cons_succ, List.reduceReplicate, Nat.reduceAdd, Nat.reduceSub]
  refine ⟨sl _ (by decide), ?_⟩
  have hl := h.lt
  have hnl := (List.getElem?_eq_some_iff.mp hv).1
  rw [w_addL (at_app hv _) List.getElem?_concat_length]
  refine ⟨sl _ (by rw [List.length_map]; simp only [List.length_cons, List.length_nil]; omega), ?_⟩
  refine of_wp (ds := ws.map .str ++ [.str "0", .str "7", .str "41"]) ((h.app _).app _) hc List.getElem?_concat_length (by rw [List.length_append]; omega) (by rw [List.length_append]; simp) (by rw [List.length_append, List.length_map]; simp only [List.length_cons, List.length_nil]; omega) fun d S' hd x hp => ?_
  have xx : Ext p S S' := (((Ext.refl p S).app _).app _).trans x
  have s3 : ∀ a b : D, ([a, b].length ≤ sizeLine) := fun _ _ => sl 2 (by decide)
  rcases List.mem_append.mp hd with hd | hd
  · obtain ⟨y, hy, rfl⟩ := List.mem_map.mp hd
    have wy := hw y hy
    obtain ⟨ch, e1, e2⟩ := name_first wy.1
    rw [w_ixS]
    refine ⟨sl _ (by have := wy.2.1; omega), ch, e1, ?_⟩
    rw [w_in (b := inS ⟨#[ch]⟩ "0123456789") rfl, e2]
    refine ⟨_, rfl, ?_⟩
    simp only [Bool.not_false, Bool.not_true, Bool.false_eq_true, if_true, if_false, Bool.and_true, Bool.true_and, Bool.false_and, Bool.and_false, Bool.or_true, Bool.true_or, Bool.or_false, Bool.false_or]
    exact ⟨sl _ (by decide), sl _ (by decide), sl _ (by decide), q _ _ xx hp (leaf_dr wy)⟩
  · have key : ∀ y : Str, numB y = true → y.length ≤ 6 → (y.cps.toList.all fun c => decide (c < 128)) = true → (∃ ch, atI y.cps.toList 0 = some ch ∧ inS ⟨#[ch]⟩ "0123456789" = true) → d = .str y → (match d with | .str _ => True | _ => True) → (fIx d (.int 0) S').wp fun x S_1 => (fIn x (.str "0123456789") S_1).wp fun d_1 S_2 => ∃ x, d_1 = .bl x ∧ if x = true then [D.str "number", d].length ≤ sizeLine ∧ ([] : List D).length ≤ sizeLine ∧ [D.tup [.str "number", d], .tup []].length ≤ sizeLine ∧ Q (.tup [.tup [.str "number", d], .tup []]) S_2 else [D.str "name", d].length ≤ sizeLine ∧ ([] : List D).length ≤ sizeLine ∧ [D.tup [.str "name", d], .tup []].length ≤ sizeLine ∧ Q (.tup [.tup [.str "name", d], .tup []]) S_2 := by
      intro y k1 k2 k3 ⟨ch, k4, k5⟩ e _
      subst e
      rw [w_ixS]
      refine ⟨sl _ (by omega), ch, k4, ?_⟩
      rw [w_in (b := inS ⟨#[ch]⟩ "0123456789") rfl, k5]
      refine ⟨_, rfl, ?_⟩
      simp only [if_true]
      exact ⟨sl 2 (by decide), sl 0 (by decide), sl 2 (by decide), q _ _ xx hp (leafN_dr k1 k2 k3)⟩
    have fin : (fIx d (.int 0) S').wp fun x S_1 => (fIn x (.str "0123456789") S_1).wp fun d_1 S_2 => ∃ x, d_1 = .bl x ∧ if x = true then [D.str "number", d].length ≤ sizeLine ∧ ([] : List D).length ≤ sizeLine ∧ [D.tup [.str "number", d], .tup []].length ≤ sizeLine ∧ Q (.tup [.tup [.str "number", d], .tup []]) S_2 else [D.str "name", d].length ≤ sizeLine ∧ ([] : List D).length ≤ sizeLine ∧ [D.tup [.str "name", d], .tup []].length ≤ sizeLine ∧ Q (.tup [.tup [.str "name", d], .tup []]) S_2 := by
      simp only [List.mem_cons, List.not_mem_nil, or_false] at hd
      rcases hd with e | e | e
      · exact key "0" (by decide +kernel) (by decide +kernel) (by decide +kernel) ⟨48, by decide +kernel, by decide +kernel⟩ e (by subst e; trivial)
      · exact key "7" (by decide +kernel) (by decide +kernel) (by decide +kernel) ⟨55, by decide +kernel, by decide +kernel⟩ e (by subst e; trivial)
      · exact key "41" (by decide +kernel) (by decide +kernel) (by decide +kernel) ⟨52, by decide +kernel, by decide +kernel⟩ e (by subst e; trivial)
    exact fin
/-- weights, takes -/
def Bw : Nat → Nat
  | 0 => 18
  | d + 1 => 4 * Bw d + 60
def Ct : Nat → Nat
  | 0 => 1
  | d + 1 => 12 * Ct d + 18
def Ce (d : Nat) : Nat := 4 * Ct d + 5
def GenOk (kinds : List Str) (d C : Nat) (f : F) : Prop := ∀ (p n : Nat) (c : Int) (ws : List Str) (S : Sto) (Q : D → Sto → Prop), Pot p c S → c + (C : Nat) < 2 ^ 40 → Voc n ws p S → (∀ r S', Ext p S S' → Pot p (c + (C : Nat)) S' → Dr kinds (2 * d + 1) (Bw d) (6 * d + 2) r → Q r S') → (f [.ref p, .int (d : Nat), .ref n] S).wp Q
/-- drawn lists -/
structure DrL (kinds : List Str) (g W h : Nat) (ds : List D) : Prop where
  vl : ∀ p S, Vls p 0 8 W h S ds
  ok : ∀ d ∈ ds, ∀ n, g ≤ n → partB n kinds d = true
theorem DrL.nil {kinds : List Str} {g h : Nat} : DrL kinds g 0 h [] := ⟨fun p S => Vls.nil.le (Nat.le_refl _) (Nat.le_refl _) (Nat.le_refl _) (Nat.zero_le _), fun d h => by cases h⟩
theorem DrL.snoc {kinds : List Str} {g W W' h : Nat} {ds : List D} {d : D} (a : DrL kinds g W h ds) (b : Dr kinds g W' h d) : DrL kinds g (W + (W' + 1)) h (ds ++ [d]) :=
  ⟨fun p S => (a.vl p S).append ((Vls.cons (b.vl p S) Vls.nil).le (Nat.le_refl _) (Nat.le_refl _) (by omega) (by omega)), fun x hx => by
    rcases List.mem_append.mp hx with h | h
    · exact a.ok x h
    · rw [List.mem_singleton.mp h]; exact b.ok⟩
def RowOk (d C : Nat) (f : F) : Prop := ∀ (p n : Nat) (c : Int) (ws : List Str) (S : Sto) (Q : D → Sto → Prop), Pot p c S → c + (C : Nat) < 2 ^ 40 → Voc n ws p S → (∀ (items : List D) S', Ext p S S' → Pot p (c + (C : Nat)) S' → DrL kExprs (2 * d + 1) (3 * (Bw d + 1)) (6 * d + 2) items → items.length ≤ 3 → Q (.tup items) S') → (f [.ref p, .int (d : Nat), .ref n] S).wp Q
/-- tuple([f(..) for lap in range(take(..))]) -/
theorem rowc_wp {p m : Nat} {c : Int} {C : Nat} {S0 S : Sto} {ρ : En} {i : Nat} {elt : M} {r : Int} {Q : D → Sto → Prop} (I : List D → Prop) (h0 : I []) (hr0 : 0 ≤ r) (hr : r ≤ (m : Nat)) (hm : m ≤ 100) (hi : Pot p c S) (x0 : Ext p S0 S)
    (he : ∀ (k : Nat) (d : D) (S' : Sto) (acc : List D) (Q' : D → Sto → Prop), k < m → Ext p S0 S' → Pot p (c + (k : Nat) * (C : Nat)) S' → I acc → acc.length = k → (∀ y S'', Ext p S' S'' → Pot p (c + ((k + 1 : Nat) : Int) * (C : Nat)) S'' → I (acc ++ [y]) → Q' y S'') → (elt ((wipeE ρ [i]).set i (some d)) S').wp Q')
    (q : ∀ items S', I items → items.length ≤ m → Ext p S0 S' → Pot p (c + (m : Nat) * (C : Nat)) S' → Q (.tup items) S') :
    (mCompL (.nm i) tYesM elt always S.length (wipeE ρ [i]) ((List.range r.toNat).map fun i => D.int (0 + (i : Nat))) (S ++ [.lst []])).wp fun x S => (cTuple [x] S).wp Q := by
  have hp0 := hi.lt
  have hlen : S0.length ≤ S.length := x0.1
  refine comp_wp (I := fun l acc S' => Ext p S0 S' ∧ S.length ≤ S'.length ∧ Pot p (c + (acc.length : Nat) * (C : Nat)) S' ∧ I acc ∧ acc.length + l.length = r.toNat) (fun _ _ _ _ => rfl) (fun d l acc S' => ?_) (fun acc S' => ?_) _ [] _ ⟨x0.app _, by rw [List.length_append]; omega, by
      have := hi.app [.lst []]
      simpa using this, h0, by simp⟩ List.getElem?_concat_length
  · rintro ⟨x, hl, hp, ha, hn⟩ hs
    refine ⟨_, rfl, ?_⟩
    rw [List.length_cons] at hn
    refine he acc.length d S' acc _ (by omega) x hp ha rfl fun y S'' x2 hp2 ha2 => ⟨x2.at_ hs (by omega), ?_, ?_, ?_, ?_, ha2, ?_⟩
    · have : acc.length < 100 := by omega
      rw [sizeLine_eq]
      omega
    · exact (x.trans x2).set (by omega) _
    · rw [List.length_set]
      exact Nat.le_trans hl x2.1
    · rw [List.length_append, List.length_singleton]
      exact hp2.set (by omega) _
    · rw [List.length_append, List.length_singleton]
      omega
  · rintro ⟨x, hl, hp, ha, hn⟩ hs
    rw [w_tupL hs]
    rw [List.length_nil] at hn
    have hle : acc.length ≤ m := by omega
    refine q acc S' ha hle x (hp.le ?_)
    have : ((acc.length : Nat) : Int) * (C : Nat) ≤ (m : Nat) * (C : Nat) := Int.mul_le_mul_of_nonneg_right (by omega) (by omega)
    omega
theorem row_of {d : Nat} {e : F} (E : GenOk kExprs d (Ce d) e) : RowOk d (1 + 3 * Ce d) (g_w_row_of fTake e) := by
  intro p n c ws S Q h hc v q
  unfold g_w_row_of
  refine w_def rfl ?_
  rw [s_ret, w_cb, w_cons]
  refine w_comp rfl ?_
  rw [i_range1]
  simp only [w_cb, w_cons, w_nil, w_var, w_c, List.map_cons, List.map_nil, List.length_cons, List.length_nil, List.cons_append, List.nil_append, List.getElem?_cons_zero, List.getElem?_cons_succ, List.reduceReplicate, Nat.reduceAdd, Nat.reduceSub]
  refine take_wp h (by omega) (by decide) (by decide) fun r S1 r0 r1 x1 h1 => ⟨r, rfl, by unfold smallI; rw [decide_eq_true (by omega), decide_eq_true (by omega)]; rfl, ?_⟩
  refine rowc_wp (m := 3) (C := Ce d) (c := c + 1) (fun acc => DrL kExprs (2 * d + 1) (acc.length * (Bw d + 1)) (6 * d + 2) acc) (by rw [List.length_nil, Nat.zero_mul]; exact DrL.nil) r0 (by omega) (by decide) h1 x1 (fun k d' S' acc Q' hk x hp ha hl q' => ?_) (fun items S' hi hl x hp => ?_)
  · simp only [w_cb, w_cons, w_nil, w_var, w_c, wipeE, List.map_cons, List.map_nil, List.length_cons, List.length_nil, List.cons_append, List.nil_append, List.getElem?_cons_zero, List.getElem?_cons_succ, List.set_cons_zero, List.set_cons_succ]
    have hk3 : k ≤ 2 := by omega
    have hb : ((k : Nat) : Int) * (Ce d : Nat) ≤ 2 * (Ce d : Nat) := Int.mul_le_mul_of_nonneg_right (by omega) (by omega)
    refine E p n _ ws S' Q' hp (by push_cast at hc ⊢; omega) (v.ext x) fun y S'' x2 hp2 dr => q' y S'' x2 (hp2.le ?_) ?_
    · push_cast
      rw [Int.add_mul, Int.one_mul]
      omega
    · have := ha.snoc dr
      refine ⟨fun p S => (this.vl p S).le (Nat.le_refl _) (Nat.le_refl _) ?_ (Nat.le_refl _), this.ok⟩
      rw [List.length_append, List.length_singleton, Nat.add_mul, Nat.one_mul]
      omega
  · refine q items S' x (hp.le (by push_cast; omega)) ⟨fun p S => (hi.vl p S).le (Nat.le_refl _) (Nat.le_refl _) (Nat.mul_le_mul_right _ hl) (Nat.le_refl _), hi.ok⟩ hl
theorem sub_nat (d : Nat) : (((d + 1 : Nat) : Int) - 1) = (d : Nat) := by omega
theorem term_zero {of row e : F} : GenOk kTerms 0 (Ct 0) (g_w_term fTake (g_w_leaf (fOf fTake)) of row e) := by
  intro p n c ws S Q h hc v q
  unfold g_w_term
  refine w_def rfl ?_
  rw [s_seq, s_set]
  simp only [w_if, w_val, w_bin, w_cb, w_cons, w_nil, w_var, w_c, List.map_cons, List.map_nil, List.length_cons, List.length_nil, List.cons_append, List.nil_append, List.getElem?_cons_zero, List.getElem?_cons_succ, List.set_cons_zero, List.set_cons_succ, List.reduceReplicate, Nat.reduceAdd, Nat.reduceSub]
  rw [w_fI]
  refine ⟨rfl, _, rfl, ?_⟩
  rw [if_neg (by decide), s_seq, s_if]
  simp only [w_if, w_val, w_bin, w_cb, w_cons, w_nil, w_var, w_c, s_ret, List.getElem?_cons_zero, List.getElem?_cons_succ]
  rw [w_fI]
  refine ⟨rfl, _, rfl, ?_⟩
  rw [if_pos (by decide)]
  exact leaf_wp h (by unfold Ct at hc; omega) v fun r S' x hp dr => q r S' x hp dr
/-- what a lot's items are for -/
theorem call_dr {d : Nat} {x : Str} {items : List D} (hx : Wd x) (a : DrL kExprs (2 * d + 1) (3 * (Bw d + 1)) (6 * d + 2) items) (hl : items.length ≤ 3) : Dr kTerms (2 * (d + 1) + 1) (Bw (d + 1)) (6 * (d + 1) + 2) (.tup [.tup [.str "call", .str x], .tup [.tup items]]) := by
  refine ⟨fun p S => ?_, fun n hn => ?_⟩
  · have b := vl_two (vl_two (p := p) (S := S) (vl_str (x := "call") (by decide +kernel)) (vl_str hx.2.2)) (vl_one ((a.vl p S).tup (by omega)))
    have := hx.2.1
    refine b.le (Nat.le_refl _) (Nat.le_refl _) ?_ (by omega)
    show 4 + x.length + 2 + (3 * (Bw d + 1) + 1) + 2 ≤ 4 * Bw d + 60
    omega
  · obtain ⟨m, rfl⟩ : ∃ m, n = m + 1 := ⟨n - 1, by omega⟩
    refine part_mk (by decide +kernel) (by show nameB x = true; exact hx.1) rfl fun q hq => ?_
    have hq : q ∈ [(D.tup items, ("E's" : Str))] := hq
    rw [List.mem_singleton.mp hq]
    exact lot_mk (Nat.zero_le _) rfl (fun d' hd => a.ok d' hd m (by omega)) (fun z => by cases z)
theorem list_dr {d : Nat} {items : List D} (a : DrL kExprs (2 * d + 1) (3 * (Bw d + 1)) (6 * d + 2) items) (hl : items.length ≤ 3) : Dr kTerms (2 * (d + 1) + 1) (Bw (d + 1)) (6 * (d + 1) + 2) (.tup [.tup [.str "list"], .tup [.tup items]]) := by
  refine ⟨fun p S => ?_, fun n hn => ?_⟩
  · have b := vl_two (vl_one (p := p) (S := S) (vl_str (x := "list") (by decide +kernel))) (vl_one ((a.vl p S).tup (by omega)))
    refine b.le (Nat.le_refl _) (Nat.le_refl _) ?_ (by omega)
    show 4 + 1 + (3 * (Bw d + 1) + 1) + 2 ≤ 4 * Bw d + 60
    omega
  · obtain ⟨m, rfl⟩ : ∃ m, n = m + 1 := ⟨n - 1, by omega⟩
    refine part_mk (by decide +kernel) rfl rfl fun q hq => ?_
    have hq : q ∈ [(D.tup items, ("E's" : Str))] := hq
    rw [List.mem_singleton.mp hq]
    exact lot_mk (Nat.zero_le _) rfl (fun d' hd => a.ok d' hd m (by omega)) (fun z => by cases z)
theorem in_dr {d : Nat} {y : D} (a : Dr kExprs (2 * d + 1) (Bw d) (6 * d + 2) y) : Dr kTerms (2 * (d + 1) + 1) (Bw (d + 1)) (6 * (d + 1) + 2) (.tup [.tup [.str "in"], .tup [.tup [y]]]) := by
  refine ⟨fun p S => ?_, fun n hn => ?_⟩
  · have b := vl_two (vl_one (p := p) (S := S) (vl_str (x := "in") (by decide +kernel))) (vl_one (vl_one (a.vl p S)))
    refine b.le (Nat.le_refl _) (Nat.le_refl _) ?_ (by omega)
    show 2 + 1 + (Bw d + 1 + 1) + 2 ≤ 4 * Bw d + 60
    omega
  · obtain ⟨m, rfl⟩ : ∃ m, n = m + 1 := ⟨n - 1, by omega⟩
    refine part_mk (by decide +kernel) rfl rfl fun q hq => ?_
    have hq : q ∈ [(D.tup [y], ("one E" : Str))] := hq
    rw [List.mem_singleton.mp hq]
    exact lot_mk (Nat.le_refl 1) rfl (fun d' hd => by rw [List.mem_singleton.mp hd]; exact a.ok m (by omega)) (fun z => by cases z)
theorem term_succ {d : Nat} {row e : F} (R : RowOk d (1 + 3 * Ce d) row) (E : GenOk kExprs d (Ce d) e) : GenOk kTerms (d + 1) (Ct (d + 1)) (g_w_term fTake (g_w_leaf (fOf fTake)) (fOf fTake) row e) := by
  intro p n c ws S Q h hc v q
  have sl : ∀ n : Nat, n ≤ 200 → n ≤ sizeLine := fun n h => by rw [sizeLine_eq]; omega
  have ct : Ct (d + 1) = 12 * Ct d + 18 := rfl
  have ce : Ce d = 4 * Ct d + 5 := rfl
  unfold g_w_term
  refine w_def rfl ?_
  rw [s_seq, s_set]
  simp only [w_if, w_val, w_bin, w_cb, w_cons, w_nil, w_var, w_c, List.map_cons, List.map_nil, List.length_cons, List.length_nil, List.cons_append, List.nil_append, List.getElem?_cons_zero, List.getElem?_cons_succ, List.set_cons_zero, List.set_cons_succ, List.reduceReplicate, Nat.reduceAdd, Nat.reduceSub]
  rw [w_fI]
  refine ⟨rfl, _, rfl, ?_⟩
  rw [if_pos (decide_eq_true (by omega))]
  refine take_wp h (by omega) (by decide) (by decide) fun r S1 r0 r1 x1 h1 => ?_
  have v1 := v.ext x1
  rw [s_seq, s_if]
  simp only [w_val, w_bin, w_cb, w_cons, w_nil, w_var, w_c, s_ret, List.getElem?_cons_zero, List.getElem?_cons_succ]
  rw [w_fI]
  refine ⟨rfl, _, rfl, ?_⟩
  by_cases c3 : r < 3
  · rw [if_pos (decide_eq_true c3)]
    exact leaf_wp h1 (by omega) v1 fun y S' x hp dr => q y S' (x1.trans x) (hp.le (by rw [ct]; push_cast; omega)) (dr.le (fun _ h => h) (by omega) (by show 18 ≤ 4 * Bw d + 60; omega) (by omega))
  · rw [if_neg (by rw [decide_eq_false c3]; exact Bool.false_ne_true), s_nil, s_seq, s_if]
    simp only [w_val, w_bin, w_cb, w_cons, w_nil, w_var, w_c, w_tup, s_ret, List.getElem?_cons_zero, List.getElem?_cons_succ]
    rw [w_fI]
    refine ⟨rfl, _, rfl, ?_⟩
    by_cases c6 : r < 6
    · rw [if_pos (decide_eq_true c6)]
      obtain ⟨hv, np, hw, w0, w1⟩ := v1
      refine of_wp h1 (by omega) hv np (by rw [List.length_map]; exact w0) (by rw [List.length_map]; omega) fun y S2 hy x2 h2 => ⟨sl _ (by simp), ?_⟩
      obtain ⟨x, hx, rfl⟩ := List.mem_map.mp hy
      rw [w_fI]
      refine ⟨rfl, ?_⟩
      rw [sub_nat]
      refine R p n _ ws S2 _ h2 (by rw [ct] at hc; push_cast at hc ⊢; omega) ((v.ext x1).ext x2) fun items S3 x3 h3 dl hl => ⟨sl _ (by simp), sl _ (by simp), ?_⟩
      exact q _ S3 ((x1.trans x2).trans x3) (h3.le (by rw [ct]; push_cast; omega)) (call_dr (hw x hx) dl hl)
    · rw [if_neg (by rw [decide_eq_false c6]; exact Bool.false_ne_true), s_nil, s_seq, s_if]
      simp only [w_val, w_bin, w_cb, w_cons, w_nil, w_var, w_c, w_tup, s_ret, List.getElem?_cons_zero, List.getElem?_cons_succ]
      rw [w_eq eqN_int]
      refine ⟨_, rfl, ?_⟩
      by_cases e6 : r = 6
      · rw [if_pos (by rw [beq_iff_eq]; exact e6)]
        refine ⟨sl _ (by simp), ?_⟩
        rw [w_fI]
        refine ⟨rfl, ?_⟩
        rw [sub_nat]
        refine R p n _ ws S1 _ h1 (by rw [ct] at hc; push_cast at hc ⊢; omega) v1 fun items S3 x3 h3 dl hl => ⟨sl _ (by simp), sl _ (by simp), ?_⟩
        exact q _ S3 (x1.trans x3) (h3.le (by rw [ct]; push_cast; omega)) (list_dr dl hl)
      · rw [if_neg (by rw [beq_iff_eq]; exact e6), s_nil]
        simp only [w_val, w_bin, w_cb, w_cons, w_nil, w_var, w_c, w_tup, s_ret, List.getElem?_cons_zero, List.getElem?_cons_succ]
        refine ⟨sl _ (by simp), ?_⟩
        rw [w_fI]
        refine ⟨rfl, ?_⟩
        rw [sub_nat]
        refine E p n _ ws S1 _ h1 (by rw [ct] at hc; push_cast at hc ⊢; omega) v1 fun y S3 x3 h3 dr => ⟨sl _ (by simp), sl _ (by simp), sl _ (by simp), ?_⟩
        exact q _ S3 (x1.trans x3) (h3.le (by rw [ct]; push_cast; omega)) (in_dr dr)
end Mn
set_option Elab.async false
set_option linter.all false
set_option maxRecDepth 100000
set_option maxHeartbeats 4000000
namespace Mn
open PySem PySem.Spec PyProof.Rows L2
def kLimbs : List Str := ["plus", "minus"]
theorem limb_dr {d : Nat} {x : Str} {y : D} (hx : x = "plus" ∨ x = "minus") (a : Dr kTerms (2 * d + 1) (Bw d) (6 * d + 2) y) : Dr kLimbs (2 * d + 2) (Bw d + 10) (6 * d + 5) (.tup [.tup [.str x], .tup [.tup [y]]]) := by
  have as : (x.cps.toList.all fun c => decide (c < 128)) = true ∧ x.length ≤ 5 ∧ isIn (.str x) kLimbs = true ∧ labB x [] = true ∧ sortsOf x = [("one term" : Str)] := by
    rcases hx with rfl | rfl <;> decide +kernel
  obtain ⟨a1, a2, a3, a4, a5⟩ := as
  refine ⟨fun p S => ?_, fun n hn => ?_⟩
  · have b := vl_two (vl_one (p := p) (S := S) (vl_str a1)) (vl_one (vl_one (a.vl p S)))
    refine b.le (Nat.le_refl _) (Nat.le_refl _) ?_ (by omega)
    omega
  · obtain ⟨m, rfl⟩ : ∃ m, n = m + 1 := ⟨n - 1, by omega⟩
    refine part_mk a3 a4 (by rw [a5]; rfl) fun q hq => ?_
    rw [a5] at hq
    have hq : q ∈ [(D.tup [y], ("one term" : Str))] := hq
    rw [List.mem_singleton.mp hq]
    exact lot_mk (Nat.le_refl 1) rfl (fun d' hd => by rw [List.mem_singleton.mp hd]; exact a.ok m (by omega)) (fun z => by cases z)
theorem plus1_app {ds es : List D} (h : plus1 ds = true) : plus1 (ds ++ es) = true := by
  unfold plus1 at h
  split at h
  · exact h
  · cases h
theorem sum_dr {d : Nat} {items : List D} (a : DrL kLimbs (2 * d + 2) (4 * (Bw d + 11)) (6 * d + 5) items) (h2 : 2 ≤ items.length) (h4 : items.length ≤ 4) (hp : plus1 items = true) : Dr kExprs (2 * (d + 1) + 1) (Bw (d + 1)) (6 * (d + 1) + 2) (.tup [.tup [.str "sum"], .tup [.tup items]]) := by
  refine ⟨fun p S => ?_, fun n hn => ?_⟩
  · have b := vl_two (vl_one (p := p) (S := S) (vl_str (x := "sum") (by decide +kernel))) (vl_one ((a.vl p S).tup (by omega)))
    refine b.le (Nat.le_refl _) (Nat.le_refl _) ?_ (by omega)
    show 3 + 1 + (4 * (Bw d + 11) + 1) + 2 ≤ 4 * Bw d + 60
    omega
  · obtain ⟨m, rfl⟩ : ∃ m, n = m + 1 := ⟨n - 1, by omega⟩
    refine part_mk (by decide +kernel) rfl rfl fun q hq => ?_
    have hq : q ∈ [(D.tup items, ("terms with signs" : Str))] := hq
    rw [List.mem_singleton.mp hq]
    exact lot_mk h2 rfl (fun d' hd => a.ok d' hd m (by omega)) (fun _ => hp)
theorem e_zero {T of : F} (t : GenOk kTerms 0 (Ct 0) T) : GenOk kExprs 0 (Ce 0) (g_w_e fTake T of) := by
  intro p n c ws S Q h hc v q
  unfold g_w_e
  refine w_def rfl ?_
  rw [s_seq, s_if]
  simp only [w_tor, w_val, w_bin, w_cb, w_cons, w_nil, w_var, w_c, s_ret, List.map_cons, List.map_nil, List.length_cons, List.length_nil, List.cons_append, List.nil_append, List.getElem?_cons_zero, List.getElem?_cons_succ, List.reduceReplicate, Nat.reduceAdd, Nat.reduceSub]
  rw [w_fI]
  refine ⟨rfl, _, rfl, ?_⟩
  rw [if_pos (by decide)]
  simp only [if_true]
  have hc' : c + (Ct 0 : Nat) < 2 ^ 40 := by unfold Ce Ct at hc; unfold Ct; omega
  exact t p n c ws S Q h hc' v fun r S' x hp dr => q r S' x (hp.le (by unfold Ce Ct; omega)) (dr.le (by decide +kernel) (Nat.le_refl _) (Nat.le_refl _) (Nat.le_refl _))
theorem e_succ {d : Nat} {T : F} (t1 : GenOk kTerms (d + 1) (Ct (d + 1)) T) (t0 : GenOk kTerms d (Ct d) T) : GenOk kExprs (d + 1) (Ce (d + 1)) (g_w_e fTake T (fOf fTake)) := by
  intro p n c ws S Q h hc v q
  have sl : ∀ n : Nat, n ≤ 200 → n ≤ sizeLine := fun n h => by rw [sizeLine_eq]; omega
  have ct : Ct (d + 1) = 12 * Ct d + 18 := rfl
  have ce : Ce (d + 1) = 4 * Ct (d + 1) + 5 := rfl
  unfold g_w_e
  refine w_def rfl ?_
  rw [s_seq, s_if]
  simp only [w_tor, w_val, w_bin, w_cb, w_cons, w_nil, w_var, w_c, s_ret, List.map_cons, List.map_nil, List.length_cons, List.length_nil, List.cons_append, List.nil_append, List.getElem?_cons_zero, List.getElem?_cons_succ, List.reduceReplicate, Nat.reduceAdd, Nat.reduceSub]
  rw [w_fI]
  refine ⟨rfl, _, rfl, ?_⟩
  rw [if_neg (by simp; omega)]
  refine take_wp h (by omega) (by decide) (by decide) fun r S1 r0 r1 x1 h1 => ?_
  rw [w_fI]
  refine ⟨rfl, _, rfl, ?_⟩
  have v1 := v.ext x1
  by_cases c0 : 0 < r
  · rw [if_pos (decide_eq_true c0)]
    exact t1 p n _ ws S1 Q h1 (by rw [ce] at hc; push_cast at hc ⊢; omega) v1 fun y S' x hp dr => q y S' (x1.trans x) (hp.le (by rw [ce]; push_cast; omega)) (dr.le (by decide +kernel) (Nat.le_refl _) (Nat.le_refl _) (Nat.le_refl _))
  · rw [if_neg (by rw [decide_eq_false c0]; exact Bool.false_ne_true), s_nil, s_seq, s_set]
    simp only [w_lst, w_tup, w_bin, w_cb, w_cons, w_nil, w_var, w_c, List.getElem?_cons_zero, List.getElem?_cons_succ]
    refine ⟨sl _ (by simp), ?_⟩
    rw [w_fI]
    refine ⟨rfl, ?_⟩
    rw [sub_nat]
    refine t0 p n _ ws S1 _ h1 (by rw [ce, ct] at hc; push_cast at hc ⊢; omega) v1 fun y S2 x2 h2 dr => ⟨sl _ (by simp), sl _ (by simp), sl _ (by simp), sl _ (by simp), ?_⟩
    have v2 := v1.ext x2
    have l1 := limb_dr (Or.inl rfl) dr
    have hp2 := h2.lt
    have x12 := x1.trans x2
    rw [s_seq, s_for, i_range1]
    simp only [w_bin, w_cb, w_cons, w_nil, w_var, w_c, List.getElem?_cons_zero, List.getElem?_cons_succ, List.set_cons_zero, List.set_cons_succ]
    refine take_wp (h2.app _) (by rw [ce, ct] at hc; push_cast at hc ⊢; omega) (by decide) (by decide) fun r2 S3 r20 r21 x3 h3 => ?_
    rw [w_addI]
    refine ⟨1 + r2, rfl, by unfold smallI; rw [decide_eq_true (by omega), decide_eq_true (by omega)]; rfl, ?_⟩
    have l2 : S3[S2.length]? = some (.lst [.tup [.tup [.str "plus"], .tup [.tup [y]]]]) := x3.at_ List.getElem?_concat_length (by omega)
    refine loop_wp (fun l ρ S' => ∃ acc w, ρ = [some (.ref p), some (.int ((d + 1 : Nat) : Int)), some (.ref n), some (.ref S2.length), w] ∧ S'[S2.length]? = some (.lst acc) ∧ S2.length ≤ S'.length ∧ Ext p S S' ∧ acc.length + l.length = (1 + r2).toNat + 1 ∧ 1 ≤ acc.length ∧ Pot p (c + 1 + (Ct d : Nat) + 1 + ((acc.length - 1 : Nat) : Int) * ((Ct d + 1 : Nat) : Int)) S' ∧ DrL kLimbs (2 * d + 2) (acc.length * (Bw d + 11)) (6 * d + 5) acc ∧ plus1 acc = true)
      (fun _ _ _ _ => rfl) (fun z l ρ S' => ?_) (fun ρ S' => ?_) _ _ S3 ⟨_, _, rfl, l2, ?_, (x12.app _).trans x3, ?_, Nat.le_refl 1, h3.le (by simp), ?_, rfl⟩
    · rintro ⟨acc, w, rfl, hl, hle, x, hn, h1', hp, ha, hpl⟩
      refine ⟨_, rfl, ?_⟩
      simp only [s_drop, w_mt, w_lst, w_tup, w_bin, w_cb, w_cons, w_nil, w_var, w_c, List.getElem?_cons_zero, List.getElem?_cons_succ, List.set_cons_zero, List.set_cons_succ]
      rw [List.length_cons] at hn
      have hk : acc.length - 1 ≤ 2 := by omega
      have hb : ((acc.length - 1 : Nat) : Int) * ((Ct d + 1 : Nat) : Int) ≤ 2 * ((Ct d + 1 : Nat) : Int) := Int.mul_le_mul_of_nonneg_right (by omega) (by omega)
      have hpl' := hp.lt
      have hps : S2.length ≠ p := by omega
      refine ⟨by show kOb S'[S2.length]? = "list"; rw [hl]; rfl, sl _ (by simp), ?_⟩
      refine of_wp (ds := [.str "plus", .str "minus"]) (hp.app _) (by rw [ce, ct] at hc; push_cast at hc hb ⊢; omega) List.getElem?_concat_length (by omega) (by simp) (by simp) fun s S4 hs x4 h4 => ⟨sl _ (by simp), ?_⟩
      rw [w_fI]
      refine ⟨rfl, ?_⟩
      rw [sub_nat]
      have xx := (x.app _).trans x4
      refine t0 p n _ ws S4 _ h4 (by rw [ce, ct] at hc; push_cast at hc hb ⊢; omega) (v.ext xx) fun y2 S5 x5 h5 dr2 => ⟨sl _ (by simp), sl _ (by simp), sl _ (by simp), ?_⟩
      have l5 : S5[S2.length]? = some (.lst acc) := x5.at_ (x4.at_ (at_app hl _) hps) hps
      rw [w_app l5]
      refine ⟨by rw [sizeLine_eq]; omega, ?_⟩
      have hlen : S2.length ≤ S5.length := Nat.le_trans hle (Nat.le_trans (Nat.le_trans (by rw [List.length_append]; omega) x4.1) x5.1)
      have hlt : S2.length < S5.length := (List.getElem?_eq_some_iff.mp l5).1
      obtain ⟨s', hs', rfl⟩ : ∃ s' : Str, (s' = "plus" ∨ s' = "minus") ∧ s = .str s' := by
        simp only [List.mem_cons, List.not_mem_nil, or_false] at hs
        rcases hs with rfl | rfl
        · exact ⟨_, Or.inl rfl, rfl⟩
        · exact ⟨_, Or.inr rfl, rfl⟩
      have hS : S.length ≤ S2.length := x12.1
      refine ⟨acc ++ [_], _, rfl, List.getElem?_set_self hlt, by rw [List.length_set]; exact hlen, (xx.trans x5).set hS _, ?_, ?_, ?_, ?_, plus1_app hpl⟩
      · rw [List.length_append, List.length_singleton]; omega
      · rw [List.length_append, List.length_singleton]; omega
      · refine (h5.set hps _).le ?_
        rw [List.length_append, List.length_singleton]
        have e1 : acc.length + 1 - 1 = (acc.length - 1) + 1 := by omega
        rw [e1]
        push_cast
        rw [Int.add_mul ((acc.length - 1 : Nat) : Int) 1, Int.one_mul]
        omega
      · have := ha.snoc (limb_dr hs' dr2)
        refine ⟨fun p S => (this.vl p S).le (Nat.le_refl _) (Nat.le_refl _) ?_ (Nat.le_refl _), this.ok⟩
        rw [List.length_append, List.length_singleton, Nat.add_mul, Nat.one_mul]
        omega
    · rintro ⟨acc, w, rfl, hl, hle, x, hn, h1', hp, ha, hpl⟩
      simp only [s_ret, w_tup, w_cb, w_cons, w_nil, w_var, w_c, List.getElem?_cons_zero, List.getElem?_cons_succ]
      rw [w_tupL hl]
      rw [List.length_nil] at hn
      refine ⟨sl _ (by simp), sl _ (by simp), sl _ (by simp), q _ S' x (hp.le ?_) (sum_dr ⟨fun p S => (ha.vl p S).le (Nat.le_refl _) (Nat.le_refl _) (Nat.mul_le_mul_right _ (by omega)) (Nat.le_refl _), ha.ok⟩ (by omega) (by omega) hpl)⟩
      have hb : ((acc.length - 1 : Nat) : Int) * ((Ct d + 1 : Nat) : Int) ≤ 3 * ((Ct d + 1 : Nat) : Int) := Int.mul_le_mul_of_nonneg_right (by omega) (by omega)
      rw [ce, ct]
      push_cast at hb ⊢
      omega
    · exact Nat.le_trans (by rw [List.length_append]; omega) x3.1
    · simp
      omega
    · have := DrL.nil.snoc (kinds := kLimbs) (h := 6 * d + 5) l1
      exact ⟨fun p S => (this.vl p S).le (Nat.le_refl _) (Nat.le_refl _) (by show 0 + _ ≤ 1 * _; omega) (Nat.le_refl _), this.ok⟩
end Mn
set_option Elab.async false
set_option linter.all false
set_option maxRecDepth 100000
set_option maxHeartbeats 4000000
namespace Mn
open PySem PySem.Spec PyProof.Rows L2
theorem w_min {S : Sto} {Q : D → Sto → Prop} {i j : Int} : (cMin [.int i, .int j] S).wp Q ↔ Q (.int (if j < i then j else i)) S := Iff.rfl
theorem w_max {S : Sto} {Q : D → Sto → Prop} {i j : Int} : (cMax [.int i, .int j] S).wp Q ↔ Q (.int (if j > i then j else i)) S := Iff.rfl
/-- the defs of drawn expressions, by how deep they may call -/
structure Fam (T E R : Nat → F) : Prop where
  t : ∀ k, 3 ≤ k → T (k + 1) = g_w_term fTake (g_w_leaf (fOf fTake)) (fOf fTake) (R k) (E k)
  e : ∀ k, 3 ≤ k → E (k + 1) = g_w_e fTake (T k) (fOf fTake)
  r : ∀ k, 3 ≤ k → R (k + 1) = g_w_row_of fTake (E k)
theorem Fam.gen {T E R : Nat → F} (f : Fam T E R) : ∀ d, (∀ k, 4 + 3 * d ≤ k → GenOk kTerms d (Ct d) (T k)) ∧ (∀ k, 5 + 3 * d ≤ k → GenOk kExprs d (Ce d) (E k)) ∧ (∀ k, 6 + 3 * d ≤ k → RowOk d (1 + 3 * Ce d) (R k)) := by
  have row : ∀ d, (∀ k, 5 + 3 * d ≤ k → GenOk kExprs d (Ce d) (E k)) → (∀ k, 6 + 3 * d ≤ k → RowOk d (1 + 3 * Ce d) (R k)) := fun d h k hk => by
    obtain ⟨m, rfl⟩ : ∃ m, k = m + 1 := ⟨k - 1, by omega⟩
    rw [f.r m (by omega)]
    exact row_of (h m (by omega))
  intro d
  induction d with
  | zero =>
    have t : ∀ k, 4 + 3 * 0 ≤ k → GenOk kTerms 0 (Ct 0) (T k) := fun k hk => by
      obtain ⟨m, rfl⟩ : ∃ m, k = m + 1 := ⟨k - 1, by omega⟩
      rw [f.t m (by omega)]
      exact term_zero
    have e : ∀ k, 5 + 3 * 0 ≤ k → GenOk kExprs 0 (Ce 0) (E k) := fun k hk => by
      obtain ⟨m, rfl⟩ : ∃ m, k = m + 1 := ⟨k - 1, by omega⟩
      rw [f.e m (by omega)]
      exact e_zero (t m (by omega))
    exact ⟨t, e, row 0 e⟩
  | succ d ih =>
    obtain ⟨t0, e0, r0⟩ := ih
    have t : ∀ k, 4 + 3 * (d + 1) ≤ k → GenOk kTerms (d + 1) (Ct (d + 1)) (T k) := fun k hk => by
      obtain ⟨m, rfl⟩ : ∃ m, k = m + 1 := ⟨k - 1, by omega⟩
      rw [f.t m (by omega)]
      exact term_succ (r0 m (by omega)) (e0 m (by omega))
    have e : ∀ k, 5 + 3 * (d + 1) ≤ k → GenOk kExprs (d + 1) (Ce (d + 1)) (E k) := fun k hk => by
      obtain ⟨m, rfl⟩ : ∃ m, k = m + 1 := ⟨k - 1, by omega⟩
      rw [f.e m (by omega)]
      exact e_succ (t m (by omega)) (t0 m (by omega))
    exact ⟨t, e, row (d + 1) e⟩
def R2 (r : F) : Prop := ∀ d, d ≤ 2 → RowOk d (1 + 3 * Ce d) r
end Mn
set_option Elab.async false
set_option linter.all false
set_option maxRecDepth 100000
set_option maxHeartbeats 4000000
namespace Mn
open PySem PySem.Spec PyProof.Rows L2
theorem z1 {n : Nat} {a : D} {s : Str} (h : lotS (partB n) s a = true) : ∀ q ∈ List.zip [a] [s], lotS (partB n) q.2 q.1 = true := fun q hq => by
  rw [List.mem_singleton.mp hq]
  exact h
end Mn
set_option Elab.async false
set_option linter.all false
set_option maxRecDepth 100000
set_option maxHeartbeats 4000000
namespace Mn
open PySem PySem.Spec PyProof.Rows L2
end Mn
set_option Elab.async false
set_option linter.all false
set_option maxRecDepth 100000
set_option maxHeartbeats 4000000
namespace Mn
open PySem PySem.Spec PyProof.Rows L2
end Mn
set_option Elab.async false
set_option linter.all false
set_option maxRecDepth 100000
set_option maxHeartbeats 4000000
namespace Mn
open PySem PySem.Spec PyProof.Rows L2
end Mn
set_option Elab.async false
set_option linter.all false
set_option maxRecDepth 100000
set_option maxHeartbeats 4000000
namespace Mn
open PySem PySem.Spec PyProof.Rows L2
end Mn
set_option Elab.async false
set_option linter.all false
set_option maxRecDepth 100000
set_option maxHeartbeats 4000000
namespace Mn
open PySem PySem.Spec PyProof.Rows L2
theorem w_allL {S : Sto} {n : Nat} {ds : List D} {Q : D → Sto → Prop} (h : S[n]? = some (.lst ds)) (ht : ∀ d ∈ ds, d = .bl true) : (cAll [.ref n] S).wp Q ↔ Q (.bl true) S := by
  have bl : ∀ ds : List D, (∀ d ∈ ds, d = .bl true) → blsOf ds = some (ds.map fun _ => true) := by
    intro ds
    induction ds with
    | nil => intro _; rfl
    | cons d r ih =>
      intro ht
      rw [ht d List.mem_cons_self]
      show (blsOf r).map (true :: ·) = _
      rw [ih fun e he => ht e (List.mem_cons_of_mem _ he)]
      rfl
  have e : cAll [.ref n] S = .ok (.bl true) S := by
    show (match S[n]? with | some (.lst xs) => (match blsOf xs with | some bs => Res.ok (D.bl (bs.all id)) _ | none => .bad) | _ => .bad) = _
    rw [h]
    show (match blsOf ds with | some bs => Res.ok (D.bl (bs.all id)) _ | none => .bad) = _
    rw [bl ds ht]
    have : (ds.map fun _ => true).all id = true := by
      rw [List.all_map]
      exact List.all_eq_true.mpr fun _ _ => rfl
    show Res.ok (D.bl ((ds.map fun _ => true).all id)) S = _
    rw [this]
  rw [e]
  exact Iff.rfl
/-- all([f(..) for lap in range(n)]), each lap true -/
theorem alls_wp {p m : Nat} {c : Int} {C : Nat} {S0 S : Sto} {ρ : En} {i : Nat} {elt : M} {Q : D → Sto → Prop} (hm : m ≤ 100) (hi : Pot p c S) (x0 : Ext p S0 S)
    (he : ∀ (k : Nat) (d : D) (S' : Sto) (Q' : D → Sto → Prop), k < m → Ext p S0 S' → Pot p (c + (k : Nat) * (C : Nat)) S' → (∀ S'', Ext p S' S'' → Pot p (c + ((k + 1 : Nat) : Int) * (C : Nat)) S'' → Q' (.bl true) S'') → (elt ((wipeE ρ [i]).set i (some d)) S').wp Q')
    (q : ∀ S', Ext p S0 S' → Pot p (c + (m : Nat) * (C : Nat)) S' → Q (.bl true) S') :
    (mCompL (.nm i) tYesM elt always S.length (wipeE ρ [i]) ((List.range m).map fun i => D.int (0 + (i : Nat))) (S ++ [.lst []])).wp fun x S => (cAll [x] S).wp Q := by
  have hp0 := hi.lt
  have hlen : S0.length ≤ S.length := x0.1
  refine comp_wp (I := fun l acc S' => Ext p S0 S' ∧ S.length ≤ S'.length ∧ Pot p (c + (acc.length : Nat) * (C : Nat)) S' ∧ (∀ d ∈ acc, d = D.bl true) ∧ acc.length + l.length = m) (fun _ _ _ _ => rfl) (fun d l acc S' => ?_) (fun acc S' => ?_) _ [] _ ⟨x0.app _, by rw [List.length_append]; omega, by
      have := hi.app [.lst []]
      simpa using this, (fun d h => by cases h), by simp⟩ List.getElem?_concat_length
  · rintro ⟨x, hl, hp, ha, hn⟩ hs
    refine ⟨_, rfl, ?_⟩
    rw [List.length_cons] at hn
    refine he acc.length d S' _ (by omega) x hp fun S'' x2 hp2 => ⟨x2.at_ hs (by omega), ?_, ?_, ?_, ?_, ?_, ?_⟩
    · have : acc.length < 100 := by omega
      rw [sizeLine_eq]
      omega
    · exact (x.trans x2).set (by omega) _
    · rw [List.length_set]
      exact Nat.le_trans hl x2.1
    · rw [List.length_append, List.length_singleton]
      exact hp2.set (by omega) _
    · intro e he
      rcases List.mem_append.mp he with h | h
      · exact ha e h
      · exact List.mem_singleton.mp h
    · rw [List.length_append, List.length_singleton]
      omega
  · rintro ⟨x, hl, hp, ha, hn⟩ hs
    rw [w_allL hs ha]
    rw [List.length_nil] at hn
    have e : acc.length = m := by omega
    rw [e] at hp
    exact q S' x hp
/-- the frame: cells up to u, laps n -/
def fLaw (u n : Int) (pot right : F) : F := mDef 1 4 (sSeq (sFor (iRange1 (aCons (mCB cMax (aCons (mC (.int 1)) (aCons (mCB cMin (aCons (mC (.int u)) (aCons (mCB cLen (aCons (mVar 0) aNil)) aNil))) aNil))) aNil)) (.nm 1) (sSeq (sSet 2 (mCB pot (aCons (mVar 0) (aCons (mVar 1) aNil))))
  (sIf (tNot (tVal (mCB cAll (aCons (mComp (iRange1 (aCons (mC (.int n)) aNil)) (.nm 3) tYesM (mCB right (aCons (mVar 2) aNil)) [3]) aNil)))) (sRet (mC (.bl false))) sNil)))
  (sRet (mC (.bl true))))
/-- one lap, right -/
def RightOk (C : Nat) (right : F) : Prop := ∀ (p : Nat) (c : Int) (S : Sto) (Q : D → Sto → Prop), Pot p c S → c + (C : Nat) < 2 ^ 40 → (∀ S', Ext p S S' → Pot p (c + (C : Nat)) S' → Q (.bl true) S') → (right [.ref p] S).wp Q
theorem law_wp0 {u n : Int} {m : Nat} {C : Nat} {right : F} (hu : u ≤ 4) (hm : n = (m : Nat)) (hn : m ≤ 100) (hC : m * C < 2 ^ 40) (R : RightOk C right) (ns : List Int) (Q : D → Sto → Prop) (q : ∀ S, Q (.bl true) S) : (fLaw u n fPot right [.fls (ns.map D.int)] []).wp Q := by
  unfold fLaw
  refine w_def rfl ?_
  rw [s_seq, s_for, i_range1]
  simp only [w_cb, w_cons, w_nil, w_var, w_c, List.map_cons, List.map_nil, List.length_cons, List.length_nil, List.cons_append, List.nil_append, List.getElem?_cons_zero, List.getElem?_cons_succ, List.reduceReplicate, Nat.reduceAdd, Nat.reduceSub]
  rw [w_lenF, w_min, w_max]
  generalize hj : (if (if (((ns.map D.int).length : Nat) : Int) < u then (((ns.map D.int).length : Nat) : Int) else u) > 1 then (if (((ns.map D.int).length : Nat) : Int) < u then (((ns.map D.int).length : Nat) : Int) else u) else 1) = j
  have j0 : 0 ≤ j ∧ j ≤ 4 := by
    rw [← hj]
    split <;> (try split) <;> omega
  refine ⟨j, rfl, by unfold smallI; rw [decide_eq_true (by omega), decide_eq_true (by omega)]; rfl, ?_⟩
  refine loop_wp (fun l ρ S' => ∃ w1 w2 w3, ρ = [some (.fls (ns.map D.int)), w1, w2, w3] ∧ ∀ d ∈ l, ∃ k : Int, d = .int k ∧ 0 ≤ k ∧ k < 4) (fun _ _ _ _ => rfl) (fun d l ρ S' => ?_) (fun ρ S' => ?_) _ _ [] ⟨_, _, _, rfl, fun d hd => ?_⟩
  · rintro ⟨w1, w2, w3, rfl, hl⟩
    obtain ⟨k, rfl, k0, k1⟩ := hl d List.mem_cons_self
    refine ⟨_, rfl, ?_⟩
    rw [s_seq, s_set]
    simp only [w_cb, w_cons, w_nil, w_var, w_c, List.getElem?_cons_zero, List.getElem?_cons_succ, List.set_cons_zero, List.set_cons_succ]
    refine pot_wp k0 (by omega) fun a b ha hb => ?_
    have hp : Pot S'.length 0 (S' ++ [.lst [.int a, .int b, .int 0]]) := ⟨a, b, 0, List.getElem?_concat_length, ha, hb, Int.le_refl _, Int.le_refl _⟩
    rw [s_if]
    simp only [w_tnot, w_val, w_cb, w_cons, w_nil, s_ret, w_c]
    refine w_comp rfl ?_
    rw [i_range1]
    simp only [w_cons, w_nil, w_c]
    refine ⟨n, rfl, by unfold smallI; rw [decide_eq_true (by omega), decide_eq_true (by omega)]; rfl, ?_⟩
    rw [show n.toNat = m by omega]
    refine alls_wp (C := C) hn hp (Ext.refl _ _) (fun k' d' S2 Q' hk' x2 hp2 q' => ?_) (fun S2 x2 hp2 => ⟨_, rfl, ?_⟩)
    · simp only [w_cb, w_cons, w_nil, w_var, wipeE, List.getElem?_cons_zero, List.getElem?_cons_succ, List.set_cons_zero, List.set_cons_succ]
      have hb2 : (((k' + 1 : Nat) : Int)) * (C : Nat) = ((k' : Nat) : Int) * (C : Nat) + (C : Nat) := by push_cast; rw [Int.add_mul, Int.one_mul]
      have hb : (((k' + 1 : Nat) : Int)) * (C : Nat) ≤ (m : Nat) * (C : Nat) := Int.mul_le_mul_of_nonneg_right (by omega) (by omega)
      refine R _ _ S2 _ hp2 (by push_cast at hC hb hb2 ⊢; omega) fun S3 x3 hp3 => q' S3 x3 (by rw [hb2]; exact hp3.le (by omega))
    · rw [if_neg (by simp)]
      exact ⟨_, _, _, rfl, fun e he => hl e (List.mem_cons_of_mem _ he)⟩
  · rintro ⟨w1, w2, w3, rfl, _⟩
    rw [s_ret, w_c]
    exact q _
  · obtain ⟨i, hi, rfl⟩ := List.mem_map.mp hd
    have := List.mem_range.mp hi
    exact ⟨_, rfl, by omega, by omega⟩
theorem law_wp {u n : Int} {m : Nat} {C : Nat} {right : F} (hu : u ≤ 4) (hm : n = (m : Nat)) (hn : m ≤ 100) (hC : m * C < 2 ^ 40) (R : RightOk C right) (ns : List Int) : ∃ S', fLaw u n fPot right [.fls (ns.map D.int)] [] = .ok (.bl true) S' := by
  obtain ⟨d, S', e, h⟩ := wp_ex (law_wp0 hu hm hn hC R ns (fun d _ => d = .bl true) fun _ => rfl)
  rw [e, h]
  exact ⟨S', rfl⟩
end Mn
set_option Elab.async false
set_option linter.all false
set_option maxRecDepth 100000
set_option maxHeartbeats 4000000
namespace Mn
open PySem PySem.Spec PyProof.Rows L2
/-- d stays what it is, whatever comes behind; the pot stands at p -/
structure OdV (p h : Nat) (S : Sto) (d : D) (x : PyData) : Prop where
  py : ∀ S', Ext p S S' → ∀ k, h ≤ k → d.pyG (pyX k S') = some x
  ls : x.leavesShort 60 = true
  sh : x.showable = true
  wt : x.weight ≤ 200 + 6 * h
  dp : x.depth ≤ 4 + h
section
variable {p h n : Nat} {S S' : Sto} {d : D} {x : PyData}
theorem OdV.ext (v : OdV p h S d x) (e : Ext p S S') : OdV p h S' d x := ⟨fun S2 e2 k hk => v.py S2 (e.trans e2) k hk, v.ls, v.sh, v.wt, v.dp⟩
theorem OdV.up (v : OdV p h S d x) {g : Nat} (e : h ≤ g) : OdV p g S d x := ⟨fun S2 e2 k hk => v.py S2 e2 k (Nat.le_trans e hk), v.ls, v.sh, by have := v.wt; omega, by have := v.dp; omega⟩
theorem pysG1 {f : Nat → Option PyData} (e : d.pyG f = some x) : D.pysG f [d] = some [x] := by
  unfold D.pysG
  rw [e]
  rfl
theorem pysG2 {f : Nat → Option PyData} (e : d.pyG f = some x) : D.pysG f [d, .non] = some [x, .none] := by
  unfold D.pysG
  rw [e]
  rfl
theorem OdV.tup1 (v : OdV p h S d x) : OdV p (h + 1) S (.tup [d]) (.tuple [x]) := by
  refine ⟨fun S2 e2 k hk => ?_, ?_, ?_, ?_, ?_⟩
  · show (D.pysG (pyX k S2) [d]).map PyData.tuple = _
    rw [pysG1 (v.py S2 e2 k (by omega))]
    rfl
  · simp only [PyData.leavesShort, PyData.leavesShortAll, v.ls, Bool.and_self]
  · simp only [PyData.showable, PyData.showableAll, v.sh, Bool.and_self]
  · have := v.wt
    simp only [PyData.weight, PyData.weightAll]
    omega
  · have := v.dp
    simp only [PyData.depth, PyData.depthAll]
    omega
theorem OdV.tup2 (v : OdV p h S d x) : OdV p (h + 1) S (.tup [d, .non]) (.tuple [x, .none]) := by
  refine ⟨fun S2 e2 k hk => ?_, ?_, ?_, ?_, ?_⟩
  · show (D.pysG (pyX k S2) [d, .non]).map PyData.tuple = _
    rw [pysG2 (v.py S2 e2 k (by omega))]
    rfl
  · simp only [PyData.leavesShort, PyData.leavesShortAll, v.ls, Bool.and_self]
  · simp only [PyData.showable, PyData.showableAll, v.sh, Bool.and_self]
  · have := v.wt
    simp only [PyData.weight, PyData.weightAll]
    omega
  · have := v.dp
    simp only [PyData.depth, PyData.depthAll]
    omega
theorem OdV.lst1 (v : OdV p h S d x) (hn : n ≠ p) (e : S[n]? = some (.lst [d])) : OdV p (h + 1) S (.ref n) (.list [x]) := by
  refine ⟨fun S2 e2 k hk => ?_, ?_, ?_, ?_, ?_⟩
  · obtain ⟨k, rfl⟩ : ∃ j, k = j + 1 := ⟨k - 1, by omega⟩
    show pyX (k + 1) S2 n = _
    unfold pyX
    rw [e2.at_ e hn]
    show (D.pysG (pyX k S2) [d]).map PyData.list = _
    rw [pysG1 (v.py S2 e2 k (by omega))]
    rfl
  · simp only [PyData.leavesShort, PyData.leavesShortAll, v.ls, Bool.and_self]
  · simp only [PyData.showable, PyData.showableAll, v.sh, Bool.and_self]
  · have := v.wt
    simp only [PyData.weight, PyData.weightAll]
    omega
  · have := v.dp
    simp only [PyData.depth, PyData.depthAll]
    omega
theorem OdV.dct1 (v : OdV p h S d x) (hn : n ≠ p) (e : S[n]? = some (.dct [(.inr "a", d)])) : OdV p (h + 1) S (.ref n) (.dict [(.str "a", x)]) := by
  refine ⟨fun S2 e2 k hk => ?_, ?_, ?_, ?_, ?_⟩
  · obtain ⟨k, rfl⟩ : ∃ j, k = j + 1 := ⟨k - 1, by omega⟩
    show pyX (k + 1) S2 n = _
    unfold pyX
    rw [e2.at_ e hn]
    show (D.pysG (pyX k S2) [d]).map _ = _
    rw [pysG1 (v.py S2 e2 k (by omega))]
    rfl
  · have q : PyData.leavesShort 60 (.str "a") = true := by decide
    simp only [PyData.leavesShort, PyData.leavesShortKv, v.ls, Bool.and_self, Bool.and_true]
    simpa [PyData.leavesShort] using q
  · simp only [PyData.showable, PyData.showableKv, v.sh, Bool.and_self]
  · have := v.wt
    have z : (Str.ofString "a").cps.size = 1 := by decide
    simp only [PyData.weight, PyData.weightKv]
    omega
  · have := v.dp
    simp only [PyData.depth, PyData.depthKv]
    omega
/-- a value that is no thing of the store -/
theorem OdV.pure {d : D} {x : PyData} (e : ∀ f, d.pyG f = some x) (l : x.leavesShort 60 = true) (s : x.showable = true) (w : x.weight ≤ 200) (dp : x.depth ≤ 4) : OdV p 0 S d x :=
  ⟨fun _ _ _ _ => e _, l, s, by omega, by omega⟩
/-- a new thing, told by what it is alone -/
theorem OdV.obj {o : Ob} {x : PyData} (hn : n ≠ p) (e : S[n]? = some o) (f : ∀ k S', S'[n]? = some o → pyX (k + 1) S' n = some x) (l : x.leavesShort 60 = true) (s : x.showable = true) (w : x.weight ≤ 200) (dp : x.depth ≤ 4) : OdV p 1 S (.ref n) x := by
  refine ⟨fun S2 e2 k hk => ?_, l, s, by omega, by omega⟩
  obtain ⟨k, rfl⟩ : ∃ j, k = j + 1 := ⟨k - 1, by omega⟩
  exact f k S2 (e2.at_ e hn)
theorem rep_G {f : Nat → Option PyData} (e : d.pyG f = some x) : ∀ m : Nat, D.pysG f (List.replicate m d) = some (List.replicate m x)
  | 0 => rfl
  | m + 1 => by
    show D.pysG f (d :: List.replicate m d) = some (x :: List.replicate m x)
    unfold D.pysG
    rw [e, rep_G e m]
theorem rep_ls (l : x.leavesShort 60 = true) : ∀ m : Nat, PyData.leavesShortAll 60 (List.replicate m x) = true
  | 0 => rfl
  | m + 1 => by
    show PyData.leavesShortAll 60 (x :: List.replicate m x) = true
    simp only [PyData.leavesShortAll, l, rep_ls l m, Bool.and_self]
theorem rep_sh (l : x.showable = true) : ∀ m : Nat, PyData.showableAll (List.replicate m x) = true
  | 0 => rfl
  | m + 1 => by
    show PyData.showableAll (x :: List.replicate m x) = true
    simp only [PyData.showableAll, l, rep_sh l m, Bool.and_self]
theorem rep_wt : ∀ m : Nat, PyData.weightAll (List.replicate m x) = m * (x.weight + 1)
  | 0 => by simp [PyData.weightAll]
  | m + 1 => by
    show PyData.weightAll (x :: List.replicate m x) = _
    simp only [PyData.weightAll, rep_wt m]
    rw [Nat.succ_mul]
    omega
theorem rep_dp : ∀ m : Nat, PyData.depthAll (List.replicate m x) ≤ x.depth
  | 0 => Nat.zero_le _
  | m + 1 => by
    show PyData.depthAll (x :: List.replicate m x) ≤ _
    have q : PyData.depthAll (List.replicate m x) ≤ x.depth := rep_dp m
    simp only [PyData.depthAll]
    omega
/-- repr of seventeen times the same -/
theorem repr17 {Q : D → Sto → Prop} (v : OdV p h S d x) (hh : h ≤ 30) (e : S[n]? = some (.lst (List.replicate 17 d))) (q : Q (.str (PyData.shown (.list (List.replicate 17 x)))) S) : (cReprX [.ref n] S).wp Q := by
  have e1 : pyDX S (.ref n) = some (.list (List.replicate 17 x)) := by
    show pyX 40 S n = _
    unfold pyX
    rw [e]
    show (D.pysG (pyX 39 S) (List.replicate 17 d)).map PyData.list = _
    rw [rep_G (v.py S (Ext.refl p S) 39 (by omega)) 17]
    rfl
  unfold cReprX
  show Res.wp (match pyDX S (.ref n) with | some p => if (p.showable && decide (p.shown.length ≤ sizeLine) && decide (p.depth ≤ 150)) = true then .ok (.str p.shown) S else .bad | none => .bad) Q
  rw [e1]
  have ls : (PyData.list (List.replicate 17 x)).leavesShort 60 = true := by
    simp only [PyData.leavesShort]
    exact rep_ls v.ls 17
  have sl := PyData.shown_le 60 (by decide) _ ls
  have hw := v.wt
  have hd := v.dp
  have w1 : (PyData.list (List.replicate 17 x)).weight = 17 * (x.weight + 1) ∨ (PyData.list (List.replicate 17 x)).weight = 17 * (x.weight + 1) + 1 := by
    have := rep_wt (x := x) 17
    simp only [PyData.weight]
    omega
  have d1 : (PyData.list (List.replicate 17 x)).depth ≤ x.depth + 1 := by
    have := rep_dp (x := x) 17
    simp only [PyData.depth]
    omega
  have sh : (PyData.list (List.replicate 17 x)).showable = true := by
    simp only [PyData.showable]
    exact rep_sh v.sh 17
  show Res.wp (if ((PyData.list (List.replicate 17 x)).showable && decide ((PyData.list (List.replicate 17 x)).shown.length ≤ sizeLine) && decide ((PyData.list (List.replicate 17 x)).depth ≤ 150)) = true then .ok (.str (PyData.shown (.list (List.replicate 17 x)))) S else .bad) Q
  rw [sh, decide_eq_true (show (PyData.list (List.replicate 17 x)).shown.length ≤ sizeLine by rw [sizeLine_eq]; omega), decide_eq_true (show (PyData.list (List.replicate 17 x)).depth ≤ 150 by omega)]
  exact q
end
end Mn
set_option Elab.async false
set_option linter.all false
set_option maxRecDepth 100000
set_option maxHeartbeats 4000000
namespace LK
open PySem PySem.Spec PyProof.Rows L2 Mn
theorem xgA (S l : Sto) (i : Nat) : (S ++ l)[S.length + i]? = l[i]? := by
  rw [List.getElem?_append_right (by omega), Nat.add_sub_cancel_left]
theorem xgA0 (S l : Sto) : (S ++ l)[S.length]? = l[0]? := xgA S l 0
theorem xsA (S l : Sto) (i : Nat) (o : Ob) : (S ++ l).set (S.length + i) o = S ++ l.set i o := by
  rw [List.set_append_right _ _ (by omega), Nat.add_sub_cancel_left]
theorem x_newT {ρ : En} {S : Sto} {Q : D → Sto → Prop} : (mNewT ρ S).wp Q ↔ Q (.ref S.length) (S ++ [.dtt []]) := Iff.rfl
theorem x_neg {i : Int} {S : Sto} {Q : D → Sto → Prop} : (fNeg (.int i) S).wp Q ↔ Q (.int (-i)) S := Iff.rfl
def bigD : Int := 10000000000000000000000000000000000000000
theorem x_pow {S : Sto} {Q : D → Sto → Prop} : (fPow (.int 10) (.int 40) S).wp Q ↔ Q (.int bigD) S := by
  have e : fPow (.int 10) (.int 40) S = .ok (.int bigD) S := by rfl
  rw [e]
  exact Iff.rfl
/-- the fifteen values -/
def odd15 (n : Nat) : List D := [D.non, D.bl true, D.int 0, D.int (-1), D.int bigD, D.str "", D.str "x = 1;", D.tup [], D.ref n, D.ref (n + 1), D.tup [D.int 1, D.int 2], D.ref (n + 1 + 1), D.ref (n + 1 + 1 + 1), D.tup [D.str "a", D.tup []], D.str "\n"]
def odds (n : Nat) : List Ob := [Ob.lst [], Ob.dtt [], Ob.lst [D.str "a"], Ob.dct (mergeD [] [(Sum.inr "a", D.int 1)]), Ob.lst (odd15 n)]
theorem odd0 {p : Nat} {S : Sto} {d : D} (hl : p < S.length) (h : d ∈ odd15 S.length) : ∃ x, OdV p 1 (S ++ odds S.length) d x := by
  unfold odd15 at h
  simp only [List.mem_cons, List.not_mem_nil, or_false] at h
  rcases h with rfl | rfl | rfl | rfl | rfl | rfl | rfl | rfl | rfl | rfl | rfl | rfl | rfl | rfl | rfl
  · exact ⟨_, (OdV.pure (x := .none) (fun _ => rfl) (by decide +kernel) (by decide +kernel) (by decide +kernel) (by decide +kernel)).up (by decide)⟩
  · exact ⟨_, (OdV.pure (x := .bool true) (fun _ => rfl) (by decide +kernel) (by decide +kernel) (by decide +kernel) (by decide +kernel)).up (by decide)⟩
  · exact ⟨_, (OdV.pure (x := .int 0) (fun _ => rfl) (by decide +kernel) (by decide +kernel) (by decide +kernel) (by decide +kernel)).up (by decide)⟩
  · exact ⟨_, (OdV.pure (x := .int (-1)) (fun _ => rfl) (by decide +kernel) (by decide +kernel) (by decide +kernel) (by decide +kernel)).up (by decide)⟩
  · exact ⟨_, (OdV.pure (x := .int bigD) (fun _ => rfl) (by decide +kernel) (by decide +kernel) (by decide +kernel) (by decide +kernel)).up (by decide)⟩
  · exact ⟨_, (OdV.pure (x := .str "") (fun _ => rfl) (by decide +kernel) (by decide +kernel) (by decide +kernel) (by decide +kernel)).up (by decide)⟩
  · exact ⟨_, (OdV.pure (x := .str "x = 1;") (fun _ => rfl) (by decide +kernel) (by decide +kernel) (by decide +kernel) (by decide +kernel)).up (by decide)⟩
  · exact ⟨_, (OdV.pure (x := .tuple []) (fun _ => rfl) (by decide +kernel) (by decide +kernel) (by decide +kernel) (by decide +kernel)).up (by decide)⟩
  · exact ⟨_, OdV.obj (o := .lst []) (x := .list []) (by omega) (xgA0 S _) (fun k S' e => by unfold pyX; rw [e]; rfl) (by decide +kernel) (by decide +kernel) (by decide +kernel) (by decide +kernel)⟩
  · exact ⟨_, OdV.obj (o := .dtt []) (x := .dict []) (by omega) (xgA S _ 1) (fun k S' e => by unfold pyX; rw [e]) (by decide +kernel) (by decide +kernel) (by decide +kernel) (by decide +kernel)⟩
  · exact ⟨_, (OdV.pure (x := .tuple [.int 1, .int 2]) (fun _ => rfl) (by decide +kernel) (by decide +kernel) (by decide +kernel) (by decide +kernel)).up (by decide)⟩
  · exact ⟨_, OdV.obj (o := .lst [.str "a"]) (x := .list [.str "a"]) (by omega) (xgA S _ 2) (fun k S' e => by unfold pyX; rw [e]; rfl) (by decide +kernel) (by decide +kernel) (by decide +kernel) (by decide +kernel)⟩
  · exact ⟨_, OdV.obj (o := .dct (mergeD [] [(Sum.inr "a", D.int 1)])) (x := .dict [(.str "a", .int 1)]) (by omega) (xgA S _ 3) (fun k S' e => by unfold pyX; rw [e]; rfl) (by decide +kernel) (by decide +kernel) (by decide +kernel) (by decide +kernel)⟩
  · exact ⟨_, (OdV.pure (x := .tuple [.str "a", .tuple []]) (fun _ => rfl) (by decide +kernel) (by decide +kernel) (by decide +kernel) (by decide +kernel)).up (by decide)⟩
  · exact ⟨_, (OdV.pure (x := .str "\n") (fun _ => rfl) (by decide +kernel) (by decide +kernel) (by decide +kernel) (by decide +kernel)).up (by decide)⟩
theorem odd_wp {t : Nat → F} (ht : t 2 = fOf fTake) {p : Nat} {c : Int} {S : Sto} {Q : D → Sto → Prop} (h : Pot p c S) (hc : c + 30 < 2 ^ 40) (q : ∀ d x S', OdV p 25 S' d x → Ext p S S' → Pot p (c + 30) S' → Q d S') : (f_w_odd t [.ref p] S).wp Q := by
  have hl := h.lt
  have sl : ∀ n : Nat, n ≤ 200 → n ≤ sizeLine := fun n h => by rw [sizeLine_eq]; omega
  unfold f_w_odd b_w_odd
  refine w_def rfl ?_
  simp only [s_par, s_seq, s_set, s_drop, w_c, w_nil, w_cons, w_lst, w_tup, w_bin, w_var, w_mt, w_disp, w_pcons, w_pnil, List.getElem?_cons_zero, List.getElem?_cons_succ, List.length_cons, List.length_nil, List.length_append, List.append_assoc, List.cons_append, List.nil_append, List.set_cons_succ, List.set_cons_zero, Nat.reduceAdd, Nat.zero_add, xgA, xgA0, xsA, s_for, w_cb, w_un, x_newT, x_neg, x_pow, List.map_cons, List.map_nil, List.reduceReplicate, Nat.reduceSub]
  refine ⟨sl _ (by decide), sl _ (by decide), sl _ (by decide), sl _ (by decide), _, rfl, by decide, trivial, sl _ (by decide), sl _ (by decide), sl _ (by decide), ?_⟩
  rw [ht]
  have e4 : (S ++ odds S.length)[S.length + 1 + 1 + 2]? = some (.lst (odd15 S.length)) := xgA S (odds S.length) 4
  refine of_wp (S := S ++ odds S.length) (h.app _) (by omega) e4 (by omega) (by show 0 < 15; decide) (by show 15 < 1073741824; decide) fun d S2 hd x2 h2 => ?_
  obtain ⟨x, od⟩ := odd0 hl hd
  have x3 : Ext p S S2 := ((Ext.refl p S).app _).trans x2
  have od := od.ext x2
  rw [i_range1]
  simp only [w_cb, w_cons, w_nil, w_c, w_lst, w_var, List.getElem?_cons_zero, List.getElem?_cons_succ]
  refine ⟨sl 5 (by decide), ?_⟩
  have l2 : p < S2.length := h2.lt
  refine of_wp (h2.app _) (by omega) (xgA0 S2 _) (by omega) (by decide) (by decide) fun r S3 hr x4 h3 => ?_
  obtain ⟨j, rfl, hj⟩ : ∃ j : Nat, r = .int (j : Nat) ∧ j ≤ 20 := by
    simp only [List.mem_cons, List.not_mem_nil, or_false] at hr
    rcases hr with rfl | rfl | rfl | rfl | rfl
    · exact ⟨0, rfl, by decide⟩
    · exact ⟨0, rfl, by decide⟩
    · exact ⟨1, rfl, by decide⟩
    · exact ⟨2, rfl, by decide⟩
    · exact ⟨20, rfl, by decide⟩
  refine ⟨(j : Int), rfl, by unfold smallI; rw [decide_eq_true (by omega), decide_eq_true (by omega)]; rfl, ?_⟩
  have x5 : Ext p S2 S3 := ((Ext.refl p S2).app _).trans x4
  refine loop_wp (fun l ρ S' => ∃ (d : D) (x : PyData) (g b : Nat) (w : Option D), ρ = [some (.ref p), some (.ref (S.length + 1 + 1 + 2)), some d, w] ∧ OdV p g S' d x ∧ g + l.length ≤ 22 ∧ Ext p S S' ∧ Pot p (c + (b : Nat)) S' ∧ b + l.length ≤ 24) (fun _ _ _ _ => rfl) (fun y l ρ S' => ?_) (fun ρ S' => ?_) _ _ S3 ⟨d, x, 1, 2, none, rfl, od.ext x5, ?_, x3.trans x5, h3.le (by omega), ?_⟩
  · rintro ⟨d, x, g, b, w, rfl, od, hg, e, hp, hb⟩
    rw [List.length_cons] at hg hb
    refine ⟨_, rfl, ?_⟩
    have l3 := hp.lt
    simp only [List.set_cons_succ, List.set_cons_zero]
    simp only [s_par, s_seq, s_set, s_drop, w_c, w_nil, w_cons, w_lst, w_tup, w_bin, w_var, w_mt, w_disp, w_pcons, w_pnil, List.getElem?_cons_zero, List.getElem?_cons_succ, List.length_cons, List.length_nil, List.length_append, List.append_assoc, List.cons_append, List.nil_append, List.set_cons_succ, List.set_cons_zero, Nat.reduceAdd, Nat.zero_add, xgA, xgA0, xsA, s_for, w_cb, w_un, List.map_cons, List.map_nil, List.reduceReplicate, Nat.reduceSub]
    refine ⟨sl _ (by decide), sl _ (by decide), [(.inr "a", d)], rfl, (show 1 ≤ 15 by decide), trivial, sl _ (by decide), sl _ (by decide), ?_⟩
    refine of_wp (hp.app _) (by omega) (xgA S' _ 2) (by omega) (show 0 < 4 by decide) (show 4 < 1073741824 by decide) fun v S4 hv x6 h4 => ?_
    have x7 : Ext p S' S4 := ((Ext.refl p S').app _).trans x6
    have od4 : ∀ {y : D} {z : PyData}, OdV p (g + 1) (S' ++ [Ob.lst [d], Ob.dct (mergeD [] [(.inr "a", d)]), Ob.lst [D.tup [d], D.ref S'.length, D.ref (S'.length + 1), D.tup [d, D.non]]]) y z → OdV p (g + 1) S4 y z := fun o => o.ext x6
    have odS := od.ext ((Ext.refl p S').app [Ob.lst [d], Ob.dct (mergeD [] [(.inr "a", d)]), Ob.lst [D.tup [d], D.ref S'.length, D.ref (S'.length + 1), D.tup [d, D.non]]])
    obtain ⟨z, oz⟩ : ∃ z, OdV p (g + 1) S4 v z := by
      simp only [List.mem_cons, List.not_mem_nil, or_false] at hv
      rcases hv with rfl | rfl | rfl | rfl
      · exact ⟨_, od4 odS.tup1⟩
      · exact ⟨_, od4 (odS.lst1 (by omega) (xgA0 S' _))⟩
      · exact ⟨_, od4 (odS.dct1 (by omega) (xgA S' _ 1))⟩
      · exact ⟨_, od4 odS.tup2⟩
    exact ⟨v, z, g + 1, b + 1, _, rfl, oz, by omega, e.trans x7, h4.le (by omega), by omega⟩
  · rintro ⟨d, x, g, b, w, rfl, od, hg, e, hp, hb⟩
    show Q d S'
    exact q d x S' (od.up (by rw [List.length_nil] at hg; omega)) e (hp.le (by omega))
  · rw [List.length_map, List.length_range]
    show 1 + (j : Int).toNat ≤ 22
    omega
  · rw [List.length_map, List.length_range]
    show 2 + (j : Int).toNat ≤ 24
    omega
end LK
set_option Elab.async false
set_option linter.all false
set_option maxRecDepth 100000
set_option maxHeartbeats 4000000
namespace LK
open PySem PySem.Spec PyProof.Rows L2 Mn
theorem w_mkX {c f : Str} {m : M} {ρ : En} {S : Sto} {Q : D → Sto → Prop} : (mMkX c f m ρ S).wp Q ↔ (m ρ S).wp fun d S1 => Q (.ref S1.length) (S1 ++ [.exn c [(f, d)]]) := by unfold mMkX; simp only [wp_bind, wp_ok]
theorem w_mkX0 {c : Str} {ρ : En} {S : Sto} {Q : D → Sto → Prop} : (mMkX0 c ρ S).wp Q ↔ Q (.ref S.length) (S ++ [.exn c []]) := Iff.rfl
def names20 : List Str := ["BadText", "BadTree", "BadPath", "BadStyle", "BadManner", "BadRow", "BadRows", "NoStyleClash", "BadTexts", "BadHands", "BadPairs", "NoCommit", "NoFile", "BadFiles", "NoParent", "Clashes", "BadOrder", "NothingToUndo", "NothingToRedo", "BadLine"]
def madeL (n : Nat) (d : D) : List Ob := [Ob.exn "BadText" [("row", d)],
  Ob.exn "BadTree" [("value", d)],
  Ob.exn "BadPath" [("value", d)],
  Ob.exn "BadStyle" [("value", d)],
  Ob.exn "BadManner" [("value", d)],
  Ob.exn "BadRow" [("value", d)],
  Ob.exn "BadRows" [("value", d)],
  Ob.lst [D.ref n, D.ref (n + 1), D.ref (n + 2), D.ref (n + 3), D.ref (n + 4), D.ref (n + 5), D.ref (n + 6)],
  Ob.exn "NoStyleClash" [],
  Ob.exn "BadTexts" [("value", d)],
  Ob.exn "BadHands" [("value", d)],
  Ob.exn "BadPairs" [("value", d)],
  Ob.exn "NoCommit" [("value", d)],
  Ob.exn "NoFile" [("value", d)],
  Ob.lst [D.ref (n + 8), D.ref (n + 9), D.ref (n + 10), D.ref (n + 11), D.ref (n + 12), D.ref (n + 13)],
  Ob.lst [D.ref n, D.ref (n + 1), D.ref (n + 2), D.ref (n + 3), D.ref (n + 4), D.ref (n + 5), D.ref (n + 6), D.ref (n + 8), D.ref (n + 9), D.ref (n + 10), D.ref (n + 11), D.ref (n + 12), D.ref (n + 13)],
  Ob.exn "BadFiles" [("value", d)],
  Ob.exn "NoParent" [("value", d)],
  Ob.exn "Clashes" [("value", d)],
  Ob.exn "BadOrder" [("value", d)],
  Ob.exn "NothingToUndo" [],
  Ob.exn "NothingToRedo" [],
  Ob.lst [D.ref (n + 16), D.ref (n + 17), D.ref (n + 18), D.ref (n + 19), D.ref (n + 20), D.ref (n + 21)],
  Ob.lst [D.ref n, D.ref (n + 1), D.ref (n + 2), D.ref (n + 3), D.ref (n + 4), D.ref (n + 5), D.ref (n + 6), D.ref (n + 8), D.ref (n + 9), D.ref (n + 10), D.ref (n + 11), D.ref (n + 12), D.ref (n + 13), D.ref (n + 16), D.ref (n + 17), D.ref (n + 18), D.ref (n + 19), D.ref (n + 20), D.ref (n + 21)],
  Ob.exn "BadLine" [("line", d)],
  Ob.lst [D.ref (n + 24)],
  Ob.lst [D.ref n, D.ref (n + 1), D.ref (n + 2), D.ref (n + 3), D.ref (n + 4), D.ref (n + 5), D.ref (n + 6), D.ref (n + 8), D.ref (n + 9), D.ref (n + 10), D.ref (n + 11), D.ref (n + 12), D.ref (n + 13), D.ref (n + 16), D.ref (n + 17), D.ref (n + 18), D.ref (n + 19), D.ref (n + 20), D.ref (n + 21), D.ref (n + 24)]]
theorem all_made_wp {t : Nat → F} {d : D} {S : Sto} {Q : D → Sto → Prop} (q : Q (.ref (S.length + 26)) (S ++ madeL S.length d)) : (f_w_all_made t [d] S).wp Q := by
  have sl : ∀ n : Nat, n ≤ 200 → n ≤ sizeLine := fun n h => by rw [sizeLine_eq]; omega
  unfold f_w_all_made b_w_all_made
  refine w_def rfl ?_
  simp only [s_par, s_seq, s_set, s_ret, s_drop, w_c, w_nil, w_cons, w_lst, w_tup, w_bin, w_var, w_mkX, w_mkX0, List.getElem?_cons_zero, List.getElem?_cons_succ, List.length_cons, List.length_nil, List.length_append, List.append_assoc, List.cons_append, List.nil_append, List.set_cons_succ, List.set_cons_zero, Nat.reduceAdd, Nat.zero_add, xgA, xgA0, xsA, List.map_cons, List.map_nil, List.reduceReplicate, Nat.reduceSub, Nat.add_assoc]
  refine ⟨sl _ (by decide), sl _ (by decide), ?_⟩
  rw [w_addL (xgA S _ 7) (xgA S _ 14)]
  simp only [List.append_assoc, List.cons_append, List.nil_append, List.length_append, List.length_cons, List.length_nil, Nat.reduceAdd, Nat.add_assoc]
  refine ⟨sl _ (by decide), sl _ (by decide), ?_⟩
  rw [w_addL (xgA S _ 15) (xgA S _ 22)]
  simp only [List.append_assoc, List.cons_append, List.nil_append, List.length_append, List.length_cons, List.length_nil, Nat.reduceAdd, Nat.add_assoc]
  refine ⟨sl _ (by decide), sl _ (by decide), ?_⟩
  rw [w_addL (xgA S _ 23) (xgA S _ 25)]
  simp only [List.append_assoc, List.cons_append, List.nil_append, List.length_append, List.length_cons, List.length_nil, Nat.reduceAdd, Nat.add_assoc]
  exact ⟨sl _ (by decide), q⟩
end LK
set_option Elab.async false
set_option linter.all false
set_option maxRecDepth 100000
set_option maxHeartbeats 4000000
namespace LK
open PySem PySem.Spec PyProof.Rows L2 Mn
def isX (all up : List Str) (d : D) (S : Sto) : Res D := match exnD S d with
  | some (c, _) => if all.contains c = true then .ok (.bl (up.contains c)) S else .bad
  | none => .bad
theorem w_isX {all up : List Str} {m : M} {ρ : En} {S : Sto} {Q : D → Sto → Prop} : (mIsX all up m ρ S).wp Q ↔ (m ρ S).wp fun d S1 => (isX all up d S1).wp Q := by
  unfold mIsX
  simp only [wp_bind]
  exact Iff.rfl
section
variable {all up : List Str} {n : Nat} {S : Sto} {c : Str} {fs : List (Str × D)}
theorem isX_at (h : S[n]? = some (.exn c fs)) (ha : all.contains c = true) : isX all up (.ref n) S = .ok (.bl (up.contains c)) S := by
  have e : exnD S (.ref n) = some (c, fs) := by
    show (match S[n]? with | some (.exn c fs) => some (c, fs) | _ => none) = _
    rw [h]
  unfold isX
  rw [e]
  show (if all.contains c = true then _ else _) = _
  rw [if_pos ha]
theorem at_app {o : Ob} (h : S[n]? = some o) (L : List Ob) : (S ++ L)[n]? = some o := by
  rw [List.getElem?_append_left (List.getElem?_eq_some_iff.mp h).1]
  exact h
theorem isX_app (h : S[n]? = some (.exn c fs)) (ha : all.contains c = true) (L : List Ob) : isX all up (.ref n) (S ++ L) = .ok (.bl (up.contains c)) (S ++ L) := isX_at (at_app h L) ha
end
/-- the bools -/
def markL (c : Str) : List D := names20.map fun x => .bl ([x].contains c)
theorem marks_wp {t : Nat → F} {n : Nat} {S : Sto} {c : Str} {fs : List (Str × D)} {Q : D → Sto → Prop} (h : S[n]? = some (.exn c fs)) (ha : xall.contains c = true) (q : ∀ (L : Sto) (n' : Nat), (S ++ L)[n']? = some (.lst (markL c)) → S.length ≤ n' → Q (.ref n') (S ++ L)) : (f_w_marks t [.ref n] S).wp Q := by
  have sl : ∀ n : Nat, n ≤ 200 → n ≤ sizeLine := fun n h => by rw [sizeLine_eq]; omega
  unfold f_w_marks b_w_marks
  refine w_def rfl ?_
  simp only [s_par, s_seq, s_set, s_ret, s_drop, w_c, w_nil, w_cons, w_lst, w_tup, w_bin, w_var, w_isX, isX_at h ha, isX_app h ha, wp_ok, List.getElem?_cons_zero, List.getElem?_cons_succ, List.length_cons, List.length_nil, List.length_append, List.append_assoc, List.cons_append, List.nil_append, List.set_cons_succ, List.set_cons_zero, Nat.reduceAdd, Nat.zero_add, xgA, xgA0, xsA, List.map_cons, List.map_nil, List.reduceReplicate, Nat.reduceSub, Nat.add_assoc]
  refine ⟨sl _ (by decide), sl _ (by decide), ?_⟩
  rw [w_addL (xgA0 S _) (xgA S _ 1)]
  simp only [isX_app h ha, wp_ok, List.append_assoc, List.cons_append, List.nil_append, List.length_append, List.length_cons, List.length_nil, Nat.reduceAdd, Nat.add_assoc]
  refine ⟨sl _ (by decide), sl _ (by decide), ?_⟩
  rw [w_addL (xgA S _ 2) (xgA S _ 3)]
  simp only [isX_app h ha, wp_ok, List.append_assoc, List.cons_append, List.nil_append, List.length_append, List.length_cons, List.length_nil, Nat.reduceAdd, Nat.add_assoc]
  refine ⟨sl _ (by decide), sl _ (by decide), ?_⟩
  rw [w_addL (xgA S _ 4) (xgA S _ 5)]
  simp only [isX_app h ha, wp_ok, List.append_assoc, List.cons_append, List.nil_append, List.length_append, List.length_cons, List.length_nil, Nat.reduceAdd, Nat.add_assoc]
  refine ⟨sl _ (by decide), sl _ (by decide), ?_⟩
  rw [w_addL (xgA S _ 6) (xgA S _ 7)]
  simp only [isX_app h ha, wp_ok, List.append_assoc, List.cons_append, List.nil_append, List.length_append, List.length_cons, List.length_nil, Nat.reduceAdd, Nat.add_assoc]
  refine ⟨sl _ (by decide), sl _ (by decide), ?_⟩
  rw [w_addL (xgA S _ 8) (xgA S _ 9)]
  simp only [isX_app h ha, wp_ok, List.append_assoc, List.cons_append, List.nil_append, List.length_append, List.length_cons, List.length_nil, Nat.reduceAdd, Nat.add_assoc]
  refine ⟨sl _ (by decide), sl _ (by decide), ?_⟩
  rw [w_addL (xgA S _ 10) (xgA S _ 11)]
  simp only [isX_app h ha, wp_ok, List.append_assoc, List.cons_append, List.nil_append, List.length_append, List.length_cons, List.length_nil, Nat.reduceAdd, Nat.add_assoc]
  refine ⟨sl _ (by decide), sl _ (by decide), ?_⟩
  rw [w_addL (xgA S _ 12) (xgA S _ 13)]
  simp only [isX_app h ha, wp_ok, List.append_assoc, List.cons_append, List.nil_append, List.length_append, List.length_cons, List.length_nil, Nat.reduceAdd, Nat.add_assoc]
  refine ⟨sl _ (by decide), sl _ (by decide), ?_⟩
  rw [w_addL (xgA S _ 14) (xgA S _ 15)]
  simp only [isX_app h ha, wp_ok, List.append_assoc, List.cons_append, List.nil_append, List.length_append, List.length_cons, List.length_nil, Nat.reduceAdd, Nat.add_assoc]
  refine ⟨sl _ (by decide), sl _ (by decide), ?_⟩
  rw [w_addL (xgA S _ 16) (xgA S _ 17)]
  simp only [List.append_assoc, List.cons_append, List.nil_append, List.length_append, List.length_cons, List.length_nil, Nat.reduceAdd, Nat.add_assoc]
  refine ⟨sl _ (by decide), ?_⟩
  exact q _ _ (xgA S _ 18) (by omega)
end LK
set_option Elab.async false
set_option linter.all false
set_option maxRecDepth 100000
set_option maxHeartbeats 4000000
namespace LK
open PySem PySem.Spec PyProof.Rows L2 Mn
section
variable {S : Sto} {Q : D → Sto → Prop}
theorem xw_mulL {n : Nat} {k : Int} {ds : List D} (h : S[n]? = some (.lst ds)) (h1 : smallI k = true) (h2 : ds.length * k.toNat ≤ sizeLine) (q : Q (.ref S.length) (S ++ [.lst (List.replicate k.toNat ds).flatten])) : (fMul (.ref n) (.int k) S).wp Q := by
  show Res.wp (match S[n]? with | some (.lst ds) => if smallI k = true ∧ ds.length * k.toNat ≤ sizeLine then .ok (.ref S.length) (S ++ [.lst (List.replicate k.toNat ds).flatten]) else .bad | _ => .bad) Q
  rw [h]
  dsimp only
  rw [if_pos ⟨h1, h2⟩]
  exact q
end
def xAtt (all : List Str) (f : Str) (d : D) (S : Sto) : Res D := match exnD S d with
  | some (c, fs) => if all.contains c = true then match fs.lookup f with
    | some x => .ok x S
    | none => .bad else .bad
  | none => .bad
theorem w_xAtt {all : List Str} {f : Str} {m : M} {ρ : En} {S : Sto} {Q : D → Sto → Prop} : (mXAtt all f m ρ S).wp Q ↔ (m ρ S).wp fun d S1 => (xAtt all f d S1).wp Q := by
  unfold mXAtt
  simp only [wp_bind]
  exact Iff.rfl
theorem xAtt_at {all : List Str} {f : Str} {n : Nat} {S : Sto} {c : Str} {d : D} (h : S[n]? = some (.exn c [(f, d)])) (ha : all.contains c = true) : xAtt all f (.ref n) S = .ok d S := by
  have e : exnD S (.ref n) = some (c, [(f, d)]) := by
    show (match S[n]? with | some (.exn c fs) => some (c, fs) | _ => none) = _
    rw [h]
  unfold xAtt
  rw [e]
  show (if all.contains c = true then (match List.lookup f [(f, d)] with | some x => Res.ok x S | none => .bad) else .bad) = _
  rw [if_pos ha]
  simp
theorem xAtt_new {all : List Str} {f : Str} {S : Sto} {c : Str} {d : D} (ha : all.contains c = true) : xAtt all f (.ref S.length) (S ++ [.exn c [(f, d)]]) = .ok d (S ++ [.exn c [(f, d)]]) := xAtt_at (xgA0 S _) ha
theorem xAtt_newL {all : List Str} {f : Str} {S L : Sto} {c : Str} {d : D} (i : Nat) (hi : L[i]? = some (.exn c [(f, d)])) (ha : all.contains c = true) : xAtt all f (.ref (S.length + i)) (S ++ L) = .ok d (S ++ L) := xAtt_at ((xgA S L i).trans hi) ha
theorem named_wp {t : Nat → F} {p h : Nat} {d : D} {x : PyData} {S : Sto} {Q : D → Sto → Prop} (v : OdV p h S d x) (hh : h ≤ 30) (hp : p < S.length) (q : ∀ L, Q (.bl true) (S ++ L)) : (f_w_named_right t [d] S).wp Q := by
  have sl : ∀ n : Nat, n ≤ 200 → n ≤ sizeLine := fun n h => by rw [sizeLine_eq]; omega
  unfold f_w_named_right b_w_named_right
  refine w_def rfl ?_
  simp only [s_par, s_seq, s_set, s_ret, s_drop, w_c, w_nil, w_cons, w_lst, w_tup, w_bin, w_var, w_mkX, w_xAtt, List.getElem?_cons_zero, List.getElem?_cons_succ, List.length_cons, List.length_nil, List.length_append, List.append_assoc, List.cons_append, List.nil_append, List.set_cons_succ, List.set_cons_zero, Nat.reduceAdd, Nat.zero_add, List.map_cons, List.map_nil, List.reduceReplicate, Nat.reduceSub, Nat.add_assoc]
  rw [xAtt_new (by decide +kernel)]
  simp only [wp_ok, List.append_assoc, List.cons_append, List.nil_append, List.length_append, List.length_cons, List.length_nil, Nat.reduceAdd, Nat.add_assoc]
  rw [xAtt_newL 1 rfl (by decide +kernel)]
  simp only [wp_ok, List.append_assoc, List.cons_append, List.nil_append, List.length_append, List.length_cons, List.length_nil, Nat.reduceAdd, Nat.add_assoc]
  rw [xAtt_newL 2 rfl (by decide +kernel)]
  simp only [wp_ok, List.append_assoc, List.cons_append, List.nil_append, List.length_append, List.length_cons, List.length_nil, Nat.reduceAdd, Nat.add_assoc]
  rw [xAtt_newL 3 rfl (by decide +kernel)]
  simp only [wp_ok, List.append_assoc, List.cons_append, List.nil_append, List.length_append, List.length_cons, List.length_nil, Nat.reduceAdd, Nat.add_assoc]
  refine ⟨sl _ (by decide), ?_⟩
  rw [xAtt_newL 5 rfl (by decide +kernel)]
  simp only [wp_ok, List.append_assoc, List.cons_append, List.nil_append, List.length_append, List.length_cons, List.length_nil, Nat.reduceAdd, Nat.add_assoc]
  rw [xAtt_newL 6 rfl (by decide +kernel)]
  simp only [wp_ok, List.append_assoc, List.cons_append, List.nil_append, List.length_append, List.length_cons, List.length_nil, Nat.reduceAdd, Nat.add_assoc]
  rw [xAtt_newL 7 rfl (by decide +kernel)]
  simp only [wp_ok, List.append_assoc, List.cons_append, List.nil_append, List.length_append, List.length_cons, List.length_nil, Nat.reduceAdd, Nat.add_assoc]
  refine ⟨sl _ (by decide), ?_⟩
  rw [w_addL (xgA S _ 4) (xgA S _ 8)]
  simp only [wp_ok, List.append_assoc, List.cons_append, List.nil_append, List.length_append, List.length_cons, List.length_nil, Nat.reduceAdd, Nat.add_assoc]
  refine ⟨sl _ (by decide), ?_⟩
  rw [xAtt_newL 10 rfl (by decide +kernel)]
  simp only [wp_ok, List.append_assoc, List.cons_append, List.nil_append, List.length_append, List.length_cons, List.length_nil, Nat.reduceAdd, Nat.add_assoc]
  rw [xAtt_newL 11 rfl (by decide +kernel)]
  simp only [wp_ok, List.append_assoc, List.cons_append, List.nil_append, List.length_append, List.length_cons, List.length_nil, Nat.reduceAdd, Nat.add_assoc]
  rw [xAtt_newL 12 rfl (by decide +kernel)]
  simp only [wp_ok, List.append_assoc, List.cons_append, List.nil_append, List.length_append, List.length_cons, List.length_nil, Nat.reduceAdd, Nat.add_assoc]
  refine ⟨sl _ (by decide), ?_⟩
  rw [w_addL (xgA S _ 9) (xgA S _ 13)]
  simp only [wp_ok, List.append_assoc, List.cons_append, List.nil_append, List.length_append, List.length_cons, List.length_nil, Nat.reduceAdd, Nat.add_assoc]
  refine ⟨sl _ (by decide), ?_⟩
  rw [xAtt_newL 15 rfl (by decide +kernel)]
  simp only [wp_ok, List.append_assoc, List.cons_append, List.nil_append, List.length_append, List.length_cons, List.length_nil, Nat.reduceAdd, Nat.add_assoc]
  rw [xAtt_newL 16 rfl (by decide +kernel)]
  simp only [wp_ok, List.append_assoc, List.cons_append, List.nil_append, List.length_append, List.length_cons, List.length_nil, Nat.reduceAdd, Nat.add_assoc]
  rw [xAtt_newL 17 rfl (by decide +kernel)]
  simp only [wp_ok, List.append_assoc, List.cons_append, List.nil_append, List.length_append, List.length_cons, List.length_nil, Nat.reduceAdd, Nat.add_assoc]
  refine ⟨sl _ (by decide), ?_⟩
  rw [w_addL (xgA S _ 14) (xgA S _ 18)]
  simp only [wp_ok, List.append_assoc, List.cons_append, List.nil_append, List.length_append, List.length_cons, List.length_nil, Nat.reduceAdd, Nat.add_assoc]
  refine ⟨sl _ (by decide), ?_⟩
  rw [xAtt_newL 20 rfl (by decide +kernel)]
  simp only [wp_ok, List.append_assoc, List.cons_append, List.nil_append, List.length_append, List.length_cons, List.length_nil, Nat.reduceAdd, Nat.add_assoc]
  rw [xAtt_newL 21 rfl (by decide +kernel)]
  simp only [wp_ok, List.append_assoc, List.cons_append, List.nil_append, List.length_append, List.length_cons, List.length_nil, Nat.reduceAdd, Nat.add_assoc]
  rw [xAtt_newL 22 rfl (by decide +kernel)]
  simp only [wp_ok, List.append_assoc, List.cons_append, List.nil_append, List.length_append, List.length_cons, List.length_nil, Nat.reduceAdd, Nat.add_assoc]
  refine ⟨sl _ (by decide), ?_⟩
  rw [w_addL (xgA S _ 19) (xgA S _ 23)]
  simp only [wp_ok, List.append_assoc, List.cons_append, List.nil_append, List.length_append, List.length_cons, List.length_nil, Nat.reduceAdd, Nat.add_assoc]
  refine ⟨sl _ (by decide), ?_⟩
  simp only [w_cb, w_c, w_nil, w_cons, w_lst, w_bin, w_var, w_mkX, w_xAtt, List.getElem?_cons_zero, List.getElem?_cons_succ, List.length_cons, List.length_nil, List.length_append, List.append_assoc, List.cons_append, List.nil_append, Nat.reduceAdd, Nat.zero_add, Nat.add_assoc]
  rw [xAtt_newL 25 rfl (by decide +kernel)]
  simp only [wp_ok, List.append_assoc, List.cons_append, List.nil_append, List.length_append, List.length_cons, List.length_nil, Nat.reduceAdd, Nat.add_assoc]
  refine ⟨sl _ (by decide), ?_⟩
  rw [w_addL (xgA S _ 24) (xgA S _ 26)]
  simp only [wp_ok, List.append_assoc, List.cons_append, List.nil_append, List.length_append, List.length_cons, List.length_nil, Nat.reduceAdd, Nat.add_assoc]
  refine ⟨sl _ (by decide), ?_⟩
  have v1 : ∀ L : Sto, OdV p h (S ++ L) d x := fun L => v.ext ((Ext.refl p S).app L)
  refine repr17 (v1 _) hh (xgA S _ 27) ?_
  refine ⟨sl _ (by decide), ?_⟩
  simp only [List.append_assoc, List.cons_append, List.nil_append, List.length_append, List.length_cons, List.length_nil, Nat.reduceAdd, Nat.add_assoc]
  refine xw_mulL (ds := [d]) (xgA S _ 28) (by decide) (by show 17 ≤ sizeLine; exact sl _ (by decide)) ?_
  simp only [List.append_assoc, List.cons_append, List.nil_append, List.length_append, List.length_cons, List.length_nil, Nat.reduceAdd, Nat.add_assoc]
  refine repr17 (v1 _) hh (xgA S _ 29) ?_
  rw [w_eq (b := true) (by show some (_ == _) = _; rw [beq_self_eq_true])]
  exact q _
end LK
set_option Elab.async false
set_option linter.all false
set_option maxRecDepth 100000
set_option maxHeartbeats 4000000
namespace LK
open PySem PySem.Spec PyProof.Rows L2 Mn
theorem xslL {S : Sto} {n : Nat} {ds : List D} {lo hi : Option Int} {Q : D → Sto → Prop} (h : S[n]? = some (.lst ds)) : (fSl (.ref n) lo hi S).wp Q ↔ Q (.ref S.length) (S ++ [.lst (cutD ds lo hi)]) := by
  have e : fSl (.ref n) lo hi S = .ok (.ref S.length) (S ++ [.lst (cutD ds lo hi)]) := by
    show (match S[n]? with | some (.lst ds) => _ | _ => _) = _
    rw [h]
  rw [e]
  exact Iff.rfl
def all15 : List Str := ["BadTree", "BadPath", "BadStyle", "BadManner", "BadRows", "BadTexts", "BadHands", "BadPairs", "NoCommit", "NoFile", "BadFiles", "NoParent", "Clashes", "BadOrder", "BadRow"]
/-- the fifteen that keep a value -/
def vals15 (n : Nat) : List D := [D.ref (n + 1), D.ref (n + 2), D.ref (n + 3), D.ref (n + 4), D.ref (n + 5), D.ref (n + 6), D.ref (n + 9), D.ref (n + 10), D.ref (n + 11), D.ref (n + 12), D.ref (n + 13), D.ref (n + 16), D.ref (n + 17), D.ref (n + 18), D.ref (n + 19)]
def faults (n : Nat) : List D := [D.ref n, D.ref (n + 1), D.ref (n + 2), D.ref (n + 3), D.ref (n + 4), D.ref (n + 5), D.ref (n + 6), D.ref (n + 8), D.ref (n + 9), D.ref (n + 10), D.ref (n + 11), D.ref (n + 12), D.ref (n + 13), D.ref (n + 16), D.ref (n + 17), D.ref (n + 18), D.ref (n + 19), D.ref (n + 20), D.ref (n + 21), D.ref (n + 24)]
/-- the errors stand from n on -/
def Made (n : Nat) (d : D) (S : Sto) : Prop := n + 27 ≤ S.length ∧ ∀ i o, (madeL n d)[i]? = some o → S[n + i]? = some o
theorem Made.app {n : Nat} {d : D} {S : Sto} (m : Made n d S) (L : Sto) : Made n d (S ++ L) := ⟨by rw [List.length_append]; have := m.1; omega, fun i o e => at_app (m.2 i o e) L⟩
theorem Made.set {n : Nat} {d : D} {S : Sto} (m : Made n d S) {k : Nat} (hk : n + 27 ≤ k) (o : Ob) : Made n d (S.set k o) := by
  refine ⟨by rw [List.length_set]; exact m.1, fun i ob e => ?_⟩
  have hi : i < 27 := (List.getElem?_eq_some_iff.mp e).1
  rw [List.getElem?_set_ne (by omega)]
  exact m.2 i ob e
theorem Made.new {S : Sto} {d : D} : Made S.length d (S ++ madeL S.length d) := ⟨by rw [List.length_append]; exact Nat.le_refl _, fun i o e => (xgA S _ i).trans e⟩
theorem vals_at {n : Nat} {d : D} {S : Sto} (m : Made n d S) {r : D} (h : r ∈ vals15 n) : ∃ i c, r = .ref (n + i) ∧ S[n + i]? = some (.exn c [("value", d)]) ∧ all15.contains c = true := by
  unfold vals15 at h
  simp only [List.mem_cons, List.not_mem_nil, or_false] at h
  rcases h with rfl | rfl | rfl | rfl | rfl | rfl | rfl | rfl | rfl | rfl | rfl | rfl | rfl | rfl | rfl <;> exact ⟨_, _, rfl, m.2 _ _ rfl, by decide +kernel⟩
theorem kept_wp {t : Nat → F} {n : Nat} {d : D} {S : Sto} {Q : D → Sto → Prop} (m : Made n d S) (q : ∀ L k, (S ++ L)[k]? = some (.lst (List.replicate 17 d)) → Made n d (S ++ L) → Q (.ref k) (S ++ L)) : (f_w_all_kept t [.ref (n + 26)] S).wp Q := by
  have sl : ∀ n : Nat, n ≤ 200 → n ≤ sizeLine := fun n h => by rw [sizeLine_eq]; omega
  have hf : S[n + 26]? = some (.lst (faults n)) := m.2 26 _ rfl
  unfold f_w_all_kept b_w_all_kept
  refine w_def rfl ?_
  simp only [s_seq, s_set, s_ret, w_bin, w_sl, w_var, w_c, w_osome, List.map_cons, List.map_nil, List.length_cons, List.length_nil, List.reduceReplicate, List.getElem?_cons_zero, List.getElem?_cons_succ, List.cons_append, List.nil_append, Nat.reduceAdd, Nat.reduceSub]
  refine ⟨1, rfl, 7, rfl, ?_⟩
  rw [xslL hf]
  refine ⟨8, rfl, 17, rfl, ?_⟩
  rw [xslL (at_app hf _)]
  have e1 : (S ++ [Ob.lst (cutD (faults n) (some 1) (some 7))] ++ [Ob.lst (cutD (faults n) (some 8) (some 17))])[S.length]? = some (.lst (cutD (faults n) (some 1) (some 7))) := by rw [List.append_assoc]; exact xgA0 S _
  have e2 : (S ++ [Ob.lst (cutD (faults n) (some 1) (some 7))] ++ [Ob.lst (cutD (faults n) (some 8) (some 17))])[(S ++ [Ob.lst (cutD (faults n) (some 1) (some 7))]).length]? = some (.lst (cutD (faults n) (some 8) (some 17))) := xgA0 _ _
  rw [w_addL e1 e2]
  refine ⟨by show 15 ≤ sizeLine; exact sl _ (by decide), ?_⟩
  have e3 : cutD (faults n) (some 1) (some 7) ++ cutD (faults n) (some 8) (some 17) = vals15 n := rfl
  rw [e3]
  generalize cutD (faults n) (some 1) (some 7) = l1
  generalize cutD (faults n) (some 8) (some 17) = l2
  generalize hS : S ++ [Ob.lst l1] ++ [Ob.lst l2] ++ [Ob.lst (vals15 n)] = S3
  have hk : (S ++ [Ob.lst l1] ++ [Ob.lst l2]).length = S.length + 2 := by simp
  rw [hk]
  have h3 : S3 = S ++ [Ob.lst l1, Ob.lst l2, Ob.lst (vals15 n)] := by rw [← hS]; simp
  have hk3 : S3[S.length + 2]? = some (.lst (vals15 n)) := by rw [h3]; exact xgA S _ 2
  have m3 : Made n d S3 := by rw [h3]; exact m.app _
  have hl3 : S3.length = S.length + 3 := by rw [h3]; simp
  have hn := m.1
  refine w_comp rfl ?_
  rw [i_val]
  simp only [w_var, List.set_cons_succ, List.set_cons_zero, List.getElem?_cons_zero, List.getElem?_cons_succ]
  refine ⟨(vals15 n, stands (S.length + 2) (vals15 n)), by show (match S3[S.length + 2]? with | some (.lst ds) => some (ds, stands (S.length + 2) ds) | _ => none) = _; rw [hk3], ?_⟩
  refine comp_wp (fun l acc S' => (∀ r ∈ l, r ∈ vals15 n) ∧ acc = List.replicate acc.length d ∧ acc.length + l.length = 15 ∧ Made n d S' ∧ S'[S.length + 2]? = some (.lst (vals15 n)) ∧ ∃ L, S' = S ++ L) (fun l acc S' hI => ?_) (fun r l acc S' hI hn' => ?_) (fun acc S' hI hn' => ?_) (vals15 n) [] (S3 ++ [.lst []]) ⟨fun _ h => h, rfl, rfl, m3.app _, at_app hk3 _, ?_⟩ ?_
  · show decide _ = true
    exact decide_eq_true hI.2.2.2.2.1
  · obtain ⟨h1, h2, h4, hm, hv, L, hL⟩ := hI
    obtain ⟨i, c, rfl, hr, hc⟩ := vals_at hm (h1 r List.mem_cons_self)
    rw [List.length_cons] at h4
    refine ⟨_, rfl, ?_⟩
    rw [w_xAtt, w_var]
    show (xAtt all15 "value" (D.ref (n + i)) S').wp _
    rw [xAtt_at hr hc, wp_ok]
    refine ⟨hn', by rw [sizeLine_eq]; omega, fun r hr' => h1 r (List.mem_cons_of_mem _ hr'), ?_, by rw [List.length_append, List.length_cons, List.length_nil]; omega, hm.set (by omega) _, ?_, ?_⟩
    · rw [List.length_append, List.length_cons, List.length_nil, Nat.zero_add, List.replicate_succ']
      rw [← h2]
    · rw [List.getElem?_set_ne (by omega)]
      exact hv
    · refine ⟨L.set (S3.length - S.length) (.lst (acc ++ [d])), ?_⟩
      rw [hL, List.set_append_right _ _ (by omega)]
  · obtain ⟨h1, h2, h4, hm, hv, L, hL⟩ := hI
    rw [List.length_nil] at h4
    have hacc : acc = List.replicate 15 d := by rw [h2]; congr 1
    simp only [w_lst, w_cons, w_nil, w_xAtt, w_bin, w_var, w_c, List.getElem?_cons_zero]
    rw [w_ixL (hm.2 26 _ rfl)]
    refine ⟨.ref n, rfl, ?_⟩
    have r0 : S'[n]? = some (.exn "BadText" [("row", d)]) := hm.2 0 _ rfl
    have r24 : S'[n + 24]? = some (.exn "BadLine" [("line", d)]) := hm.2 24 _ rfl
    rw [xAtt_at r0 (by decide +kernel), wp_ok]
    rw [w_ixL (hm.2 26 _ rfl)]
    refine ⟨.ref (n + 24), rfl, ?_⟩
    rw [xAtt_at r24 (by decide +kernel), wp_ok]
    refine ⟨by show 2 ≤ sizeLine; exact sl 2 (by decide), ?_⟩
    rw [w_addL (at_app hn' _) (xgA0 S' _)]
    refine ⟨by rw [hacc]; exact sl 17 (by decide), ?_⟩
    subst hL
    have ef : acc ++ [d, d] = List.replicate 17 d := by rw [hacc]; rfl
    rw [ef, List.append_assoc, List.append_assoc]
    refine q _ _ ?_ ?_
    · rw [← List.append_assoc, ← List.append_assoc]
      exact xgA0 _ _
    · rw [← List.append_assoc, ← List.append_assoc]
      exact (hm.app _).app _
  · exact ⟨[Ob.lst l1, Ob.lst l2, Ob.lst (vals15 n)] ++ [.lst []], by rw [h3, List.append_assoc]⟩
  · exact xgA0 _ _
end LK
set_option Elab.async false
set_option linter.all false
set_option maxRecDepth 100000
set_option maxHeartbeats 4000000
namespace LK
open PySem PySem.Spec PyProof.Rows L2 Mn
theorem zip_bls {S : Sto} : ∀ bs : List Bool, List.zipWith (eqN 149 S) (bs.map D.bl) (bs.map D.bl) = List.replicate bs.length (some true)
  | [] => rfl
  | b :: bs => by
    have e : eqN 149 S (.bl b) (.bl b) = some true := by cases b <;> rfl
    show eqN 149 S (.bl b) (.bl b) :: List.zipWith (eqN 149 S) (bs.map D.bl) (bs.map D.bl) = some true :: List.replicate bs.length (some true)
    rw [e, zip_bls bs]
theorem andO_trues : ∀ n : Nat, andO (List.replicate n (some true)) = some true
  | 0 => rfl
  | n + 1 => by
    show (andO (List.replicate n (some true))).map (true && ·) = some true
    rw [andO_trues n]
    rfl
/-- two lists of the same truths are equal -/
theorem eq_bls {S : Sto} {a b : Nat} {bs : List Bool} (ha : S[a]? = some (.lst (bs.map D.bl))) (hb : S[b]? = some (.lst (bs.map D.bl))) : eqN eqK S (.ref a) (.ref b) = some true := by
  show (match shD S (.ref a), shD S (.ref b) with | some x, some y => x.eqW (eqN 149 S) y | _, _ => none) = _
  have e : ∀ n, S[n]? = some (.lst (bs.map D.bl)) → shD S (.ref n) = some (.ls (bs.map D.bl)) := fun n h => by
    show (match S[n]? with | some (.lst ds) => some (Sh.ls ds) | _ => none) = _
    rw [h]
  rw [e a ha, e b hb]
  show (if (bs.map D.bl).length = (bs.map D.bl).length then andO (List.zipWith (eqN 149 S) (bs.map D.bl) (bs.map D.bl)) else some false) = _
  rw [if_pos rfl, zip_bls, andO_trues]
/-- the truths of the i-th error -/
def truths (i : Int) : List Bool := (List.range 20).map fun k => i == ((k : Nat) : Int)
/-- what a turn gets -/
def Turn (n : Nat) (d : D) (r : D) : Prop := ∃ (i : Int) (off : Nat) (c : Str) (fs : List (Str × D)), r = .tup [.int i, .ref (n + off)] ∧ (madeL n d)[off]? = some (.exn c fs) ∧ xall.contains c = true ∧ markL c = (truths i).map D.bl
theorem turns {n : Nat} {d r : D} (h : r ∈ numD 0 (faults n)) : Turn n d r := by
  have e : numD 0 (faults n) = [.tup [.int 0, .ref n], .tup [.int 1, .ref (n + 1)], .tup [.int 2, .ref (n + 2)], .tup [.int 3, .ref (n + 3)], .tup [.int 4, .ref (n + 4)], .tup [.int 5, .ref (n + 5)], .tup [.int 6, .ref (n + 6)], .tup [.int 7, .ref (n + 8)], .tup [.int 8, .ref (n + 9)], .tup [.int 9, .ref (n + 10)],
    .tup [.int 10, .ref (n + 11)], .tup [.int 11, .ref (n + 12)], .tup [.int 12, .ref (n + 13)], .tup [.int 13, .ref (n + 16)], .tup [.int 14, .ref (n + 17)], .tup [.int 15, .ref (n + 18)], .tup [.int 16, .ref (n + 19)], .tup [.int 17, .ref (n + 20)], .tup [.int 18, .ref (n + 21)], .tup [.int 19, .ref (n + 24)]] := rfl
  rw [e] at h
  simp only [List.mem_cons, List.not_mem_nil, or_false] at h
  rcases h with rfl | rfl | rfl | rfl | rfl | rfl | rfl | rfl | rfl | rfl | rfl | rfl | rfl | rfl | rfl | rfl | rfl | rfl | rfl | rfl
  · exact ⟨0, 0, _, _, rfl, rfl, by decide +kernel, by decide +kernel⟩
  all_goals exact ⟨_, _, _, _, rfl, rfl, by decide +kernel, by decide +kernel⟩
end LK
set_option Elab.async false
set_option linter.all false
set_option maxRecDepth 100000
set_option maxHeartbeats 4000000
namespace LK
open PySem PySem.Spec PyProof.Rows L2 Mn
theorem ien {ma : MA} {ρ : En} {S : Sto} {k : Nat} {ds : List D} {Q : It0 → Sto → Prop} (hm : ma ρ S = .ok [.ref k] S) (h : S[k]? = some (.lst ds)) (q : Q (numD 0 ds, stands k ds) S) : (iEnum2 ma ρ S).wp Q := by
  unfold iEnum2
  rw [hm]
  show Res.wp (match itD S (.ref k) with | some p => if kOf S (.ref k) = "str" then .bad else .ok (numD 0 p.1, p.2) S | none => .bad) Q
  have e : itD S (.ref k) = some (ds, stands k ds) := by
    show (match S[k]? with | some (.lst ds) => some (ds, stands k ds) | _ => none) = _
    rw [h]
  have e2 : kOf S (.ref k) = "list" := by
    show kOb S[k]? = _
    rw [h]
    rfl
  rw [e, e2]
  exact q
/-- [n == k for k in range(20)] -/
theorem eqs_wp {ρ : En} {i : Int} {S : Sto} {Q : D → Sto → Prop} {r0 r1 r2 r4 r5 : Option D} (hρ : ρ = [r0, r1, r2, some (.int i), r4, r5]) (q : ∀ L k, (S ++ L)[k]? = some (.lst ((truths i).map D.bl)) → Q (.ref k) (S ++ L)) :
    (mComp (iRange1 (aCons (mC (.int 20)) aNil)) (.nm 5) tYesM (mBin fEq (mVar 3) (mVar 5)) [5] ρ S).wp Q := by
  subst hρ
  refine w_comp rfl ?_
  rw [i_range1]
  simp only [w_cons, w_nil, w_c]
  refine ⟨20, rfl, by decide, ?_⟩
  have ft : ∀ l : List Nat, (l.map fun k => D.int (0 + (k : Nat))).map (fun r => match r with | .int k => D.bl (i == k) | r => r) = (l.map fun k => i == ((k : Nat) : Int)).map D.bl := fun l => by
    rw [List.map_map, List.map_map]
    refine List.map_congr_left fun k _ => ?_
    show D.bl (i == (0 + (k : Nat))) = D.bl (i == ((k : Nat) : Int))
    rw [Int.zero_add]
  refine comp_wp (fun l acc S' => (∀ r ∈ l, ∃ k : Int, r = .int k) ∧ acc ++ l.map (fun r => match r with | .int k => D.bl (i == k) | r => r) = (truths i).map D.bl ∧ acc.length + l.length = 20 ∧ ∃ L, S' = S ++ L) (fun _ _ _ _ => rfl) (fun r l acc S' hI hn' => ?_) (fun acc S' hI hn' => ?_) _ [] (S ++ [.lst []]) ⟨fun r hr => ?_, ?_, ?_, _, rfl⟩ (xgA0 _ _)
  · obtain ⟨h1, h2, h4, L, hL⟩ := hI
    obtain ⟨k, rfl⟩ := h1 r List.mem_cons_self
    rw [List.length_cons] at h4
    refine ⟨_, rfl, ?_⟩
    rw [w_bin, w_var]
    show ((mVar 5 _ S').wp fun y S => (fEq (.int i) y S).wp _)
    rw [w_var]
    show (fEq (.int i) (.int k) S').wp _
    rw [w_eq eqN_int]
    refine ⟨hn', by rw [sizeLine_eq]; omega, fun r hr' => h1 r (List.mem_cons_of_mem _ hr'), ?_, by rw [List.length_append, List.length_cons, List.length_nil]; omega, L.set 0 (.lst (acc ++ [.bl (i == k)])), ?_⟩
    · rw [← h2, List.append_assoc]
      rfl
    · rw [hL]
      exact xsA S L 0 _
  · obtain ⟨h1, h2, h4, L, hL⟩ := hI
    subst hL
    refine q L _ ?_
    rw [hn', ← h2]
    simp
  · obtain ⟨k, _, rfl⟩ := List.mem_map.mp hr
    exact ⟨_, rfl⟩
  · rw [List.nil_append]
    exact ft (List.range 20)
  · rfl
end LK
set_option Elab.async false
set_option linter.all false
set_option maxRecDepth 100000
set_option maxHeartbeats 4000000
namespace LK
open PySem PySem.Spec PyProof.Rows L2 Mn
theorem right99 {t t3 t4 t5 t6 t7 : Nat → F} (h3 : t 3 = f_w_odd t3) (ht : t3 2 = fOf fTake) (h4 : t 4 = f_w_marks t4) (h5 : t 5 = f_w_all_made t5) (h6 : t 6 = f_w_all_kept t6) (h7 : t 7 = f_w_named_right t7) : RightOk 30 (f_w_right t) := by
  intro p c S Q hp hc q
  have sl : ∀ n : Nat, n ≤ 200 → n ≤ sizeLine := fun n h => by rw [sizeLine_eq]; omega
  unfold f_w_right b_w_right
  refine w_def rfl ?_
  rw [s_seq, s_set]
  simp only [w_cb, w_cons, w_nil, w_var, List.map_cons, List.map_nil, List.length_cons, List.length_nil, List.reduceReplicate, List.getElem?_cons_zero, List.getElem?_cons_succ, List.cons_append, List.nil_append, Nat.reduceAdd, Nat.reduceSub]
  rw [h3]
  refine odd_wp ht hp (by omega) fun d x S1 od x1 p1 => ?_
  have l1 := p1.lt
  rw [s_seq, s_set]
  simp only [w_cb, w_cons, w_nil, w_var, List.set_cons_succ, List.set_cons_zero, List.getElem?_cons_zero, List.getElem?_cons_succ]
  rw [h5]
  refine all_made_wp ?_
  generalize hS : S1 ++ madeL S1.length d = S2
  have m2 : Made S1.length d S2 := by rw [← hS]; exact Made.new
  have x2 : Ext p S1 S2 := by rw [← hS]; exact (Ext.refl p S1).app _
  have p2 : Pot p (c + 30) S2 := by rw [← hS]; exact p1.app _
  generalize hn : S1.length = n at *
  have hf : ∀ {S' : Sto}, Made n d S' → S'[n + 26]? = some (.lst (faults n)) := fun m => m.2 26 _ rfl
  rw [s_seq, s_for]
  refine ien (k := n + 26) rfl (hf m2) ?_
  refine loop_wp (fun l ρ S' => (∃ w3 w4, ρ = [some (.ref p), some d, some (.ref (n + 26)), w3, w4, none]) ∧ (∀ r ∈ l, r ∈ numD 0 (faults n)) ∧ ∃ L, S' = S2 ++ L) (fun l ρ S' hI => ?_) (fun r l ρ S' hI => ?_) (fun ρ S' hI => ?_) _ _ S2 ⟨⟨none, none, rfl⟩, fun _ h => h, [], by simp⟩
  · obtain ⟨_, _, L, rfl⟩ := hI
    show decide _ = true
    exact decide_eq_true (hf (m2.app L))
  · obtain ⟨⟨w3, w4, rfl⟩, hl, L, rfl⟩ := hI
    obtain ⟨i, off, cl, fs, rfl, hm, hall, hmk⟩ := turns (d := d) (hl r List.mem_cons_self)
    have hex : (S2 ++ L)[n + off]? = some (.exn cl fs) := (m2.app L).2 off _ hm
    refine ⟨[some (.ref p), some d, some (.ref (n + 26)), some (.int i), some (.ref (n + off)), none], rfl, ?_⟩
    rw [s_seq, s_if]
    simp only [w_val, w_bin, w_cb, w_cons, w_nil, w_var, List.getElem?_cons_zero, List.getElem?_cons_succ]
    rw [h4]
    refine marks_wp hex hall fun L2 k2 e2 _ => ?_
    refine eqs_wp rfl fun L3 k3 e3 => ?_
    rw [w_ne (b := true) (eq_bls (bs := truths i) (at_app (by rw [← hmk]; exact e2) L3) e3)]
    refine ⟨false, rfl, ?_⟩
    rw [if_neg Bool.false_ne_true, s_nil]
    have hex2 : (S2 ++ L ++ L2 ++ L3)[n + off]? = some (.exn cl fs) := at_app (at_app hex L2) L3
    have hup : (["BadText", "BadTree", "BadPath", "BadStyle", "BadManner", "BadRows", "BadTexts", "BadHands", "BadPairs", "NoCommit", "NoFile", "BadFiles", "NoParent", "Clashes", "BadOrder", "BadLine", "BadRow", "NoStyleClash", "NothingToUndo", "NothingToRedo"] : List Str).contains cl = true := hall
    rw [s_if]
    simp only [w_tor, w_tnot, w_val, w_isX, w_var, List.getElem?_cons_zero, List.getElem?_cons_succ, isX_at hex2 hall, wp_ok, hup]
    refine ⟨true, rfl, ?_⟩
    rw [if_neg (show ¬ ((!true) = true) by decide)]
    refine ⟨true, rfl, ?_⟩
    rw [if_neg (show ¬ ((!true) = true) by decide), s_nil]
    exact ⟨⟨_, _, rfl⟩, fun r hr => hl r (List.mem_cons_of_mem _ hr), L ++ L2 ++ L3, by simp only [List.append_assoc]⟩
  · obtain ⟨⟨w3, w4, rfl⟩, _, L, rfl⟩ := hI
    rw [s_ret]
    simp only [w_and, w_bin, w_cb, w_cons, w_nil, w_var, List.getElem?_cons_zero, List.getElem?_cons_succ]
    rw [h6]
    refine kept_wp (m2.app L) fun L2 k2 e2 m3 => ?_
    have odk : ∀ M : Sto, OdV p 25 (S2 ++ M) d x := fun M => (od.ext x2).ext ((Ext.refl p S2).app M)
    rw [List.append_assoc] at e2 ⊢
    refine repr17 (odk _) (by decide) e2 ?_
    simp only [w_lst, w_cons, w_nil, w_var, w_c, List.getElem?_cons_zero, List.getElem?_cons_succ]
    refine ⟨sl 1 (by decide), ?_⟩
    refine xw_mulL (ds := [d]) (xgA0 _ _) (by decide) (by show 17 ≤ sizeLine; exact sl _ (by decide)) ?_
    have e5 : (S2 ++ (L ++ L2) ++ [Ob.lst [d]] ++ [Ob.lst (List.replicate (Int.toNat 17) [d]).flatten])[(S2 ++ (L ++ L2) ++ [Ob.lst [d]]).length]? = some (.lst (List.replicate 17 d)) := xgA0 _ _
    have od5 : OdV p 25 (S2 ++ (L ++ L2) ++ [Ob.lst [d]] ++ [Ob.lst (List.replicate (Int.toNat 17) [d]).flatten]) d x := (od.ext x2).ext ((((Ext.refl p S2).app _).app _).app _)
    refine repr17 od5 (by decide) e5 ?_
    rw [w_eq (b := true) (by show some (_ == _) = _; rw [beq_self_eq_true])]
    refine ⟨true, rfl, ?_⟩
    rw [if_pos rfl, h7]
    refine named_wp od5 (by decide) (Pot.lt (c := c + 30) (((p2.app _).app _).app _)) fun M => ?_
    exact q _ ((x1.trans x2).trans (((((Ext.refl p S2).app _).app _).app _).app M)) ((((p2.app _).app _).app _).app M)
end LK
set_option Elab.async false
set_option linter.all false
set_option maxRecDepth 100000
set_option maxHeartbeats 4000000
namespace LK
open PySem PySem.Spec PyProof.Rows L2 Mn
def deep : Nat := 20
theorem of2 {k : Nat} : tab (k + 2) 2 = fOf fTake := rfl
theorem pot0 {k : Nat} : tab (k + 1) 0 = fPot := rfl
theorem rt8 {k : Nat} : RightOk 30 (tab (k + 5) 8) := by
  have e : tab (k + 5) 8 = f_w_right (tab (k + 4)) := rfl
  rw [e]
  exact right99 (t3 := tab (k + 3)) (t4 := tab (k + 3)) (t5 := tab (k + 3)) (t6 := tab (k + 3)) (t7 := tab (k + 3)) rfl of2 rfl rfl rfl rfl
theorem law_true (ns : List Int) (h : ns.length ≤ 63) : ∃ S', tab deep 9 [.fls (ns.map D.int)] [] = .ok (.bl true) S' := by
  have e : tab deep 9 = fLaw 3 6 (tab 19 0) (tab 19 8) := rfl
  have e0 : tab 19 0 = fPot := pot0
  rw [e, e0]
  exact law_wp (m := 6) (C := 30) (by decide) rfl (by decide) (by decide) rt8 ns
end LK
set_option Elab.async false
set_option linter.all false
set_option maxRecDepth 100000
set_option maxHeartbeats 0
namespace LK
open PySem PySem.Spec PyProof.Rows L2 Mn
section
variable {P : Program} {w : World} {K : PySem.W.Frag} {mg : Str → Option Value} {base : Heap}
theorem all_at (a : Amb w K mg cs fn) (x : XA P K mg xs) : ∀ (k j : Nat), j < 10 → FG P w K mg base (clX K) k (dfs j) (pss j) (tab k j)
  | 0, j, h => by
    match j, h with
    | 0, _ => exact fg_bad a 0 rfl rfl bi_w_pot
    | 1, _ => exact fg_bad a 1 rfl rfl bi_w_take
    | 2, _ => exact fg_bad a 2 rfl rfl bi_w_of
    | 3, _ => exact fg_bad a 3 rfl rfl bi_w_odd
    | 4, _ => exact fg_bad a 4 rfl rfl bi_w_marks
    | 5, _ => exact fg_bad a 5 rfl rfl bi_w_all_made
    | 6, _ => exact fg_bad a 6 rfl rfl bi_w_all_kept
    | 7, _ => exact fg_bad a 7 rfl rfl bi_w_named_right
    | 8, _ => exact fg_bad a 8 rfl rfl bi_w_right
    | 9, _ => exact fg_bad a 9 rfl rfl bi_law
    | n + 10, h => exact absurd h (by omega)
  | k + 1, j, h => by
    have T := all_at a x k
    match j, h with
    | 0, _ => exact q_w_pot a x T
    | 1, _ => exact q_w_take a x T
    | 2, _ => exact q_w_of a x T
    | 3, _ => exact q_w_odd a x T
    | 4, _ => exact q_w_marks a x T
    | 5, _ => exact q_w_all_made a x T
    | 6, _ => exact q_w_all_kept a x T
    | 7, _ => exact q_w_named_right a x T
    | 8, _ => exact q_w_right a x T
    | 9, _ => exact q_law a x T
    | n + 10, h => exact absurd h (by omega)
theorem facts {h : Heap} {f : Addr} (X : K.In h) (G : h.Ns mainGlobals mg) (hfa : mg ("law" : Str) = some (.ref f)) (c : SaysM cs fn w K) (x : XA P K mg xs) (k : Nat) :
    ∃ fd : FuncData, (∀ (s : Shared) (u : Value), BindsTo s fd ⟨[u], []⟩ [("_law_script", u)]) ∧ ∀ base : Heap, K.In base → base.Ns mainGlobals mg → FnG P w K mg base (2 * k) f fd ["_law_script"] (spF K (clX K) (tab k 9)) := by
  have a : Amb w K mg cs fn := amb_of X G c
  obtain ⟨fd, Fu⟩ := a.def_ 9 (d := dOf "law" 32) rfl
  have e := hfa.symm.trans (a.glo 9 (d := dOf "law" 32) rfl rfl)
  cases e
  refine ⟨fd, fun s u => FunD.bindsA (ps := ["_law_script"]) Fu bi_law s [u] rfl, fun base _ _ => ?_⟩
  obtain ⟨f', fd', F0, ⟨_, g⟩, _, _, G'⟩ := (all_at (P := P) (base := base) a x k 9 (by decide)).ex
  have g : mg ("law" : Str) = some (.ref f') := g rfl
  have e := hfa.symm.trans g
  cases e
  have e2 : fd' = fd := fd_inj F0 Fu
  rw [← e2]
  exact G'
end
theorem xd_ok {K : PySem.W.Frag} : ∀ (i : Nat) {d : XD}, xs.ds[i]? = some d → xW K d.cls = d.val → d.ok K = true → XcC K (PySem.Challenge.rw_styleamid_k99_errors_made_with_any_value).prog (He.ga K d.cls) d.arg d.fld
  | 0, d, h => by
    have e := Option.some.inj h
    subst e
    exact fun hW ok => xc_of (d := xd_BadRows) (pl := (do return (← (pure (some false) : Sem (Option Bool))).getD true)) hW ok rfl (by kernel_rfl) (by kernel_rfl) rfl rfl (by decide) rfl rfl rfl rfl rfl rfl rfl (by decide +kernel) (by decide) (fun _ => rfl) (fun _ _ _ _ _ _ _ us hl => match us, hl with | [_, _], _ => rfl) (fun _ _ _ _ _ _ _ _ _ => rfl)
  | 1, d, h => by
    have e := Option.some.inj h
    subst e
    exact fun hW ok => xc_of (d := xd_BadRow) (pl := (do return (← (pure (some false) : Sem (Option Bool))).getD true)) hW ok rfl (by kernel_rfl) (by kernel_rfl) rfl rfl (by decide) rfl rfl rfl rfl rfl rfl rfl (by decide +kernel) (by decide) (fun _ => rfl) (fun _ _ _ _ _ _ _ us hl => match us, hl with | [_, _], _ => rfl) (fun _ _ _ _ _ _ _ _ _ => rfl)
  | 2, d, h => by
    have e := Option.some.inj h
    subst e
    exact fun hW ok => xc_of (d := xd_BadManner) (pl := (do return (← (pure (some false) : Sem (Option Bool))).getD true)) hW ok rfl (by kernel_rfl) (by kernel_rfl) rfl rfl (by decide) rfl rfl rfl rfl rfl rfl rfl (by decide +kernel) (by decide) (fun _ => rfl) (fun _ _ _ _ _ _ _ us hl => match us, hl with | [_, _], _ => rfl) (fun _ _ _ _ _ _ _ _ _ => rfl)
  | 3, d, h => by
    have e := Option.some.inj h
    subst e
    exact fun hW ok => xc_of (d := xd_BadStyle) (pl := (do return (← (pure (some false) : Sem (Option Bool))).getD true)) hW ok rfl (by kernel_rfl) (by kernel_rfl) rfl rfl (by decide) rfl rfl rfl rfl rfl rfl rfl (by decide +kernel) (by decide) (fun _ => rfl) (fun _ _ _ _ _ _ _ us hl => match us, hl with | [_, _], _ => rfl) (fun _ _ _ _ _ _ _ _ _ => rfl)
  | 4, d, h => by
    have e := Option.some.inj h
    subst e
    exact fun hW ok => xc_of (d := xd_BadPath) (pl := (do return (← (pure (some false) : Sem (Option Bool))).getD true)) hW ok rfl (by kernel_rfl) (by kernel_rfl) rfl rfl (by decide) rfl rfl rfl rfl rfl rfl rfl (by decide +kernel) (by decide) (fun _ => rfl) (fun _ _ _ _ _ _ _ us hl => match us, hl with | [_, _], _ => rfl) (fun _ _ _ _ _ _ _ _ _ => rfl)
  | 5, d, h => by
    have e := Option.some.inj h
    subst e
    exact fun hW ok => xc_of (d := xd_BadTree) (pl := (do return (← (pure (some false) : Sem (Option Bool))).getD true)) hW ok rfl (by kernel_rfl) (by kernel_rfl) rfl rfl (by decide) rfl rfl rfl rfl rfl rfl rfl (by decide +kernel) (by decide) (fun _ => rfl) (fun _ _ _ _ _ _ _ us hl => match us, hl with | [_, _], _ => rfl) (fun _ _ _ _ _ _ _ _ _ => rfl)
  | 6, d, h => by
    have e := Option.some.inj h
    subst e
    exact fun hW ok => xc_of (d := xd_BadText) (pl := (do return (← (pure (some false) : Sem (Option Bool))).getD true)) hW ok rfl (by kernel_rfl) (by kernel_rfl) rfl rfl (by decide) rfl rfl rfl rfl rfl rfl rfl (by decide +kernel) (by decide) (fun _ => rfl) (fun _ _ _ _ _ _ _ us hl => match us, hl with | [_, _], _ => rfl) (fun _ _ _ _ _ _ _ _ _ => rfl)
  | 7, d, h => by
    have e := Option.some.inj h
    subst e
    exact fun hW ok => xc_of (d := xd_NoFile) (pl := (do return (← (pure (some false) : Sem (Option Bool))).getD true)) hW ok rfl (by kernel_rfl) (by kernel_rfl) rfl rfl (by decide) rfl rfl rfl rfl rfl rfl rfl (by decide +kernel) (by decide) (fun _ => rfl) (fun _ _ _ _ _ _ _ us hl => match us, hl with | [_, _], _ => rfl) (fun _ _ _ _ _ _ _ _ _ => rfl)
  | 8, d, h => by
    have e := Option.some.inj h
    subst e
    exact fun hW ok => xc_of (d := xd_NoCommit) (pl := (do return (← (pure (some false) : Sem (Option Bool))).getD true)) hW ok rfl (by kernel_rfl) (by kernel_rfl) rfl rfl (by decide) rfl rfl rfl rfl rfl rfl rfl (by decide +kernel) (by decide) (fun _ => rfl) (fun _ _ _ _ _ _ _ us hl => match us, hl with | [_, _], _ => rfl) (fun _ _ _ _ _ _ _ _ _ => rfl)
  | 9, d, h => by
    have e := Option.some.inj h
    subst e
    exact fun hW ok => xc_of (d := xd_BadPairs) (pl := (do return (← (pure (some false) : Sem (Option Bool))).getD true)) hW ok rfl (by kernel_rfl) (by kernel_rfl) rfl rfl (by decide) rfl rfl rfl rfl rfl rfl rfl (by decide +kernel) (by decide) (fun _ => rfl) (fun _ _ _ _ _ _ _ us hl => match us, hl with | [_, _], _ => rfl) (fun _ _ _ _ _ _ _ _ _ => rfl)
  | 10, d, h => by
    have e := Option.some.inj h
    subst e
    exact fun hW ok => xc_of (d := xd_BadHands) (pl := (do return (← (pure (some false) : Sem (Option Bool))).getD true)) hW ok rfl (by kernel_rfl) (by kernel_rfl) rfl rfl (by decide) rfl rfl rfl rfl rfl rfl rfl (by decide +kernel) (by decide) (fun _ => rfl) (fun _ _ _ _ _ _ _ us hl => match us, hl with | [_, _], _ => rfl) (fun _ _ _ _ _ _ _ _ _ => rfl)
  | 11, d, h => by
    have e := Option.some.inj h
    subst e
    exact fun hW ok => xc_of (d := xd_BadTexts) (pl := (do return (← (pure (some false) : Sem (Option Bool))).getD true)) hW ok rfl (by kernel_rfl) (by kernel_rfl) rfl rfl (by decide) rfl rfl rfl rfl rfl rfl rfl (by decide +kernel) (by decide) (fun _ => rfl) (fun _ _ _ _ _ _ _ us hl => match us, hl with | [_, _], _ => rfl) (fun _ _ _ _ _ _ _ _ _ => rfl)
  | 12, d, h => by
    have e := Option.some.inj h
    subst e
    exact fun hW ok => xc_of (d := xd_BadOrder) (pl := (do return (← (pure (some false) : Sem (Option Bool))).getD true)) hW ok rfl (by kernel_rfl) (by kernel_rfl) rfl rfl (by decide) rfl rfl rfl rfl rfl rfl rfl (by decide +kernel) (by decide) (fun _ => rfl) (fun _ _ _ _ _ _ _ us hl => match us, hl with | [_, _], _ => rfl) (fun _ _ _ _ _ _ _ _ _ => rfl)
  | 13, d, h => by
    have e := Option.some.inj h
    subst e
    exact fun hW ok => xc_of (d := xd_Clashes) (pl := (do return (← (pure (some false) : Sem (Option Bool))).getD true)) hW ok rfl (by kernel_rfl) (by kernel_rfl) rfl rfl (by decide) rfl rfl rfl rfl rfl rfl rfl (by decide +kernel) (by decide) (fun _ => rfl) (fun _ _ _ _ _ _ _ us hl => match us, hl with | [_, _], _ => rfl) (fun _ _ _ _ _ _ _ _ _ => rfl)
  | 14, d, h => by
    have e := Option.some.inj h
    subst e
    exact fun hW ok => xc_of (d := xd_NoParent) (pl := (do return (← (pure (some false) : Sem (Option Bool))).getD true)) hW ok rfl (by kernel_rfl) (by kernel_rfl) rfl rfl (by decide) rfl rfl rfl rfl rfl rfl rfl (by decide +kernel) (by decide) (fun _ => rfl) (fun _ _ _ _ _ _ _ us hl => match us, hl with | [_, _], _ => rfl) (fun _ _ _ _ _ _ _ _ _ => rfl)
  | 15, d, h => by
    have e := Option.some.inj h
    subst e
    exact fun hW ok => xc_of (d := xd_BadFiles) (pl := (do return (← (pure (some false) : Sem (Option Bool))).getD true)) hW ok rfl (by kernel_rfl) (by kernel_rfl) rfl rfl (by decide) rfl rfl rfl rfl rfl rfl rfl (by decide +kernel) (by decide) (fun _ => rfl) (fun _ _ _ _ _ _ _ us hl => match us, hl with | [_, _], _ => rfl) (fun _ _ _ _ _ _ _ _ _ => rfl)
  | 16, d, h => by
    have e := Option.some.inj h
    subst e
    exact fun hW ok => xc_of (d := xd_BadLine) (pl := (do return (← (pure (some false) : Sem (Option Bool))).getD true)) hW ok rfl (by kernel_rfl) (by kernel_rfl) rfl rfl (by decide) rfl rfl rfl rfl rfl rfl rfl (by decide +kernel) (by decide) (fun _ => rfl) (fun _ _ _ _ _ _ _ us hl => match us, hl with | [_, _], _ => rfl) (fun _ _ _ _ _ _ _ _ _ => rfl)
  | n + 17, d, h => nomatch h
end LK
open PySem PySem.W PySem.Calls PyProof.Rows
theorem PySem.Challenge.cw_styleamid_k99_errors_made_with_any_value_holds : PySem.Challenge.rw_styleamid_k99_errors_made_with_any_value.Holds := by
  w_on; o_law
  refine HandSHeadRun.head_any (r := OpenLaw.row PySem.Challenge.rw_styleamid_k99_errors_made_with_any_value) (q := view (OpenLaw.row PySem.Challenge.rw_styleamid_k99_errors_made_with_any_value).prog [32]) (H := LK.hk) (ob := LK.ob) (M := 20000) (loose := LK.names) (d := HandSHeadRun.topDef (OpenLaw.row PySem.Challenge.rw_styleamid_k99_errors_made_with_any_value).prog 32) (kwd := []) LK.ob_eq
    (by kernel_rfl) (fun s => by kernel_rfl) LK.run (by kernel_rfl) (by kernel_rfl) (by kernel_rfl) (by rfl) (by first | assumption | decide +kernel) (by decide +kernel) ⟨rfl, rfl, rfl, rfl, rfl, by decide +kernel⟩ ?hw ?hc
  case hw => w_witness2
  case hc =>
    refine Mn.walk_g (l := PySem.Challenge.rw_styleamid_k99_errors_made_with_any_value) (n := 63) (k := 2 * LK.deep) (x := "_law_script") (fn := LK.tab LK.deep 9) rfl (by decide) (by kernel_rfl) ⟨rfl, by decide, by decide⟩ ?F LK.law_true
    intro w mg fa h Y G hmg0
    obtain ⟨K, KX, c⟩ := Y
    have hmg : mg ("law" : PySem.Str) = some (.ref fa) := by
      have e : (HandSHeadRun.topDef (OpenLaw.row PySem.Challenge.rw_styleamid_k99_errors_made_with_any_value).prog 32).name = ("law" : PySem.Str) := by kernel_rfl
      rw [← e]
      exact hmg0
    obtain ⟨fd, hb, hF⟩ := LK.facts (P := (PySem.Challenge.rw_styleamid_k99_errors_made_with_any_value).prog) (w := w) KX G hmg c.1 (Mn.xa_of KX G c.2 LK.xd_ok) LK.deep
    exact ⟨K, fd, LK.clX K, KX, hb, hF⟩
