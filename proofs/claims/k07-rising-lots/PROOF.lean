import PyProof.Rows.All
import Wide.All
import OpenK.AllK
import Wide.FinOn
import HandS.ForMost
import HandS.HeadHook1
import HandS.ForExc
import HandS.WordsExc
import HandS.CallSlots
import HandS.Wide
import HandS.TupAny
import HandS.TupMul
import HandS.Flow
import HandS.Conv
import HandS.Text
import KE.KTupSum
import HandS.IsInst
import HandS.NoneIn
import HandS.Style
import HandS.Iter
import HandS.Zip
import HandS.Small
import HandS.Comp
import HandS.TupLen
import HandS.SortInts
import KE.GoesZip
import KE.GoesEnum
import HandS.DeepEq
import PyProof.ReprRoads
import HandS.Defaults
import HandS.Ends
import HandS.HeadEnd
import HandS.Head0
import HandS.Head1
import HandS.Head2
import HandS.HeadHook2
import PySem.Challenge.RW_wishesrise_k07_whole_rising_lots
import KE.KStateDown
import Lean
set_option Elab.async false
set_option linter.all false
set_option maxRecDepth 100000
set_option maxHeartbeats 4000000
/-! Mi1: data trees, what they stand for in the abstract heap, environments of a mirror -/
namespace Mi
open PySem PySem.Spec L2
inductive Ky where
  | int (i : Int) | str (x : Str) | tup (xs : List Key)
  deriving DecidableEq
inductive D where
  | non | bl (b : Bool) | int (i : Int) | str (x : Str) | tup (xs : List D) | lst (xs : List D)
  | dct (t : Bool) (ks : List Ky) (vs : List D) | obj (c : Str) (ns : List Str) (vs : List D) | fz (xs : List D)
mutual
def D.same : D → D → Bool
  | .non, .non => true
  | .bl a, .bl b => a == b
  | .int a, .int b => decide (a = b)
  | .str a, .str b => decide (a = b)
  | .tup xs, .tup ys => D.sames xs ys
  | .lst xs, .lst ys => D.sames xs ys
  | .dct t ks vs, .dct u ls ws => (t == u) && decide (ks = ls) && D.sames vs ws
  | .obj c ns vs, .obj d ms ws => decide (c = d) && decide (ns = ms) && D.sames vs ws
  | .fz xs, .fz ys => D.sames xs ys
  | _, _ => false
def D.sames : List D → List D → Bool
  | [], [] => true
  | x :: xs, y :: ys => D.same x y && D.sames xs ys
  | _, _ => false
end
mutual
theorem D.same_refl : ∀ d : D, D.same d d = true
  | .non => rfl
  | .bl a => by simp [D.same]
  | .int a => by simp [D.same]
  | .str a => by simp [D.same]
  | .tup xs => by simp [D.same, D.sames_refl xs]
  | .lst xs => by simp [D.same, D.sames_refl xs]
  | .dct t ks vs => by simp [D.same, D.sames_refl vs]
  | .obj c ns vs => by simp [D.same, D.sames_refl vs]
  | .fz xs => by simp [D.same, D.sames_refl xs]
theorem D.sames_refl : ∀ ds : List D, D.sames ds ds = true
  | [] => rfl
  | d :: ds => by simp [D.sames, D.same_refl d, D.sames_refl ds]
end
mutual
theorem D.same_eq : ∀ d e : D, D.same d e = true → d = e
  | .non, e, h => by cases e <;> simp_all [D.same]
  | .bl a, e, h => by cases e <;> simp_all [D.same]
  | .int a, e, h => by cases e <;> simp_all [D.same]
  | .str a, e, h => by cases e <;> simp_all [D.same]
  | .tup xs, e, h => by
    cases e <;> simp [D.same] at h
    rw [D.sames_eq xs _ h]
  | .lst xs, e, h => by
    cases e <;> simp [D.same] at h
    rw [D.sames_eq xs _ h]
  | .dct t ks vs, e, h => by
    cases e <;> simp [D.same] at h
    rw [h.1.1, h.1.2, D.sames_eq vs _ h.2]
  | .obj c ns vs, e, h => by
    cases e <;> simp [D.same] at h
    rw [h.1.1, h.1.2, D.sames_eq vs _ h.2]
  | .fz xs, e, h => by
    cases e <;> simp [D.same] at h
    rw [D.sames_eq xs _ h]
theorem D.sames_eq : ∀ ds es : List D, D.sames ds es = true → ds = es
  | [], es, h => by cases es <;> simp_all [D.sames]
  | d :: ds, es, h => by
    cases es with
    | nil => simp [D.sames] at h
    | cons e es =>
      simp [D.sames] at h
      rw [D.same_eq d e h.1, D.sames_eq ds es h.2]
end
instance : DecidableEq D := fun a b => if h : D.same a b = true then .isTrue (D.same_eq a b h) else .isFalse fun e => h (by rw [e]; exact D.same_refl b)

/-! ### what a tree stands for -/
/-- the keys of a dict of ints and texts -/
def kyK : Ky → Option Key
  | .int i => some (.inl i)
  | .str x => some (.inr x)
  | .tup _ => none
/-- the keys of a dict of tuples -/
def kyT : Ky → Option (List Key)
  | .tup xs => some xs
  | _ => none
/-- a dict stands at a: its keys, its values -/
def DctAt (H : Hp) (t : Bool) (ks : List Ky) (xs : List V) (a : Addr) : Prop := match t with
  | false => ∃ kvs, H a = some (.dK kvs) ∧ ks.map kyK = kvs.map (fun p => some p.1) ∧ xs = kvs.map (·.2)
  | true => ∃ kvs, H a = some (.dT kvs) ∧ ks.map kyT = kvs.map (fun p => some p.1) ∧ xs = kvs.map (·.2)
theorem DctAt.some {H : Hp} {t : Bool} {ks : List Ky} {xs : List V} {a : Addr} (h : DctAt H t ks xs a) : ∃ o, H a = Option.some o := by
  cases t with
  | false => obtain ⟨kvs, h, _⟩ := h; exact ⟨_, h⟩
  | true => obtain ⟨kvs, h, _⟩ := h; exact ⟨_, h⟩
theorem DctAt.to {H H' : Hp} {t : Bool} {ks : List Ky} {xs : List V} {a : Addr} (h : DctAt H t ks xs a) (k : ∀ o, H a = Option.some o → H' a = Option.some o) : DctAt H' t ks xs a := by
  cases t with
  | false => obtain ⟨kvs, h, q⟩ := h; exact ⟨kvs, k _ h, q⟩
  | true => obtain ⟨kvs, h, q⟩ := h; exact ⟨kvs, k _ h, q⟩
/-- a list that no one changes -/
def FzAt (K : PySem.W.Frag) (U : Addr → Prop) (H : Hp) (a : Addr) (xs : List V) : Prop := (∃ o, H a = some (.frz o (.lst xs)) ∧ ¬ U a) ∨ SqL K (fun _ => none) a xs
theorem FzAt.to {K : PySem.W.Frag} {U U' : Addr → Prop} {H H' : Hp} {a : Addr} {xs : List V} (hk : ∀ a o, ¬ U a → H a = some o → H' a = some o) (hu : ∀ a o, ¬ U a → H a = some o → ¬ U' a) (h : FzAt K U H a xs) : FzAt K U' H' a xs :=
  h.imp (fun ⟨o, h, n⟩ => ⟨o, hk _ _ n h, hu _ _ n h⟩) id
theorem FzAt.sq {K : PySem.W.Frag} {U : Addr → Prop} {H : Hp} {a : Addr} {xs : List V} (h : FzAt K U H a xs) : SqL K H a xs := by
  rcases h with ⟨o, h, _⟩ | h
  · exact .inl (.inr ⟨o, h⟩)
  · rcases h with h | h
    · rcases h with h | ⟨o, h⟩
      · cases h
      · cases h
    · exact .inr h
section
variable (K : PySem.W.Frag) (U : Addr → Prop) (H : Hp)
mutual
def Rep : D → V → Prop
  | .non, v => v = .non
  | .bl b, v => v = .bl b
  | .int i, v => v = .int i
  | .str x, v => v = .str x
  | .tup ds, v => ∃ a xs, v = .ref a ∧ (H a = some (.tup xs) ∧ ¬ U a) ∧ Reps ds xs
  | .lst ds, v => ∃ a xs, v = .ref a ∧ (H a = some (.lst xs) ∧ ¬ U a) ∧ Reps ds xs
  | .dct t ks ds, v => ∃ a xs, v = .ref a ∧ ¬ U a ∧ DctAt H t ks xs a ∧ Reps ds xs
  | .obj c ns ds, v => ∃ a dx xs, v = .ref a ∧ ¬ U a ∧ H a = some (.ins (He.ga K c) dx (ns.zip xs)) ∧ ns.length = xs.length ∧ Reps ds xs
  | .fz ds, v => ∃ a xs, v = .ref a ∧ FzAt K U H a xs ∧ Reps ds xs
def Reps : List D → List V → Prop
  | [], xs => xs = []
  | d :: ds, xs => ∃ x r, xs = x :: r ∧ Rep d x ∧ Reps ds r
end
end
section
variable {K : PySem.W.Frag} {U U' : Addr → Prop} {H H' : Hp}
mutual
theorem Rep.to (hk : ∀ a o, ¬ U a → H a = some o → H' a = some o) (hu : ∀ a o, ¬ U a → H a = some o → ¬ U' a) : ∀ (d : D) (v : V), Rep K U H d v → Rep K U' H' d v
  | .non, _, h => h
  | .bl _, _, h => h
  | .int _, _, h => h
  | .str _, _, h => h
  | .tup ds, v, h => by
    obtain ⟨a, xs, e, ⟨h1, h3⟩, h2⟩ := h
    exact ⟨a, xs, e, ⟨hk _ _ h3 h1, hu _ _ h3 h1⟩, Reps.to hk hu ds xs h2⟩
  | .lst ds, v, h => by
    obtain ⟨a, xs, e, ⟨h1, h3⟩, h2⟩ := h
    exact ⟨a, xs, e, ⟨hk _ _ h3 h1, hu _ _ h3 h1⟩, Reps.to hk hu ds xs h2⟩
  | .dct t ks ds, v, h => by
    obtain ⟨a, xs, e, h3, h1, h2⟩ := h
    obtain ⟨o, ho⟩ := h1.some
    exact ⟨a, xs, e, hu _ _ h3 ho, h1.to fun o q => hk _ _ h3 q, Reps.to hk hu ds xs h2⟩
  | .obj c ns ds, v, h => by
    obtain ⟨a, dx, xs, e, h3, h1, hl, h2⟩ := h
    exact ⟨a, dx, xs, e, hu _ _ h3 h1, hk _ _ h3 h1, hl, Reps.to hk hu ds xs h2⟩
  | .fz ds, v, h => by
    obtain ⟨a, xs, e, h1, h2⟩ := h
    exact ⟨a, xs, e, h1.to hk hu, Reps.to hk hu ds xs h2⟩
theorem Reps.to (hk : ∀ a o, ¬ U a → H a = some o → H' a = some o) (hu : ∀ a o, ¬ U a → H a = some o → ¬ U' a) : ∀ (ds : List D) (xs : List V), Reps K U H ds xs → Reps K U' H' ds xs
  | [], _, h => h
  | d :: ds, xs, h => by
    obtain ⟨x, r, e, h1, h2⟩ := h
    exact ⟨x, r, e, Rep.to hk hu d x h1, Reps.to hk hu ds r h2⟩
end
end
end Mi

set_option Elab.async false
set_option linter.all false
set_option maxRecDepth 100000
set_option maxHeartbeats 4000000
/-! Mi2: environments, results, what an expression's mirror says -/
namespace Mi
open PySem PySem.Spec L2
/-- an object that one name alone holds -/
inductive Ob where
  | lst (xs : List D) | dct (t : Bool) (ks : List Ky) (vs : List D) | ins (c : Str) (ns : List Str) (vs : List D)
  deriving DecidableEq
/-- a slot: empty, a value, an object of its own, an object of its own that the caller sees -/
inductive Sl where
  | un | v (d : D) | ow (o : Ob) | io (o : Ob)
  deriving DecidableEq
def Sl.ob : Sl → Option Ob
  | .ow o => some o
  | .io o => some o
  | _ => none
abbrev En := List Sl
structure Exn where
  own : Bool
  cls : Str
  ns : List Str
  vs : List D
  deriving DecidableEq
inductive Rs (α : Type) where
  | ok (a : α) (env : En)
  | er (x : Exn) (env : En)
  | bad
  deriving DecidableEq
def Rs.bind {α β : Type} (r : Rs α) (f : α → En → Rs β) : Rs β := match r with
  | .ok a env => f a env
  | .er x env => .er x env
  | .bad => .bad
/-- from what may be undefined -/
def Rs.of {α : Type} (o : Option α) (env : En) : Rs α := match o with
  | some a => .ok a env
  | none => .bad
@[simp] theorem Rs.bind_ok {α β : Type} (a : α) (env : En) (f : α → En → Rs β) : (Rs.ok a env).bind f = f a env := rfl
@[simp] theorem Rs.bind_er {α β : Type} (x : Exn) (env : En) (f : α → En → Rs β) : (Rs.er x env).bind f = .er x env := rfl
@[simp] theorem Rs.bind_bad {α β : Type} (f : α → En → Rs β) : (Rs.bad : Rs α).bind f = .bad := rfl
@[simp] theorem Rs.of_some {α : Type} (a : α) (env : En) : Rs.of (some a) env = .ok a env := rfl
@[simp] theorem Rs.of_none {α : Type} (env : En) : Rs.of (none : Option α) env = .bad := rfl
theorem Rs.bind_assoc {α β γ : Type} (r : Rs α) (f : α → En → Rs β) (g : β → En → Rs γ) : (r.bind f).bind g = r.bind fun a e => (f a e).bind g := by cases r <;> rfl

/-- the addresses of the objects that the names hold by themselves -/
def Chg (env : En) (σ : St) (a : Addr) : Prop := ∃ (i : Nat) (s : Sl) (o : Ob), env[i]? = some s ∧ s.ob = some o ∧ σ[i]? = some (some (V.ref a))
def Ux (U : Addr → Prop) (env : En) (σ : St) (a : Addr) : Prop := U a ∨ Chg env σ a
def Gr (C : Addr → Prop) (H H' : Hp) : Prop := ∀ a o, ¬ C a → H a = some o → H' a = some o
theorem Gr.refl {C : Addr → Prop} {H : Hp} : Gr C H H := fun _ _ _ h => h
theorem Gr.of_same {C : Addr → Prop} {H H' : Hp} (s : Same H H') : Gr C H H' := fun a o _ h => s a o h
def RepO (K : PySem.W.Frag) (U : Addr → Prop) (H : Hp) : Ob → Addr → Prop
  | .lst ds, a => ∃ xs, H a = some (.lst xs) ∧ Reps K U H ds xs
  | .dct t ks ds, a => ∃ xs, DctAt H t ks xs a ∧ Reps K U H ds xs
  | .ins c ns ds, a => ∃ dx xs, H a = some (.ins (He.ga K c) dx (ns.zip xs)) ∧ ns.length = xs.length ∧ Reps K U H ds xs
theorem RepO.some {K : PySem.W.Frag} {U : Addr → Prop} {H : Hp} {o : Ob} {a : Addr} (h : RepO K U H o a) : ∃ u, H a = Option.some u := by
  cases o with
  | lst ds => obtain ⟨xs, h, _⟩ := h; exact ⟨_, h⟩
  | dct t ks ds => obtain ⟨xs, h, _⟩ := h; exact h.some
  | ins c ns ds => obtain ⟨dx, xs, h, _⟩ := h; exact ⟨_, h⟩
theorem RepO.to {K : PySem.W.Frag} {U U' : Addr → Prop} {H H' : Hp} {o : Ob} {a : Addr} (hk : ∀ a o, ¬ U a → H a = Option.some o → H' a = Option.some o) (hu : ∀ a o, ¬ U a → H a = Option.some o → ¬ U' a)
    (ha : ∀ o, H a = Option.some o → H' a = Option.some o) (h : RepO K U H o a) : RepO K U' H' o a := by
  cases o with
  | lst ds => obtain ⟨xs, h, r⟩ := h; exact ⟨xs, ha _ h, Reps.to hk hu _ _ r⟩
  | dct t ks ds => obtain ⟨xs, h, r⟩ := h; exact ⟨xs, h.to ha, Reps.to hk hu _ _ r⟩
  | ins c ns ds => obtain ⟨dx, xs, h, l, r⟩ := h; exact ⟨dx, xs, ha _ h, l, Reps.to hk hu _ _ r⟩
structure SA (K : PySem.W.Frag) (U : Addr → Prop) (env : En) (σ : St) (H : Hp) : Prop where
  len : env.length = σ.length
  al : ∀ a, U a → ∃ o, H a = some o
  nu : ∀ a, Chg env σ a → ¬ U a
  inj : ∀ (i j : Nat) (s t : Sl) (o p : Ob) (a : Addr), env[i]? = some s → s.ob = some o → env[j]? = some t → t.ob = some p → σ[i]? = some (some (V.ref a)) → σ[j]? = some (some (V.ref a)) → i = j
  val : ∀ (i : Nat) (d : D), env[i]? = some (Sl.v d) → ∃ v, σ[i]? = some (some v) ∧ Rep K (Ux U env σ) H d v
  ob : ∀ (i : Nat) (s : Sl) (o : Ob), env[i]? = some s → s.ob = some o → ∃ a, σ[i]? = some (some (V.ref a)) ∧ RepO K (Ux U env σ) H o a
section
variable {K : PySem.W.Frag} {U U' : Addr → Prop} {env env' env1 env2 : En} {σ σ' σ1 σ2 : St} {H H' H1 H2 : Hp}
theorem SA.alx (sa : SA K U env σ H) {a : Addr} (h : Ux U env σ a) : ∃ o, H a = some o := by
  rcases h with h | ⟨i, s, o, h1, h2, h3⟩
  · exact sa.al a h
  · obtain ⟨b, h4, r⟩ := sa.ob i s o h1 h2
    rw [h3] at h4
    cases h4
    exact r.some
theorem SA.fresh (sa : SA K U env σ H) {p : Addr} (h : H p = none) : ¬ Ux U env σ p := fun q => by
  obtain ⟨o, e⟩ := sa.alx q
  rw [h] at e
  cases e
/-- new objects beside what stood -/
theorem SA.same (sa : SA K U env σ H) (s : Same H H') : SA K U env σ H' where
  len := sa.len
  al := fun a h => by
    obtain ⟨o, e⟩ := sa.al a h
    exact ⟨o, s a o e⟩
  nu := sa.nu
  inj := sa.inj
  val := fun i d h => by
    obtain ⟨v, e, r⟩ := sa.val i d h
    exact ⟨v, e, Rep.to (fun a o _ q => s a o q) (fun a o n _ => n) d v r⟩
  ob := fun i s' o h1 h2 => by
    obtain ⟨a, e, r⟩ := sa.ob i s' o h1 h2
    exact ⟨a, e, RepO.to (fun a o _ q => s a o q) (fun a o n _ => n) (fun o q => s a o q) r⟩
/-- from one state to another: what was not ours alone stands, objects of our own are the old ones or new, the caller's stay in their slots -/
structure Ste (K : PySem.W.Frag) (U : Addr → Prop) (env : En) (σ : St) (H : Hp) (env' : En) (σ' : St) (H' : Hp) : Prop where
  sa : SA K U env' σ' H'
  gr : Gr (Chg env σ) H H'
  fr : ∀ a, Chg env' σ' a → Chg env σ a ∨ H a = none
  io : ∀ (i : Nat) (o : Ob), env[i]? = some (Sl.io o) → ∃ o' : Ob, env'[i]? = some (Sl.io o') ∧ σ'[i]? = σ[i]?
theorem Ste.refl (sa : SA K U env σ H) : Ste K U env σ H env σ H := ⟨sa, .refl, fun _ h => .inl h, fun _ o h => ⟨o, h, rfl⟩⟩
theorem Ste.trans (a : Ste K U env σ H env1 σ1 H1) (b : Ste K U env1 σ1 H1 env2 σ2 H2) : Ste K U env σ H env2 σ2 H2 where
  sa := b.sa
  gr := fun x o n h => b.gr x o (fun c => (a.fr x c).elim n fun z => by rw [h] at z; cases z) (a.gr x o n h)
  fr := fun x c => by
    rcases b.fr x c with q | q
    · exact a.fr x q
    · by_cases n : Chg env σ x
      · exact .inl n
      · refine .inr ?_
        cases e : H x with
        | none => rfl
        | some o =>
          rw [a.gr x o n e] at q
          cases q
  io := fun i o h => by
    obtain ⟨o1, h1, e1⟩ := a.io i o h
    obtain ⟨o2, h2, e2⟩ := b.io i o1 h1
    exact ⟨o2, h2, e2.trans e1⟩
theorem Ste.same (a : Ste K U env σ H env1 σ1 H1) (s : Same H1 H2) : Ste K U env σ H env1 σ1 H2 :=
  a.trans ⟨a.sa.same s, .of_same s, fun _ c => .inl c, fun _ o h => ⟨o, h, rfl⟩⟩
/-- what was a value of ours before is one behind it -/
theorem Ste.rep (a : Ste K U env σ H env1 σ1 H1) (sa : SA K U env σ H) {d : D} {v : V} (r : Rep K (Ux U env σ) H d v) : Rep K (Ux U env1 σ1) H1 d v :=
  Rep.to (fun x o n h => a.gr x o (fun c => n (.inr c)) h) (fun x o n h q => q.elim (fun z => n (.inl z)) fun c => (a.fr x c).elim (fun z => n (.inr z)) fun z => by rw [h] at z; cases z) d v r
theorem Ste.reps (a : Ste K U env σ H env1 σ1 H1) (sa : SA K U env σ H) {d : List D} {v : List V} (r : Reps K (Ux U env σ) H d v) : Reps K (Ux U env1 σ1) H1 d v :=
  Reps.to (fun x o n h => a.gr x o (fun c => n (.inr c)) h) (fun x o n h q => q.elim (fun z => n (.inl z)) fun c => (a.fr x c).elim (fun z => n (.inr z)) fun z => by rw [h] at z; cases z) d v r
end
/-- how an exception lies -/
def ExR (K : PySem.W.Frag) (U : Addr → Prop) (H : Hp) (x : Exn) (cls : Value) (dd : Option Addr) : Prop :=
  cls = (if x.own then .ref (He.ga K x.cls) else .type x.cls.toString) ∧
    (x.ns = [] ∧ dd = none ∨ ∃ a xs, dd = some a ∧ H a = some (.xd (x.ns.zip xs)) ∧ x.ns.length = xs.length ∧ Reps K U H x.vs xs)
/-- what a result of a mirror asks; RL: how its value and the state's lie -/
def Po {α β : Type} (RL : (Addr → Prop) → St → Hp → α → β → Prop) (K : PySem.W.Frag) (W : WX) (U : Addr → Prop) (env : En) (σ : St) (H : Hp) (r : Rs α) (Q : β → Hp → Prop) : Prop := match r with
  | .ok d env' => ∀ v H', Ste K U env σ H env' σ H' → RL (Ux U env' σ) σ H' d v → Q v H'
  | .er x env' => ∀ cls dd H', Ste K U env σ H env' σ H' → ExR K (Ux U env' σ) H' x cls dd → W cls dd σ H'
  | .bad => False
section
variable {α β γ δ : Type} {R1 : (Addr → Prop) → St → Hp → α → β → Prop} {R2 : (Addr → Prop) → St → Hp → γ → δ → Prop} {K : PySem.W.Frag} {W : WX} {U : Addr → Prop} {env env1 : En} {σ : St} {H H1 : Hp}
theorem Po.shift {r : Rs γ} {Q : δ → Hp → Prop} (a : Ste K U env σ H env1 σ H1) (h : Po R2 K W U env σ H r Q) : Po R2 K W U env1 σ H1 r Q := by
  cases r with
  | ok d e => exact fun v H' b q => h v H' (a.trans b) q
  | er x e => exact fun c d H' b q => h c d H' (a.trans b) q
  | bad => exact h
/-- a first part, then the rest -/
theorem Po.step {r : Rs α} {f : α → En → Rs γ} {Q : δ → Hp → Prop} {Q1 : β → Hp → Prop} (h : Po R2 K W U env σ H (r.bind f) Q)
    (k : ∀ v H1 d env1, Ste K U env σ H env1 σ H1 → R1 (Ux U env1 σ) σ H1 d v → Po R2 K W U env1 σ H1 (f d env1) Q → Q1 v H1) : Po R1 K W U env σ H r Q1 := by
  cases r with
  | ok d e => exact fun v H' a q => k v H' d e a q (Po.shift a h)
  | er x e => exact h
  | bad => exact h
theorem Po.of_ok {a : γ} {Q : δ → Hp → Prop} (h : Po R2 K W U env σ H (.ok a env) Q) (sa : SA K U env σ H) {v : δ} {H' : Hp} (s : Same H H') (r : R2 (Ux U env σ) σ H' a v) : Q v H' := h v H' ((Ste.refl sa).same s) r
end
/-! ### judgements -/
def RD (K : PySem.W.Frag) : (Addr → Prop) → St → Hp → D → V → Prop := fun U _ H d v => Rep K U H d v
def RB : (Addr → Prop) → St → Hp → Bool → Bool → Prop := fun _ _ _ b c => c = b
def RDs (K : PySem.W.Frag) : (Addr → Prop) → St → Hp → List D → List V → Prop := fun U _ H d v => Reps K U H d v
/-- arguments: values, and slots whose objects are handed on -/
def RAr (K : PySem.W.Frag) (U : Addr → Prop) (σ : St) (H : Hp) : List (D ⊕ Nat) → List V → Prop
  | [], vs => vs = []
  | .inl d :: r, vs => ∃ x t, vs = x :: t ∧ Rep K U H d x ∧ RAr K U σ H r t
  | .inr i :: r, vs => ∃ x t, vs = x :: t ∧ σ[i]? = some (some x) ∧ RAr K U σ H r t
def tM {α β : Type} (RL : (Addr → Prop) → St → Hp → α → β → Prop) (K : PySem.W.Frag) (W : WX) (m : En → Rs α) : St → Hp → (β → Hp → Prop) → Prop := fun σ H Q => ∃ U env, SA K U env σ H ∧ Po RL K W U env σ H (m env) Q
abbrev tE (K : PySem.W.Frag) (W : WX) (m : En → Rs D) : TE := tM (RD K) K W m
abbrev tT (K : PySem.W.Frag) (W : WX) (m : En → Rs Bool) : TT := tM RB K W m
abbrev tR (K : PySem.W.Frag) (W : WX) (m : En → Rs (List (D ⊕ Nat))) : TA := tM (RAr K) K W m
abbrev tA (K : PySem.W.Frag) (W : WX) (m : En → Rs (List D)) : TA := tM (RDs K) K W m
/-- the expression e of the context X has the mirror m -/
abbrev Ev (X : Cx) (W : WX) (e : Expr) (m : En → Rs D) : Prop := PE X e (tE X.K W m)
abbrev EvT (X : Cx) (W : WX) (e : Expr) (m : En → Rs Bool) : Prop := PT X e (tT X.K W m)
abbrev EvR (X : Cx) (W : WX) (es : List Expr) (m : En → Rs (List (D ⊕ Nat))) : Prop := PA X es (tR X.K W m)
abbrev EvA (X : Cx) (W : WX) (es : List Expr) (m : En → Rs (List D)) : Prop := PA X es (tA X.K W m)
theorem PE_imp {X : Cx} {e : Expr} {t t' : TE} (h : PE X e t) (k : ∀ σ H Q, t' σ H Q → t σ H Q) : PE X e t' := ⟨fun pins s σ H Q I q => h.run pins s σ H Q I (k σ H Q q)⟩
theorem PT_imp {X : Cx} {e : Expr} {t t' : TT} (h : PT X e t) (k : ∀ σ H Q, t' σ H Q → t σ H Q) : PT X e t' := ⟨fun pins s σ H Q I q => h.run pins s σ H Q I (k σ H Q q)⟩
theorem PW_imp {X : Cx} {e : Expr} {t t' : TT} (h : PW X e t) (k : ∀ σ H Q, t' σ H Q → t σ H Q) : PW X e t' := ⟨fun w pins s σ H Q I q => h.run w pins s σ H Q I (k σ H Q q)⟩
theorem PA_imp {X : Cx} {e : List Expr} {t t' : TA} (h : PA X e t) (k : ∀ σ H Q, t' σ H Q → t σ H Q) : PA X e t' := ⟨fun pos pins s σ H Q I q => h.run pos pins s σ H Q I (k σ H Q q)⟩
theorem PS_imp {X : Cx} {e : Stmt} {t t' : TS} (h : PS X e t) (k : ∀ D σ H, t' D σ H → t D σ H) : PS X e t' := ⟨fun pins s σ H D I q => h.run pins s σ H D I (k D σ H q)⟩
theorem PSs_imp {X : Cx} {e : List Stmt} {t t' : TS} (h : PSs X e t) (k : ∀ D σ H, t' D σ H → t D σ H) : PSs X e t' := ⟨fun pins s σ H D I q => h.run pins s σ H D I (k D σ H q)⟩
end Mi

set_option Elab.async false
set_option linter.all false
set_option maxRecDepth 100000
set_option maxHeartbeats 4000000
/-! Mi3: defs, their promises, calls -/
namespace Mi
open PySem PySem.Spec L2
/-! ### a def that is walked where no repr is under way -/
structure FnG (P : Program) (w : World) (K : PySem.W.Frag) (mg : Str → Option Value) (base : Heap) (k : Nat) (f : Addr) (fd : FuncData) (ps : List Str) (sp : Sp) : Prop where
  len : ∀ vs H Q E, sp vs H Q E → vs.length = ps.length
  run : ∀ (A : Around) (outer : List PySem.Env) (s : Shared) (H : Hp) (args : Args) (us : List Value) (vs : List V) (Q : VK) (E : XK), Room k A → A.guards = some [] →
    Env0 P w K mg base A outer s H → BindsTo s fd args (ps.zip us) → Vals vs us → sp vs H Q E → codeAny (model P w) A (.call (.ref f) args) (CR (L2.CX P w) outer P w H s Q E) s
theorem FnG.of {P : Program} {w : World} {K : PySem.W.Frag} {mg : Str → Option Value} {base : Heap} {k : Nat} {f : Addr} {fd : FuncData} {ps : List Str} {sp : Sp} (F : FnOk P w K mg base (L2.CX P w) k f fd ps sp) : FnG P w K mg base k f fd ps sp :=
  ⟨F.len, fun A outer s H args us vs Q E hr _ e0 hb r h => F.run A outer s H args us vs Q E hr e0 hb r h⟩
theorem FnG.mono {P : Program} {w : World} {K : PySem.W.Frag} {mg : Str → Option Value} {base : Heap} {j k : Nat} {f : Addr} {fd : FuncData} {ps : List Str} {sp : Sp} (F : FnG P w K mg base j f fd ps sp) (h : j ≤ k) : FnG P w K mg base k f fd ps sp :=
  ⟨F.len, fun A outer s H args us vs Q E hr hg e0 hb r q => F.run A outer s H args us vs Q E (hr.mono h) hg e0 hb r q⟩
theorem FnG.imp {P : Program} {w : World} {K : PySem.W.Frag} {mg : Str → Option Value} {base : Heap} {k : Nat} {f : Addr} {fd : FuncData} {ps : List Str} {sp sp' : Sp} (F : FnG P w K mg base k f fd ps sp)
    (h : ∀ vs H Q E, sp' vs H Q E → sp vs H Q E) : FnG P w K mg base k f fd ps sp' :=
  ⟨fun vs H Q E z => F.len vs H Q E (h vs H Q E z), fun A outer s H args us vs Q E hr hg e0 hb r q => F.run A outer s H args us vs Q E hr hg e0 hb r (h vs H Q E q)⟩
/-- what a body's context is known to have -/
structure Co (X : Cx) (k : Nat) : Prop where
  hr : Room k X.A
  hg : X.A.guards = some []
  calm : X.calm = true
theorem Co.mono {X : Cx} {j k : Nat} (c : Co X k) (h : j ≤ k) : Co X j := ⟨c.hr.mono h, c.hg, c.calm⟩
theorem fnG_of {P : Program} {w : World} {K : PySem.W.Frag} {mg : Str → Option Value} {base : Heap} {x qual : Str} {st : Stmt} {f : Addr} {fd : FuncData} {N ps : List Str} {k : Nat} {sp : Sp} (F : Fun K x qual st f fd) (S : FnScope N ps (defScope st))
    (len : ∀ vs H Q E, sp vs H Q E → vs.length = ps.length)
    (hbody : ∀ (cdv : Value) (A : Around) (outer : List PySem.Env) (s : Shared) (H : Hp) (vs : List V) (Q : VK) (E : XK), Co (cxOf (L2.CX P w) P w K mg base N qual (defScope st) f cdv A outer s H E) k → sp vs H Q E →
      ∃ t, PSs (cxOf (L2.CX P w) P w K mg base N qual (defScope st) f cdv A outer s H E) (defBody st) t ∧ t { nx := fun _ H' => Q .non H', rt := Q } (start N vs) H) : FnG P w K mg base (k + 1) f fd ps sp := by
  obtain ⟨oc, od, kV, doc, pm, an, cdv, ct, osl, rfl, lk, hcd⟩ := F.ex
  refine ⟨len, fun A outer s H args us vs Q E hr hgd e0 hb r hsp => ?_⟩
  have hl := len _ _ _ _ hsp
  have KX : K.In s.heap := e0.mod.kin.keeps fun b o e => (e0.bs b o e).1
  have lim : s.heap.NoLimit := e0.mod.nolimit.keeps fun b o e => (e0.bs b o e).1
  refine codeAny_call_function hr.depth (KX _ _ lk) rfl S.co S.gen rfl (PySem.W.codeRec_of KX hcd) (hb _ _ _ _ ?_)
  refine wpAny_newFunctionEnv_cells S.kind (fun ⟨n, v⟩ hy => ?_) fun env he s1 x => ?_
  · rcases S.par n (List.of_mem_zip hy).1 with q | q
    · exact .inl q
    · exact .inr ⟨q, PySem.W.cellsFrom_some _ _ _ (.inl q)⟩
  subst he
  refine ⟨lim.keeps x.toInCall.keep, codeAny_func ?_⟩
  have co : Co (cxOf (L2.CX P w) P w K mg base N qual (defScope st) f cdv A outer s H E) k := ⟨hr.deeper _, hgd, rfl⟩
  obtain ⟨t, ht, hq⟩ := hbody cdv A outer s H vs Q E co hsp
  refine wpAny_mono (ht.run [] s1 (start N vs) H _ (inv_start S hr.hd e0 hl r x) hq) (fun fl s' hs => ?_) fun e s' hs => hs
  cases fl with
  | ret u =>
    obtain ⟨v, σ', H', J, rv, q⟩ := hs
    exact ⟨v, H', J.os, J.bare, J.base, J.hok, rv, q⟩
  | next =>
    obtain ⟨σ', H', J, q⟩ := hs
    exact ⟨V.non, H', J.os, J.bare, J.base, J.hok, rfl, q⟩
  | brk => exact hs.elim fun _ h => h.elim fun _ h => h.2.elim
  | cont => exact hs.elim fun _ h => h.elim fun _ h => h.2.elim
/-- the call of a def by its address -/
theorem runG {X : Cx} {W : WX} {k : Nat} {f : Addr} {fd : FuncData} {ps : List Str} {sp : Sp} {dvs : List V} {ds : List Value} {pins : List (Addr × Obj)} {σ : St} {H : Hp} {s : Shared} {Q : VK} {us : List Value} {vs : List V}
    (F : FnG X.prog X.w X.K X.mg X.base k f fd ps sp) (c : Co X k) (hb : Binds X.K fd ps ds) (hd : Vals dvs ds) (tk : Takes X W) (I : Inv X pins σ H s) (r : Vals vs us)
    (h : sp (vs ++ dvs) H Q fun cls d H' => W cls d σ H') : wpAny (model X.prog X.w) X.A (call (.ref f) us) (EP X pins σ Q) X.xe s := by
  have r2 : Vals (vs ++ dvs) (us ++ ds) := r.append hd
  have hl : (us ++ ds).length = ps.length := r2.length.symm.trans (F.len _ _ _ _ h)
  refine wpAny_call (codeAny_mono (F.run X.A X.stack s H ⟨us, []⟩ _ _ Q _ c.hr c.hg I.env0 (hb s us I.kIn hl) r2 h) fun r s' hq => ?_)
  cases r with
  | error e => exact tk e s' (XE.of_call I (fun _ _ _ z => z) hq)
  | ok fl =>
    cases fl with
    | ret u => exact I.after hq
    | next => exact False.elim hq
    | brk => exact False.elim hq
    | cont => exact False.elim hq
def tCG (sp : Sp) (dvs : List V) (W : WX) (t : TA) : TE := fun σ H Q => t σ H fun vs H1 => sp (vs ++ dvs) H1 Q fun cls d H' => W cls d σ H'
section
variable {X : Cx} {W : WX} {k : Nat} {f : Addr} {fd : FuncData} {ps : List Str} {sp : Sp} {dvs : List V} {ds : List Value} {x : Str} {p pos : Pos} {e : Expr} {es : List Expr} {t : TA}
theorem pe_cg (F : FnG X.prog X.w X.K X.mg X.base k f fd ps sp) (c : Co X k) (tk : Takes X W) (hm : X.mg x = some (.ref f)) (hk : PySem.W.keepIn X.K (.ref f) = true) (hb : Binds X.K fd ps ds) (hd : Vals dvs ds)
    (ha : PA X (e :: es) t) (hg : Gl X x) (hdb : (x == ("__debug__" : Str)) = false) (he : starEach (e :: es) X.env = (false, eval e X.env) :: starEach es X.env) (hpl : (backTo pos (starEach es X.env)).any (·.1) = false) :
    PE X (.Call (.Name x p) (e :: es) [] pos) (tCG sp dvs W t) := by
  refine ⟨fun pins s σ H Q I h => ?_⟩
  refine wpAny_Call_Name_kw (ld_glob I hg hm ?_ hdb)
  refine PySem.W.callWith_K (h₀ := X.base) I.ok.mod.kin hk (thn (ha.run pos pins s σ H _ I h) fun us s1 ⟨vs, H1, I1, r, q⟩ => ⟨I1.kIn, ?_⟩) he hpl
  exact runG F c hb hd tk I1 r q
theorem pe_cg0 (F : FnG X.prog X.w X.K X.mg X.base k f fd ps sp) (c : Co X k) (tk : Takes X W) (hm : X.mg x = some (.ref f)) (hk : PySem.W.keepIn X.K (.ref f) = true) (hb : Binds X.K fd ps ds) (hd : Vals dvs ds)
    (hg : Gl X x) (hdb : (x == ("__debug__" : Str)) = false) : PE X (.Call (.Name x p) [] [] pos) (tCG sp dvs W tNil) := by
  refine ⟨fun pins s σ H Q I h => ?_⟩
  refine wpAny_Call_Name_kw (ld_glob I hg hm ?_ hdb)
  exact PySem.W.callWith_K0 I.kIn hk (runG (us := []) F c hb hd tk I .nil h)
end
end Mi

set_option Elab.async false
set_option linter.all false
set_option maxRecDepth 100000
set_option maxHeartbeats 4000000
/-! Mi4: statements' mirrors; the promise of a mirror; a def keeps it; its calls -/
namespace Mi
open PySem PySem.Spec L2
inductive Fl where
  | nx | bk | ct | rt (d : D)
/-- what a statement's result asks -/
def PoF (K : PySem.W.Frag) (Dn : Ends) (U : Addr → Prop) (fl : Fl) (env' : En) (σ' : St) (H' : Hp) : Prop := match fl with
  | .nx => Dn.nx σ' H'
  | .bk => Dn.bk σ' H'
  | .ct => Dn.ct σ' H'
  | .rt d => ∀ v, Rep K (Ux U env' σ') H' d v → Dn.rt v H'
def PoS (K : PySem.W.Frag) (W : WX) (U : Addr → Prop) (env : En) (σ : St) (H : Hp) (r : Rs Fl) (Dn : Ends) : Prop := match r with
  | .ok fl env' => ∀ σ' H', Ste K U env σ H env' σ' H' → PoF K Dn U fl env' σ' H'
  | .er x env' => ∀ cls dd σ' H', Ste K U env σ H env' σ' H' → ExR K (Ux U env' σ') H' x cls dd → W cls dd σ' H'
  | .bad => False
def tS (K : PySem.W.Frag) (W : WX) (m : En → Rs Fl) : TS := fun Dn σ H => ∃ U env, SA K U env σ H ∧ PoS K W U env σ H (m env) Dn
abbrev EvS (X : Cx) (W : WX) (s : Stmt) (m : En → Rs Fl) : Prop := PS X s (tS X.K W m)
abbrev EvSs (X : Cx) (W : WX) (s : List Stmt) (m : En → Rs Fl) : Prop := PSs X s (tS X.K W m)
section
variable {K : PySem.W.Frag} {W : WX} {U : Addr → Prop} {env env1 : En} {σ σ1 : St} {H H1 : Hp}
theorem PoS.shift {r : Rs Fl} {Dn : Ends} (a : Ste K U env σ H env1 σ1 H1) (h : PoS K W U env σ H r Dn) : PoS K W U env1 σ1 H1 r Dn := by
  cases r with
  | ok d e => exact fun s' H' b => h s' H' (a.trans b)
  | er x e => exact fun c d s' H' b q => h c d s' H' (a.trans b) q
  | bad => exact h
/-- an expression, then the statement's rest -/
theorem PoS.step {α β : Type} {R1 : (Addr → Prop) → St → Hp → α → β → Prop} {r : Rs α} {f : α → En → Rs Fl} {Dn : Ends} {Q1 : β → Hp → Prop} (h : PoS K W U env σ H (r.bind f) Dn)
    (k : ∀ v H1 d env1, Ste K U env σ H env1 σ H1 → R1 (Ux U env1 σ) σ H1 d v → PoS K W U env1 σ H1 (f d env1) Dn → Q1 v H1) : Po R1 K W U env σ H r Q1 := by
  cases r with
  | ok d e => exact fun v H' a q => k v H' d e a q (PoS.shift a h)
  | er x e => exact fun c d H' a q => h c d σ H' a q
  | bad => exact h
end
def mSeq (m n : En → Rs Fl) : En → Rs Fl := fun env => (m env).bind fun fl env1 => match fl with
  | .nx => n env1
  | fl => .ok fl env1
def mNx : En → Rs Fl := fun env => .ok .nx env
section
variable {X : Cx} {W : WX} {st : Stmt} {rest : List Stmt} {m n : En → Rs Fl}
theorem es_nil : EvSs X W [] mNx := PSs_imp pss_nil fun Dn σ H ⟨U, env, sa, po⟩ => po σ H (.refl sa)
theorem es_one (h : EvS X W st m) : EvSs X W [st] m := pss_one h
theorem es_cons (h1 : EvS X W st m) (h2 : EvSs X W rest n) : EvSs X W (st :: rest) (mSeq m n) := by
  refine PSs_imp (pss_cons h1 h2) fun Dn σ H ⟨U, env, sa, po⟩ => ⟨U, env, sa, ?_⟩
  unfold mSeq at po
  cases hm : m env with
  | bad => rw [hm] at po; exact po
  | er x e => rw [hm] at po; exact po
  | ok fl e =>
    rw [hm] at po
    cases fl with
    | nx => exact fun σ' H' a => ⟨U, e, a.sa, PoS.shift a po⟩
    | bk => exact po
    | ct => exact po
    | rt d => exact po
end
/-! ### the promise -/
def Sl.arg : Sl → Bool
  | .v _ => true
  | .io _ => true
  | _ => false
def spM (K : PySem.W.Frag) (n : Nat) (m : En → Rs D) : Sp := fun vs H Q E => ∃ U args, vs.length = n ∧ SA K U args (vs.map some) H ∧ (∀ s ∈ args, s.arg = true) ∧ Po (RD K) K (fun c d _ H' => E c d H') U args (vs.map some) H (m args) Q
def mergeA : En → En → En
  | .io _ :: r, .io o :: t => .io o :: mergeA r t
  | a :: r, _ :: t => a :: mergeA r t
  | r, [] => r
  | [], _ => []
theorem mergeA_nil (a : En) : mergeA a [] = a := by
  cases a with
  | nil => rfl
  | cons s r => cases s <;> rfl
def mDef (n N : Nat) (mb : En → Rs Fl) : En → Rs D := fun args => match mb (args ++ List.replicate (N - n) .un) with
  | .ok (.rt d) env => .ok d (mergeA args env)
  | .ok .nx env => .ok .non (mergeA args env)
  | .ok _ _ => .bad
  | .er x env => .er x (mergeA args env)
  | .bad => .bad
section
variable {K : PySem.W.Frag} {U : Addr → Prop} {args env' : En} {σ0 σ' : St} {H H' : Hp} {n : Nat}
theorem get_pad {α : Type} {l : List α} {x y : α} {n i : Nat} (h : (l ++ List.replicate n x)[i]? = some y) : l[i]? = some y ∨ (y = x ∧ l.length ≤ i) := by
  by_cases hi : i < l.length
  · rw [List.getElem?_append_left hi] at h
    exact .inl h
  · rw [List.getElem?_append_right (Nat.le_of_not_lt hi)] at h
    exact .inr ⟨(List.mem_replicate.mp (List.mem_of_getElem? h)).2, Nat.le_of_not_lt hi⟩
theorem get_padr {α : Type} {l : List α} {x y : α} {n i : Nat} (h : l[i]? = some y) : (l ++ List.replicate n x)[i]? = some y := by
  have hi := (List.getElem?_eq_some_iff.mp h).1
  rw [List.getElem?_append_left hi]
  exact h
theorem chg_pad (hl : args.length = σ0.length) (a : Addr) : Chg (args ++ List.replicate n .un) (σ0 ++ List.replicate n none) a ↔ Chg args σ0 a := by
  constructor
  · rintro ⟨i, s, o, h1, h2, h3⟩
    rcases get_pad h1 with h1 | ⟨e, _⟩
    · rcases get_pad h3 with h3 | ⟨e, _⟩
      · exact ⟨i, s, o, h1, h2, h3⟩
      · cases e
    · subst e
      cases h2
  · rintro ⟨i, s, o, h1, h2, h3⟩
    exact ⟨i, s, o, get_padr h1, h2, get_padr h3⟩
theorem ux_pad (hl : args.length = σ0.length) (a : Addr) : Ux U (args ++ List.replicate n .un) (σ0 ++ List.replicate n none) a ↔ Ux U args σ0 a := or_congr_right (chg_pad hl a)
theorem SA.pad (sa : SA K U args σ0 H) : SA K U (args ++ List.replicate n .un) (σ0 ++ List.replicate n none) H where
  len := by rw [List.length_append, List.length_append, sa.len, List.length_replicate, List.length_replicate]
  al := sa.al
  nu := fun a c => sa.nu a ((chg_pad sa.len a).mp c)
  inj := fun i j s t o p a h1 h2 h3 h4 h5 h6 => by
    rcases get_pad h1 with h1 | ⟨e, _⟩
    · rcases get_pad h3 with h3 | ⟨e, _⟩
      · rcases get_pad h5 with h5 | ⟨e, _⟩
        · rcases get_pad h6 with h6 | ⟨e, _⟩
          · exact sa.inj i j s t o p a h1 h2 h3 h4 h5 h6
          · cases e
        · cases e
      · subst e; cases h4
    · subst e; cases h2
  val := fun i d h => by
    rcases get_pad h with h | ⟨e, _⟩
    · obtain ⟨v, e, r⟩ := sa.val i d h
      exact ⟨v, get_padr e, Rep.to (fun a o _ q => q) (fun a o nn _ q => nn ((ux_pad sa.len a).mp q)) d v r⟩
    · cases e
  ob := fun i s o h1 h2 => by
    rcases get_pad h1 with h1 | ⟨e, _⟩
    · obtain ⟨a, e, r⟩ := sa.ob i s o h1 h2
      exact ⟨a, get_padr e, RepO.to (fun a o _ q => q) (fun a o nn _ q => nn ((ux_pad sa.len a).mp q)) (fun _ q => q) r⟩
    · subst e; cases h2
theorem pad_len {N : List Str} {vs : List V} : start N vs = vs.map some ++ List.replicate (N.length - vs.length) none := rfl
/-- what the caller sees behind a def -/
theorem Ste.leave (sa : SA K U args σ0 H) (har : ∀ s ∈ args, s.arg = true) (a : Ste K U (args ++ List.replicate n .un) (σ0 ++ List.replicate n none) H env' σ' H') :
    Ste K U args σ0 H (mergeA args env') σ0 H' ∧ ∀ x, Ux U (mergeA args env') σ0 x → Ux U env' σ' x := by
  -- each parameter that the caller sees is still in its slot
  have io : ∀ (i : Nat) (o : Ob), args[i]? = some (.io o) → ∃ o' : Ob, env'[i]? = some (.io o') ∧ σ'[i]? = σ0[i]? := fun i o h => by
    obtain ⟨o', h1, h2⟩ := a.io i o (get_padr h)
    refine ⟨o', h1, h2.trans ?_⟩
    have hi : i < σ0.length := by rw [← sa.len]; exact (List.getElem?_eq_some_iff.mp h).1
    rw [List.getElem?_append_left hi]
  have mg : ∀ (i : Nat) (s : Sl), (mergeA args env')[i]? = some s → (∃ o o' : Ob, s = .io o' ∧ args[i]? = some (.io o) ∧ env'[i]? = some (.io o')) ∨ (∃ d, s = .v d ∧ args[i]? = some (.v d)) := by
    have core : ∀ (a e : En) (hio : ∀ (i : Nat) (o : Ob), a[i]? = some (.io o) → ∃ o' : Ob, e[i]? = some (.io o')) (hv : ∀ s ∈ a, s.arg = true) (i : Nat) (s : Sl), (mergeA a e)[i]? = some s →
        (∃ o o' : Ob, s = .io o' ∧ a[i]? = some (.io o) ∧ e[i]? = some (.io o')) ∨ (∃ d, s = .v d ∧ a[i]? = some (.v d)) := by
      intro a
      induction a with
      | nil => intro e _ _ i s h; cases e <;> simp [mergeA] at h
      | cons x r ih =>
        intro e hio hv i s h
        cases e with
        | nil =>
          rw [mergeA_nil] at h
          cases s with
          | io o => obtain ⟨o', q⟩ := hio i o h; simp at q
          | v d => exact .inr ⟨d, rfl, h⟩
          | un => exact absurd (hv _ (List.mem_of_getElem? h)) (by simp [Sl.arg])
          | ow o => exact absurd (hv _ (List.mem_of_getElem? h)) (by simp [Sl.arg])
        | cons t e =>
          cases i with
          | succ i =>
            have q := ih e (fun i o h => hio (i + 1) o h) (fun s hs => hv s (List.mem_cons_of_mem _ hs)) i s (by cases x <;> cases t <;> simpa [mergeA] using h)
            exact q
          | zero =>
            cases x with
            | io o =>
              obtain ⟨o', q⟩ := hio 0 o rfl
              obtain rfl : t = .io o' := by simpa using q
              left
              refine ⟨o, o', ?_, rfl, rfl⟩
              simpa [mergeA] using h.symm
            | v d =>
              right
              refine ⟨d, ?_, rfl⟩
              cases t <;> simpa [mergeA] using h.symm
            | un => exact absurd (hv _ List.mem_cons_self) (by simp [Sl.arg])
            | ow o => exact absurd (hv _ List.mem_cons_self) (by simp [Sl.arg])
    exact core args env' (fun i o h => let ⟨o', h1, _⟩ := io i o h; ⟨o', h1⟩) har
  have rm : ∀ (i : Nat) (s : Sl), args[i]? = some s → ∃ s', (mergeA args env')[i]? = some s' := by
    have core : ∀ (a e : En) (i : Nat) (s : Sl), a[i]? = some s → ∃ s', (mergeA a e)[i]? = some s' := by
      intro a
      induction a with
      | nil => intro e i s h; simp at h
      | cons x r ih =>
        intro e i s h
        cases e with
        | nil => rw [mergeA_nil]; exact ⟨s, h⟩
        | cons t e =>
          cases i with
          | zero => cases x <;> cases t <;> exact ⟨_, rfl⟩
          | succ i =>
            obtain ⟨s', q⟩ := ih e i s h
            exact ⟨s', by cases x <;> cases t <;> simpa [mergeA] using q⟩
    exact core args env'
  have lenM : (mergeA args env').length = args.length := by
    have core : ∀ (a e : En), (mergeA a e).length = a.length := by
      intro a
      induction a with
      | nil => intro e; cases e <;> rfl
      | cons x r ih => intro e; cases e with
        | nil => rw [mergeA_nil]
        | cons t e => cases x <;> cases t <;> simp [mergeA, ih]
    exact core args env'
  have ch1 : ∀ x, Chg (mergeA args env') σ0 x → Chg env' σ' x ∧ Chg args σ0 x := by
    rintro x ⟨i, s, o, h1, h2, h3⟩
    rcases mg i s h1 with ⟨o1, o', rfl, e1, e2⟩ | ⟨d, rfl, _⟩
    · obtain ⟨o2, e3, e4⟩ := io i o1 e1
      exact ⟨⟨i, _, o', e2, rfl, e4.trans h3⟩, ⟨i, _, o1, e1, rfl, h3⟩⟩
    · cases h2
  have ch2 : ∀ x, Chg args σ0 x → Chg (mergeA args env') σ0 x := by
    rintro x ⟨i, s, o, h1, h2, h3⟩
    cases s with
    | un => cases h2
    | v d => cases h2
    | ow o => exact absurd (har _ (List.mem_of_getElem? h1)) (by simp [Sl.arg])
    | io o1 =>
      obtain ⟨s', q⟩ := rm i _ h1
      rcases mg i s' q with ⟨o2, o', rfl, _, _⟩ | ⟨d, rfl, e⟩
      · exact ⟨i, _, o', q, rfl, h3⟩
      · rw [h1] at e; cases e
  have sub : ∀ x, Ux U (mergeA args env') σ0 x → Ux U env' σ' x := fun x h => h.imp id fun c => (ch1 x c).1
  have grA : Gr (Chg args σ0) H H' := fun x o nn h => a.gr x o (fun c => nn ((chg_pad sa.len x).mp c)) h
  refine ⟨⟨⟨lenM.trans sa.len, a.sa.al, fun x c => sa.nu x (ch1 x c).2, fun i j s t o p x h1 h2 h3 h4 h5 h6 => ?_, fun i d h => ?_, fun i s o h1 h2 => ?_⟩, grA, fun x c => .inl (ch1 x c).2, fun i o h => ?_⟩, sub⟩
  · rcases mg i s h1 with ⟨o1, o', rfl, e1, e2⟩ | ⟨d, rfl, _⟩
    · rcases mg j t h3 with ⟨o3, o4, rfl, e3, e4⟩ | ⟨d, rfl, _⟩
      · exact sa.inj i j _ _ _ _ x e1 rfl e3 rfl h5 h6
      · cases h4
    · cases h2
  · rcases mg i _ h with ⟨o1, o', q, _, _⟩ | ⟨d', q, e⟩
    · cases q
    · cases q
      obtain ⟨v, e1, r⟩ := sa.val i d e
      exact ⟨v, e1, Rep.to (fun x o nn h => grA x o (fun c => nn (.inr c)) h) (fun x o nn _ q => nn (q.imp id fun c => (ch1 x c).2)) d v r⟩
  · rcases mg i s h1 with ⟨o1, o', rfl, e1, e2⟩ | ⟨d, rfl, _⟩
    · cases h2
      obtain ⟨x, e3, r⟩ := a.sa.ob i _ _ e2 rfl
      obtain ⟨o2, e4, e5⟩ := io i o1 e1
      exact ⟨x, e5.symm.trans e3, RepO.to (fun _ _ _ q => q) (fun y o nn _ q => nn (sub y q)) (fun _ q => q) r⟩
    · cases h2
  · obtain ⟨s', q⟩ := rm i _ h
    rcases mg i s' q with ⟨o1, o', rfl, _, _⟩ | ⟨d, rfl, e⟩
    · exact ⟨o', q, rfl⟩
    · rw [h] at e; cases e
end
/-- THE RULE of a def: its body's mirror -/
theorem okM {P : Program} {w : World} {K : PySem.W.Frag} {mg : Str → Option Value} {base : Heap} {x qual : Str} {st : Stmt} {f : Addr} {fd : FuncData} {N ps : List Str} {k : Nat} {mb : En → Rs Fl} (F : Fun K x qual st f fd) (S : FnScope N ps (defScope st))
    (hbody : ∀ (cdv : Value) (A : Around) (outer : List PySem.Env) (s : Shared) (H : Hp) (E : XK) (W : WX), Co (cxOf (L2.CX P w) P w K mg base N qual (defScope st) f cdv A outer s H E) k → Takes (cxOf (L2.CX P w) P w K mg base N qual (defScope st) f cdv A outer s H E) W →
      EvSs (cxOf (L2.CX P w) P w K mg base N qual (defScope st) f cdv A outer s H E) W (defBody st) mb) : FnG P w K mg base (k + 1) f fd ps (spM K ps.length (mDef ps.length N.length mb)) := by
  refine fnG_of F S (fun vs H Q E h => ?_) fun cdv A outer s H vs Q E co h => ⟨tS K (fun c d _ H' => E c d H') mb, hbody cdv A outer s H E _ co (takes_of rfl rfl rfl rfl), ?_⟩
  · obtain ⟨U, args, hl, _⟩ := h
    exact hl
  obtain ⟨U, args, hl, sa, har, po⟩ := h
  rw [pad_len]
  have hl2 : N.length - vs.length = N.length - ps.length := by rw [hl]
  rw [hl2]
  refine ⟨U, args ++ List.replicate (N.length - ps.length) .un, sa.pad, ?_⟩
  unfold mDef at po
  cases hm : mb (args ++ List.replicate (N.length - ps.length) .un) with
  | bad => rw [hm] at po; exact po
  | er y e =>
    rw [hm] at po
    intro cls dd σ' H' a ex
    obtain ⟨a', sub⟩ := a.leave sa har
    refine po cls dd H' a' ?_
    obtain ⟨h1, h2⟩ := ex
    refine ⟨h1, h2.imp id ?_⟩
    rintro ⟨q, xs, e1, e2, e3, r⟩
    exact ⟨q, xs, e1, e2, e3, Reps.to (fun _ _ _ q => q) (fun y o nn _ q => nn (sub y q)) _ _ r⟩
  | ok fl e =>
    rw [hm] at po
    intro σ' H' a
    obtain ⟨a', sub⟩ := a.leave sa har
    cases fl with
    | nx => exact po .non H' a' rfl
    | rt d => exact fun v r => po v H' a' (Rep.to (fun _ _ _ q => q) (fun y o nn _ q => nn (sub y q)) d v r)
    | bk => exact po.elim
    | ct => exact po.elim
end Mi

set_option Elab.async false
set_option linter.all false
set_option maxRecDepth 100000
set_option maxHeartbeats 4000000
/-! Mi5: a call's arguments; what a callee leaves in the caller's slots -/
namespace Mi
open PySem PySem.Spec L2
abbrev Ar := D ⊕ Nat
def argOf (env : En) : Ar → Option Sl
  | .inl d => some (.v d)
  | .inr i => (env[i]?).bind fun s => s.ob.map .io
def mkArgs (env : En) : List Ar → Option En
  | [] => some []
  | a :: r => (argOf env a).bind fun s => (mkArgs env r).map fun t => s :: t
def inrs : List Ar → List Nat
  | [] => []
  | .inl _ :: r => inrs r
  | .inr i :: r => i :: inrs r
def lookIo : List Ar → En → Nat → Option Ob
  | .inr k :: as, .io o :: r, i => if k = i then some o else lookIo as r i
  | _ :: as, _ :: r, i => lookIo as r i
  | _, _, _ => none
def Sl.put : Sl → Ob → Sl
  | .ow _, o => .ow o
  | .io _, o => .io o
  | s, _ => s
def putBack (env : En) (as : List Ar) (args' : En) : En := env.mapIdx fun i s => match lookIo as args' i with
  | some o => s.put o
  | none => s
def xCall (m : En → Rs D) (ma : En → Rs (List Ar)) : En → Rs D := fun env => (ma env).bind fun as env1 =>
  if (inrs as).Nodup then (match mkArgs env1 as with
    | none => .bad
    | some args => match m args with
      | .ok d args' => .ok d (putBack env1 as args')
      | .er x args' => .er x (putBack env1 as args')
      | .bad => .bad) else .bad
theorem mem_inrs : ∀ {as : List Ar} {j i : Nat}, as[j]? = some (.inr i) → i ∈ inrs as
  | [], _, _, h => by simp at h
  | .inl _ :: r, 0, i, h => by simp at h
  | .inr k :: r, 0, i, h => by simp at h; subst h; exact List.mem_cons_self
  | .inl _ :: r, j + 1, i, h => mem_inrs (as := r) (j := j) (by simpa using h)
  | .inr k :: r, j + 1, i, h => List.mem_cons_of_mem _ (mem_inrs (as := r) (j := j) (by simpa using h))
theorem inr_uniq : ∀ {as : List Ar} {j j' i : Nat}, (inrs as).Nodup → as[j]? = some (.inr i) → as[j']? = some (.inr i) → j = j'
  | [], _, _, _, _, h, _ => by simp at h
  | .inl _ :: r, 0, _, _, _, h, _ => by simp at h
  | .inl _ :: r, _ + 1, 0, _, _, _, h => by simp at h
  | .inl _ :: r, j + 1, j' + 1, i, n, h, h' => congrArg (· + 1) (inr_uniq (as := r) (j := j) (j' := j') (i := i) n (by simpa using h) (by simpa using h'))
  | .inr k :: r, 0, 0, _, _, _, _ => rfl
  | .inr k :: r, 0, j' + 1, i, n, h, h' => by
    simp at h; subst h
    exact absurd (mem_inrs (as := r) (j := j') (by simpa using h')) (List.nodup_cons.mp n).1
  | .inr k :: r, j + 1, 0, i, n, h, h' => by
    simp at h'; subst h'
    exact absurd (mem_inrs (as := r) (j := j) (by simpa using h)) (List.nodup_cons.mp n).1
  | .inr k :: r, j + 1, j' + 1, i, n, h, h' => congrArg (· + 1) (inr_uniq (as := r) (j := j) (j' := j') (i := i) (List.nodup_cons.mp n).2 (by simpa using h) (by simpa using h'))
theorem lookIo_spec : ∀ {as : List Ar} {args : En} {i : Nat} {o : Ob}, lookIo as args i = some o → ∃ j : Nat, as[j]? = some (Sum.inr i) ∧ args[j]? = some (Sl.io o)
  | [], _, _, _, h => by simp [lookIo] at h
  | .inl _ :: as, [], _, _, h => by simp [lookIo] at h
  | .inr _ :: as, [], _, _, h => by simp [lookIo] at h
  | .inl _ :: as, s :: r, i, o, h => by
    obtain ⟨j, q⟩ := lookIo_spec (as := as) (args := r) (i := i) (o := o) (by cases s <;> simpa [lookIo] using h)
    exact ⟨j + 1, q⟩
  | .inr k :: as, s :: r, i, o, h => by
    by_cases hk : (∃ o', s = .io o') ∧ k = i
    · obtain ⟨⟨o', rfl⟩, rfl⟩ := hk
      simp [lookIo] at h
      subst h
      exact ⟨0, rfl, rfl⟩
    · obtain ⟨j, q⟩ := lookIo_spec (as := as) (args := r) (i := i) (o := o) (by
        cases s with
        | io o' => simpa [lookIo, show ¬ k = i from fun e => hk ⟨⟨o', rfl⟩, e⟩] using h
        | _ => simpa [lookIo] using h)
      exact ⟨j + 1, q⟩
theorem lookIo_of : ∀ {as : List Ar} {args : En} {i j : Nat} {o : Ob}, (inrs as).Nodup → as[j]? = some (.inr i) → args[j]? = some (.io o) → lookIo as args i = some o
  | [], _, _, _, _, _, h, _ => by simp at h
  | a :: as, [], _, _, _, _, _, h => by simp at h
  | a :: as, s :: r, i, 0, o, n, h, h' => by
    simp at h h'; subst h; subst h'
    simp [lookIo]
  | .inl _ :: as, s :: r, i, j + 1, o, n, h, h' => by
    have q := lookIo_of (as := as) (args := r) (i := i) (j := j) (o := o) n (by simpa using h) (by simpa using h')
    cases s <;> simpa [lookIo] using q
  | .inr k :: as, s :: r, i, j + 1, o, n, h, h' => by
    have q := lookIo_of (as := as) (args := r) (i := i) (j := j) (o := o) (List.nodup_cons.mp n).2 (by simpa using h) (by simpa using h')
    have nk : ¬ k = i := fun e => (List.nodup_cons.mp n).1 (by rw [e]; exact mem_inrs (as := as) (j := j) (by simpa using h))
    cases s <;> simpa [lookIo, nk] using q
theorem mkArgs_of : ∀ {env : En} {as : List Ar} {args : En}, mkArgs env as = some args → ∀ (j : Nat) (s : Sl), args[j]? = some s → ∃ a, as[j]? = some a ∧ argOf env a = some s
  | env, [], args, h, j, s, q => by
    simp [mkArgs] at h
    subst h
    simp at q
  | env, a :: r, args, h, j, s, q => by
    simp only [mkArgs] at h
    cases ha : argOf env a with
    | none => rw [ha] at h; simp at h
    | some s' =>
      cases hr : mkArgs env r with
      | none => rw [ha, hr] at h; simp at h
      | some t =>
        rw [ha, hr] at h
        simp at h
        subst h
        cases j with
        | zero => simp at q; subst q; exact ⟨a, rfl, ha⟩
        | succ j =>
          obtain ⟨a', h1, h2⟩ := mkArgs_of hr j s (by simpa using q)
          exact ⟨a', by simpa using h1, h2⟩
theorem mkArgs_to : ∀ {env : En} {as : List Ar} {args : En}, mkArgs env as = some args → args.length = as.length ∧ ∀ (j : Nat) (a : Ar), as[j]? = some a → ∃ s, args[j]? = some s ∧ argOf env a = some s
  | env, [], args, h => by
    simp [mkArgs] at h
    subst h
    exact ⟨rfl, fun j a q => by simp at q⟩
  | env, a :: r, args, h => by
    simp only [mkArgs] at h
    cases ha : argOf env a with
    | none => rw [ha] at h; simp at h
    | some s' =>
      cases hr : mkArgs env r with
      | none => rw [ha, hr] at h; simp at h
      | some t =>
        rw [ha, hr] at h
        simp at h
        subst h
        obtain ⟨hl, hg⟩ := mkArgs_to hr
        refine ⟨by simp [hl], fun j a' q => ?_⟩
        cases j with
        | zero => simp at q; subst q; exact ⟨s', rfl, ha⟩
        | succ j =>
          obtain ⟨s, h1, h2⟩ := hg j a' (by simpa using q)
          exact ⟨s, by simpa using h1, h2⟩
section
variable {K : PySem.W.Frag} {U U' : Addr → Prop} {env : En} {σ : St} {H : Hp} {as : List Ar} {vs : List V}
theorem RAr.len : ∀ {as : List Ar} {vs : List V}, RAr K U σ H as vs → vs.length = as.length
  | [], _, h => by rw [show _ = _ from h]; rfl
  | .inl _ :: r, _, ⟨x, t, e, _, h⟩ => by rw [e, List.length_cons, List.length_cons, RAr.len h]
  | .inr _ :: r, _, ⟨x, t, e, _, h⟩ => by rw [e, List.length_cons, List.length_cons, RAr.len h]
theorem RAr.at : ∀ {as : List Ar} {vs : List V}, RAr K U σ H as vs → ∀ (j : Nat) (a : Ar), as[j]? = some a → ∃ v, vs[j]? = some v ∧ match a with
    | .inl d => Rep K U H d v
    | .inr i => σ[i]? = some (some v)
  | [], _, h, j, a, q => by simp at q
  | .inl d :: r, _, ⟨x, t, e, h1, h⟩, 0, a, q => by simp at q; subst q; exact ⟨x, by rw [e]; rfl, h1⟩
  | .inr d :: r, _, ⟨x, t, e, h1, h⟩, 0, a, q => by simp at q; subst q; exact ⟨x, by rw [e]; rfl, h1⟩
  | .inl d :: r, _, ⟨x, t, e, h1, h⟩, j + 1, a, q => by
    obtain ⟨v, e2, h2⟩ := RAr.at h j a (by simpa using q)
    exact ⟨v, by rw [e]; simpa using e2, h2⟩
  | .inr d :: r, _, ⟨x, t, e, h1, h⟩, j + 1, a, q => by
    obtain ⟨v, e2, h2⟩ := RAr.at h j a (by simpa using q)
    exact ⟨v, by rw [e]; simpa using e2, h2⟩
theorem RAr.to {H' : Hp} (hk : ∀ a o, ¬ U a → H a = some o → H' a = some o) (hu : ∀ a o, ¬ U a → H a = some o → ¬ U' a) : ∀ {as : List Ar} {vs : List V}, RAr K U σ H as vs → RAr K U' σ H' as vs
  | [], _, h => h
  | .inl d :: r, _, ⟨x, t, e, h1, h⟩ => ⟨x, t, e, Rep.to hk hu d x h1, RAr.to hk hu h⟩
  | .inr d :: r, _, ⟨x, t, e, h1, h⟩ => ⟨x, t, e, h1, RAr.to hk hu h⟩
theorem call_bridge {args : En} (sa : SA K U env σ H) (ra : RAr K (Ux U env σ) σ H as vs) (nd : (inrs as).Nodup) (mk : mkArgs env as = some args) :
    ∃ U', SA K U' args (vs.map some) H ∧ (∀ s ∈ args, s.arg = true) ∧ ∀ args' H', Ste K U' args (vs.map some) H args' (vs.map some) H' →
      Ste K U env σ H (putBack env as args') σ H' ∧ ∀ x, Ux U (putBack env as args') σ x → Ux U' args' (vs.map some) x := by
  obtain ⟨hl, hto⟩ := mkArgs_to mk
  have hof := mkArgs_of mk
  have vget : ∀ {j : Nat} {v : V}, (vs.map some)[j]? = some (some v) → vs[j]? = some v := fun {j v} h => by
    rw [List.getElem?_map] at h
    cases e : vs[j]? with
    | none => rw [e] at h; cases h
    | some w => rw [e] at h; cases h; rfl
  have vput : ∀ {j : Nat} {v : V}, vs[j]? = some v → (vs.map some)[j]? = some (some v) := fun {j v} h => by rw [List.getElem?_map, h]; rfl
  -- the arguments, one by one
  have ioOf : ∀ {j : Nat} {s : Sl} {o : Ob}, args[j]? = some s → s.ob = some o → ∃ i t, as[j]? = some (.inr i) ∧ env[i]? = some t ∧ t.ob = some o ∧ s = .io o := fun {j s o} h1 h2 => by
    obtain ⟨a, h3, h4⟩ := hof j s h1
    cases a with
    | inl d => simp [argOf] at h4; subst h4; cases h2
    | inr i =>
      simp only [argOf] at h4
      cases e : env[i]? with
      | none => rw [e] at h4; cases h4
      | some t =>
        rw [e] at h4
        cases e2 : t.ob with
        | none => simp [e2] at h4
        | some o' =>
          simp [e2] at h4
          subst h4
          cases h2
          exact ⟨i, t, h3, e, e2, rfl⟩
  have vOf : ∀ {j : Nat} {d : D}, args[j]? = some (.v d) → as[j]? = some (.inl d) := fun {j d} h1 => by
    obtain ⟨a, h3, h4⟩ := hof j _ h1
    cases a with
    | inl d' => simp [argOf] at h4; subst h4; exact h3
    | inr i =>
      simp only [argOf] at h4
      cases e : env[i]? with
      | none => rw [e] at h4; cases h4
      | some t =>
        rw [e] at h4
        cases e2 : t.ob with
        | none => simp [e2] at h4
        | some o' => simp [e2] at h4
  let Pa : Addr → Prop := fun a => ∃ (j i : Nat), as[j]? = some (.inr i) ∧ σ[i]? = some (some (V.ref a))
  have ownAt : ∀ {j i : Nat}, as[j]? = some (.inr i) → ∃ t o a, env[i]? = some t ∧ t.ob = some o ∧ args[j]? = some (.io o) ∧ σ[i]? = some (some (V.ref a)) ∧ vs[j]? = some (V.ref a) ∧ RepO K (Ux U env σ) H o a := fun {j i} h => by
    obtain ⟨s, h1, h2⟩ := hto j _ h
    simp only [argOf] at h2
    cases e : env[i]? with
    | none => rw [e] at h2; cases h2
    | some t =>
      rw [e] at h2
      cases e2 : t.ob with
      | none => simp [e2] at h2
      | some o =>
        simp [e2] at h2
        subst h2
        obtain ⟨a, h3, r⟩ := sa.ob i t o e e2
        obtain ⟨v, h4, h5⟩ := ra.at j _ h
        have h5 : σ[i]? = some (some v) := h5
        rw [h3] at h5
        cases h5
        exact ⟨t, o, a, rfl, e2, h1, h3, h4, r⟩
  have paChg : ∀ {a : Addr}, Pa a → Chg env σ a := fun {a} ⟨j, i, h1, h2⟩ => by
    obtain ⟨t, o, b, e1, e2, _, e3, _, _⟩ := ownAt h1
    exact ⟨i, t, o, e1, e2, h2⟩
  have chgPa : ∀ {a : Addr}, Chg args (vs.map some) a → Pa a := fun {a} ⟨j, s, o, h1, h2, h3⟩ => by
    obtain ⟨i, t, q1, q2, q3, _⟩ := ioOf h1 h2
    obtain ⟨t', o', b, e1, e2, _, e3, e4, _⟩ := ownAt q1
    have h4 := vget h3
    rw [e4] at h4
    cases h4
    exact ⟨j, i, q1, e3⟩
  have paArgs : ∀ {a : Addr}, Pa a → Chg args (vs.map some) a := fun {a} ⟨j, i, h1, h2⟩ => by
    obtain ⟨t, o, b, e1, e2, e5, e3, e4, _⟩ := ownAt h1
    rw [h2] at e3
    cases e3
    exact ⟨j, _, o, e5, rfl, vput e4⟩
  let U' : Addr → Prop := fun a => U a ∨ (Chg env σ a ∧ ¬ Pa a)
  have uxI : ∀ x, Ux U env σ x → Ux U' args (vs.map some) x := fun x h => by
    by_cases p : Pa x
    · exact .inr (paArgs p)
    · exact .inl (h.elim .inl fun c => .inr ⟨c, p⟩)
  have uxO : ∀ x, Ux U' args (vs.map some) x → Ux U env σ x := fun x h => h.elim (fun h => h.elim .inl fun c => .inr c.1) fun c => .inr (paChg (chgPa c))
  have sa' : SA K U' args (vs.map some) H := by
    refine ⟨by rw [List.length_map, hl, ra.len], fun a h => h.elim (sa.al a) fun c => sa.alx (.inr c.1), fun a c h => ?_, fun i j s t o p a h1 h2 h3 h4 h5 h6 => ?_, fun i d h => ?_, fun i s o h1 h2 => ?_⟩
    · have p := chgPa c
      exact h.elim (sa.nu a (paChg p)) fun q => q.2 p
    · obtain ⟨i1, t1, q1, q2, q3, _⟩ := ioOf h1 h2
      obtain ⟨i2, t2, q4, q5, q6, _⟩ := ioOf h3 h4
      obtain ⟨_, _, b, _, _, _, e3, e4, _⟩ := ownAt q1
      obtain ⟨_, _, b', _, _, _, e5, e6, _⟩ := ownAt q4
      have z1 := vget h5
      have z2 := vget h6
      rw [e4] at z1
      rw [e6] at z2
      cases z1
      cases z2
      have e := sa.inj i1 i2 t1 t2 o p a q2 q3 q5 q6 e3 e5
      subst e
      exact inr_uniq nd q1 q4
    · obtain ⟨v, e1, r⟩ := ra.at i _ (vOf h)
      exact ⟨v, vput e1, Rep.to (fun _ _ _ q => q) (fun x o n _ q => n (uxO x q)) d v r⟩
    · obtain ⟨k, t, q1, q2, q3, q4⟩ := ioOf h1 h2
      obtain ⟨t', o', b, e1, e2, e5, e3, e4, r⟩ := ownAt q1
      rw [q2] at e1
      cases e1
      rw [q3] at e2
      cases e2
      exact ⟨b, vput e4, RepO.to (fun _ _ _ q => q) (fun x o n _ q => n (uxO x q)) (fun _ q => q) r⟩
  refine ⟨U', sa', fun s hs => ?_, fun args' H' a => ?_⟩
  · obtain ⟨j, hj⟩ := List.mem_iff_getElem?.mp hs
    obtain ⟨x, h1, h2⟩ := hof j s hj
    cases x with
    | inl d => simp [argOf] at h2; subst h2; rfl
    | inr i =>
      obtain ⟨_, o, _, _, _, e, _⟩ := ownAt h1
      rw [hj] at e
      cases e
      rfl
  have pget : ∀ (i : Nat), (putBack env as args')[i]? = (env[i]?).map fun s => match lookIo as args' i with
      | some o => s.put o
      | none => s := fun i => by unfold putBack; rw [List.getElem?_mapIdx]
  have putOb : ∀ {s : Sl} {o o' : Ob}, s.ob = some o → (s.put o').ob = some o' := fun {s o o'} h => by cases s <;> first | rfl | cases h
  have putNone : ∀ {s : Sl} {o' : Ob}, s.ob = none → s.put o' = s := fun {s o'} h => by cases s <;> first | rfl | cases h
  have passIo : ∀ {j i : Nat}, as[j]? = some (.inr i) → ∃ o', args'[j]? = some (.io o') ∧ lookIo as args' i = some o' := fun {j i} h => by
    obtain ⟨_, o, b, _, _, e, _⟩ := ownAt h
    obtain ⟨o', h1, _⟩ := a.io j o e
    exact ⟨o', h1, lookIo_of nd h h1⟩
  have chgB : ∀ x, Chg (putBack env as args') σ x ↔ Chg env σ x := fun x => by
    constructor
    · rintro ⟨i, s, o, h1, h2, h3⟩
      rw [pget] at h1
      cases e : env[i]? with
      | none => rw [e] at h1; cases h1
      | some t =>
        rw [e] at h1
        cases e2 : t.ob with
        | none =>
          have : s = t := by
            cases e3 : lookIo as args' i with
            | none => simp [e3] at h1; exact h1.symm
            | some o' => simp [e3, putNone e2] at h1; exact h1.symm
          rw [this, e2] at h2
          cases h2
        | some o' => exact ⟨i, t, o', e, e2, h3⟩
    · rintro ⟨i, s, o, h1, h2, h3⟩
      cases e3 : lookIo as args' i with
      | none => exact ⟨i, s, o, by rw [pget, h1, e3]; rfl, h2, h3⟩
      | some o' => exact ⟨i, s.put o', o', by rw [pget, h1, e3]; rfl, putOb h2, h3⟩
  have sub : ∀ x, Ux U (putBack env as args') σ x → Ux U' args' (vs.map some) x := fun x h => by
    by_cases p : Pa x
    · obtain ⟨j, i, h1, h2⟩ := p
      obtain ⟨_, o, b, _, _, _, e3, e4, _⟩ := ownAt h1
      obtain ⟨o', h3, _⟩ := passIo h1
      rw [h2] at e3
      cases e3
      exact .inr ⟨j, _, o', h3, rfl, vput e4⟩
    · exact .inl (h.elim .inl fun c => .inr ⟨(chgB x).mp c, p⟩)
  have kept : ∀ x o, ¬ Pa x → H x = some o → H' x = some o := fun x o n h => a.gr x o (fun c => n (chgPa c)) h
  refine ⟨⟨⟨?_, fun x h => a.sa.al x (.inl h), fun x c => sa.nu x ((chgB x).mp c), fun i j s t o p x h1 h2 h3 h4 h5 h6 => ?_, fun i d h => ?_, fun i s o h1 h2 => ?_⟩, fun x o n h => kept x o (fun p => n (paChg p)) h, fun x c => .inl ((chgB x).mp c), fun i o h => ?_⟩, sub⟩
  · unfold putBack
    rw [List.length_mapIdx]
    exact sa.len
  · obtain ⟨i1, s1, o1, q1, q2, q3⟩ := (chgB x).mp ⟨i, s, o, h1, h2, h5⟩
    have g : ∀ {i : Nat} {s : Sl} {o : Ob}, (putBack env as args')[i]? = some s → s.ob = some o → ∃ t o', env[i]? = some t ∧ t.ob = some o' := fun {i s o} h1 h2 => by
      rw [pget] at h1
      cases e : env[i]? with
      | none => rw [e] at h1; cases h1
      | some t =>
        rw [e] at h1
        cases e2 : t.ob with
        | none =>
          have : s = t := by
            cases e3 : lookIo as args' i with
            | none => simp [e3] at h1; exact h1.symm
            | some o' => simp [e3, putNone e2] at h1; exact h1.symm
          rw [this, e2] at h2
          cases h2
        | some o' => exact ⟨t, o', rfl, e2⟩
    obtain ⟨t1, p1, e1, e2⟩ := g h1 h2
    obtain ⟨t2, p2, e3, e4⟩ := g h3 h4
    exact sa.inj i j t1 t2 p1 p2 x e1 e2 e3 e4 h5 h6
  · rw [pget] at h
    cases e : env[i]? with
    | none => rw [e] at h; cases h
    | some t =>
      rw [e] at h
      have et : t = .v d := by
        cases e3 : lookIo as args' i with
        | none => simp [e3] at h; exact h
        | some o' =>
          simp [e3] at h
          cases t <;> simp [Sl.put] at h
          exact congrArg _ h
      subst et
      obtain ⟨v, e1, r⟩ := sa.val i d e
      exact ⟨v, e1, Rep.to (fun x o n h => kept x o (fun p => n (.inr (paChg p))) h) (fun x o n _ q => n (q.imp id fun c => (chgB x).mp c)) d v r⟩
  · rw [pget] at h1
    cases e : env[i]? with
    | none => rw [e] at h1; cases h1
    | some t =>
      rw [e] at h1
      cases e3 : lookIo as args' i with
      | none =>
        simp [e3] at h1
        subst h1
        obtain ⟨x, e1, r⟩ := sa.ob i t o e h2
        refine ⟨x, e1, RepO.to (fun x o n h => kept x o (fun p => n (.inr (paChg p))) h) (fun x o n _ q => n (q.imp id fun c => (chgB x).mp c)) (fun u h => kept x u (fun p => ?_) h) r⟩
        obtain ⟨j, k, p1, p2⟩ := p
        obtain ⟨t', o', b, z1, z2, _, z3, _, _⟩ := ownAt p1
        rw [p2] at z3
        cases z3
        have ek := sa.inj i k t t' o o' x e h2 z1 z2 e1 p2
        subst ek
        obtain ⟨o2, _, y⟩ := passIo p1
        rw [e3] at y
        cases y
      | some o' =>
        simp [e3] at h1
        obtain ⟨j, p1, p2⟩ := lookIo_spec e3
        obtain ⟨t', o1, b, z1, z2, _, z3, z4, _⟩ := ownAt p1
        rw [e] at z1
        cases z1
        subst h1
        rw [putOb z2] at h2
        cases h2
        obtain ⟨x, e1, r⟩ := a.sa.ob j _ _ p2 rfl
        have e2 := vget e1
        rw [z4] at e2
        cases e2
        exact ⟨_, z3, RepO.to (fun _ _ _ q => q) (fun x o n _ q => n (sub x q)) (fun _ q => q) r⟩
  · cases e3 : lookIo as args' i with
    | none => exact ⟨o, by rw [pget, h, e3]; rfl, rfl⟩
    | some o' => exact ⟨o', by rw [pget, h, e3]; rfl, rfl⟩
end
/-- the bridge, for a promise of a mirror -/
theorem spM_call {K : PySem.W.Frag} {W : WX} {U : Addr → Prop} {env : En} {σ : St} {H : Hp} {m : En → Rs D} {ma : En → Rs (List Ar)} {n : Nat} {Q : VK} (sa : SA K U env σ H) (po : Po (RD K) K W U env σ H (xCall m ma env) Q)
    (hn : ∀ as e, ma env = .ok as e → as.length = n) : tM (RAr K) K W ma σ H fun vs H1 => spM K n m vs H1 Q fun cls d H' => W cls d σ H' := by
  refine ⟨U, env, sa, ?_⟩
  cases hm : ma env with
  | bad => unfold xCall at po; rw [hm] at po; exact po
  | er x e => unfold xCall at po; rw [hm] at po; exact po
  | ok as e =>
    intro vs H1 a ra
    have ra : RAr K (Ux U e σ) σ H1 as vs := ra
    have po := Po.shift (R2 := RD K) a po
    unfold xCall at po
    rw [hm] at po
    simp only [Rs.bind_ok] at po
    by_cases nd : (inrs as).Nodup
    · rw [if_pos nd] at po
      cases mk : mkArgs e as with
      | none => rw [mk] at po; exact po.elim
      | some args =>
        rw [mk] at po
        obtain ⟨U', sa', har, back⟩ := call_bridge a.sa ra nd mk
        refine ⟨U', args, by rw [ra.len, hn as e hm], sa', har, ?_⟩
        cases hr : m args with
        | bad => simp only [hr] at po; exact po
        | ok d args' =>
          simp only [hr] at po
          intro v H' b r
          obtain ⟨b', sub⟩ := back args' H' b
          exact po v H' b' (Rep.to (fun _ _ _ q => q) (fun x o n _ q => n (sub x q)) d v r)
        | er x args' =>
          simp only [hr] at po
          intro cls dd H' b ex
          obtain ⟨b', sub⟩ := back args' H' b
          refine po cls dd H' b' ?_
          obtain ⟨h1, h2⟩ := ex
          refine ⟨h1, h2.imp id ?_⟩
          rintro ⟨q, xs, e1, e2, e3, r⟩
          exact ⟨q, xs, e1, e2, e3, Reps.to (fun _ _ _ q => q) (fun y o n _ q => n (sub y q)) _ _ r⟩
    · rw [if_neg nd] at po
      exact po.elim
end Mi

set_option Elab.async false
set_option linter.all false
set_option maxRecDepth 100000
set_option maxHeartbeats 4000000
/-! Mi6: expressions' mirrors -/
namespace Mi
open PySem PySem.Spec L2
/-! ### names, constants, arguments -/
def Ob.val : Ob → D
  | .lst ds => .lst ds
  | .dct t ks ds => .dct t ks ds
  | .ins c ns ds => .obj c ns ds
def xVar (i : Nat) : En → Rs D := fun env => match env[i]? with
  | some (.v d) => .ok d env
  | some (.ow o) => .ok o.val (env.set i (.v o.val))
  | _ => .bad
def xC (d : D) : En → Rs D := fun env => .ok d env
def flatD : D → Option V
  | .non => some .non
  | .bl b => some (.bl b)
  | .int i => some (.int i)
  | .str x => some (.str x)
  | _ => none
theorem flat_rep {K : PySem.W.Frag} {U : Addr → Prop} {H : Hp} {d : D} {v : V} (h : flatD d = some v) : Rep K U H d v := by
  cases d <;> simp [flatD] at h <;> subst h <;> rfl
section
variable {K : PySem.W.Frag} {W : WX} {U : Addr → Prop} {env : En} {σ : St} {H : Hp}
/-- a name gives up the object that it alone held: it is a value from now on -/
theorem Ste.free {i : Nat} {o : Ob} {a : Addr} (sa : SA K U env σ H) (h : env[i]? = some (.ow o)) (ha : σ[i]? = some (some (V.ref a))) : Ste K U env σ H (env.set i (.v o.val)) σ H ∧ Rep K (Ux U (env.set i (.v o.val)) σ) H o.val (.ref a) := by
  have hi : i < env.length := (List.getElem?_eq_some_iff.mp h).1
  have old : ∀ {j : Nat} {s : Sl} {p : Ob}, (env.set i (.v o.val))[j]? = some s → s.ob = some p → env[j]? = some s ∧ j ≠ i := fun {j s p} h1 h2 => by
    by_cases e : i = j
    · subst e
      rw [List.getElem?_set_self hi] at h1
      cases h1
      cases h2
    · rw [List.getElem?_set_ne e] at h1
      exact ⟨h1, fun z => e z.symm⟩
  have ch : ∀ x, Chg (env.set i (.v o.val)) σ x → Chg env σ x := fun x ⟨j, s, p, h1, h2, h3⟩ => ⟨j, s, p, (old h1 h2).1, h2, h3⟩
  have nc : ¬ Chg (env.set i (.v o.val)) σ a := fun ⟨j, s, p, h1, h2, h3⟩ => by
    obtain ⟨h4, n⟩ := old h1 h2
    exact n (sa.inj j i s _ p o a h4 h2 h rfl h3 ha)
  have sub : ∀ x, Ux U (env.set i (.v o.val)) σ x → Ux U env σ x := fun x q => q.imp id (ch x)
  have ra : Rep K (Ux U (env.set i (.v o.val)) σ) H o.val (.ref a) := by
    obtain ⟨b, h1, r⟩ := sa.ob i _ o h rfl
    rw [ha] at h1
    cases h1
    have nu : ¬ Ux U (env.set i (.v o.val)) σ a := fun q => q.elim (sa.nu a ⟨i, _, o, h, rfl, ha⟩) nc
    have r' := RepO.to (K := K) (fun _ _ _ q => q) (fun x o n _ q => n (sub x q)) (fun _ q => q) r
    cases o with
    | lst ds => obtain ⟨xs, e, r⟩ := r'; exact ⟨a, xs, rfl, ⟨e, nu⟩, r⟩
    | dct t ks ds => obtain ⟨xs, e, r⟩ := r'; exact ⟨a, xs, rfl, nu, e, r⟩
    | ins c ns ds => obtain ⟨dx, xs, e, l, r⟩ := r'; exact ⟨a, dx, xs, rfl, nu, e, l, r⟩
  refine ⟨⟨⟨by rw [List.length_set]; exact sa.len, sa.al, fun x c => sa.nu x (ch x c), fun j k s t p q x h1 h2 h3 h4 h5 h6 => sa.inj j k s t p q x (old h1 h2).1 h2 (old h3 h4).1 h4 h5 h6, fun j d h1 => ?_, fun j s p h1 h2 => ?_⟩, .refl, fun x c => .inl (ch x c), fun j p h1 => ?_⟩, ra⟩
  · by_cases e : i = j
    · subst e
      rw [List.getElem?_set_self hi] at h1
      cases h1
      exact ⟨_, ha, ra⟩
    · rw [List.getElem?_set_ne e] at h1
      obtain ⟨v, e1, r⟩ := sa.val j d h1
      exact ⟨v, e1, Rep.to (fun _ _ _ q => q) (fun x o n _ q => n (sub x q)) d v r⟩
  · obtain ⟨b, e1, r⟩ := sa.ob j s p (old h1 h2).1 h2
    exact ⟨b, e1, RepO.to (fun _ _ _ q => q) (fun x o n _ q => n (sub x q)) (fun _ q => q) r⟩
  · refine ⟨p, ?_, rfl⟩
    by_cases e : i = j
    · subst e
      rw [h] at h1
      cases h1
    · rw [List.getElem?_set_ne e]
      exact h1
end
section
variable {X : Cx} {W : WX} {e : Expr} {es : List Expr} {m : En → Rs D} {pos : Pos}
theorem ev_var {i : Nat} (h : PE X e (tVar i)) : Ev X W e (xVar i) := by
  refine PE_imp h fun σ H Q ⟨U, env, sa, po⟩ => ?_
  unfold xVar at po
  cases hi : env[i]? with
  | none => rw [hi] at po; exact po.elim
  | some s =>
    rw [hi] at po
    cases s with
    | un => exact po.elim
    | io o => exact po.elim
    | v d =>
      obtain ⟨v, e1, r⟩ := sa.val i d hi
      exact ⟨v, e1, po v H (.refl sa) r⟩
    | ow o =>
      obtain ⟨a, e1, _⟩ := sa.ob i _ o hi rfl
      obtain ⟨a1, r⟩ := Ste.free sa hi e1
      exact ⟨_, e1, po _ H a1 r⟩
theorem ev_c {d : D} {v : V} (h : PE X e (tC v)) (hd : flatD d = some v) : Ev X W e (xC d) :=
  PE_imp h fun σ H Q ⟨U, env, sa, po⟩ => po v H (.refl sa) (flat_rep hd)
theorem ev_cr {d : D} {v : V} (h : PE X e (tC v)) (hd : ∀ U H, Rep X.K U H d v) : Ev X W e (xC d) :=
  PE_imp h fun σ H Q ⟨U, env, sa, po⟩ => po v H (.refl sa) (hd _ _)
end
/-- a list of arguments, n of them -/
structure EvN (X : Cx) (W : WX) (es : List Expr) (n : Nat) (m : En → Rs (List D)) : Prop where
  pa : EvA X W es m
  len : ∀ env ds e, m env = .ok ds e → ds.length = n
structure EvQ (X : Cx) (W : WX) (es : List Expr) (n : Nat) (m : En → Rs (List Ar)) : Prop where
  pa : EvR X W es m
  len : ∀ env ds e, m env = .ok ds e → ds.length = n
def xNil : En → Rs (List D) := fun env => .ok [] env
def xCons (m : En → Rs D) (ma : En → Rs (List D)) : En → Rs (List D) := fun env => (m env).bind fun d e1 => (ma e1).bind fun ds e2 => .ok (d :: ds) e2
def qNil : En → Rs (List Ar) := fun env => .ok [] env
def qVal (m : En → Rs D) (ma : En → Rs (List Ar)) : En → Rs (List Ar) := fun env => (m env).bind fun d e1 => (ma e1).bind fun ds e2 => .ok (.inl d :: ds) e2
/-- the object of slot i, handed on -/
def qIo (i : Nat) (ma : En → Rs (List Ar)) : En → Rs (List Ar) := fun env => match (env[i]?).bind Sl.ob with
  | some _ => (ma env).bind fun ds e2 => .ok (.inr i :: ds) e2
  | none => .bad
section
variable {X : Cx} {W : WX} {e : Expr} {es : List Expr} {m : En → Rs D} {ma : En → Rs (List D)} {mq : En → Rs (List Ar)} {n : Nat}
theorem Rs.bind_eq_ok {α β : Type} {r : Rs α} {f : α → En → Rs β} {b : β} {e : En} (h : r.bind f = .ok b e) : ∃ a e1, r = .ok a e1 ∧ f a e1 = .ok b e := by
  cases r with
  | ok a e1 => exact ⟨a, e1, rfl, h⟩
  | er x e1 => cases h
  | bad => cases h
theorem en_nil : EvN X W [] 0 xNil := ⟨PA_imp pa_nil fun σ H Q ⟨U, env, sa, po⟩ => po [] H (.refl sa) rfl, fun env ds e h => by cases h; rfl⟩
theorem en_cons (h1 : Ev X W e m) (h2 : EvN X W es n ma) (hs : starEach (e :: es) X.env = (false, eval e X.env) :: starEach es X.env := by rfl) : EvN X W (e :: es) (n + 1) (xCons m ma) := by
  refine ⟨PA_imp (pa_cons h1 h2.pa hs) fun σ H Q ⟨U, env, sa, po⟩ => ⟨U, env, sa, Po.step po fun v H1 d e1 a r po1 => ⟨U, e1, a.sa, Po.step po1 fun vs H2 ds e2 a2 r2 po2 => ?_⟩⟩, fun env ds e h => ?_⟩
  · exact po2 _ _ (.refl a2.sa) ⟨v, vs, rfl, a2.rep a.sa r, r2⟩
  · obtain ⟨d, e1, _, h⟩ := Rs.bind_eq_ok h
    obtain ⟨ds', e2, h3, h⟩ := Rs.bind_eq_ok h
    cases h
    rw [List.length_cons, h2.len _ _ _ h3]
theorem eq_nil : EvQ X W [] 0 qNil := ⟨PA_imp pa_nil fun σ H Q ⟨U, env, sa, po⟩ => po [] H (.refl sa) rfl, fun env ds e h => by cases h; rfl⟩
theorem Ste.rar {K : PySem.W.Frag} {U : Addr → Prop} {env env1 : En} {σ : St} {H H1 : Hp} {as : List Ar} {vs : List V} (a : Ste K U env σ H env1 σ H1) (r : RAr K (Ux U env σ) σ H as vs) : RAr K (Ux U env1 σ) σ H1 as vs :=
  RAr.to (fun x o n h => a.gr x o (fun c => n (.inr c)) h) (fun x o n h q => q.elim (fun z => n (.inl z)) fun c => (a.fr x c).elim (fun z => n (.inr z)) fun z => by rw [h] at z; cases z) r
theorem eq_val (h1 : Ev X W e m) (h2 : EvQ X W es n mq) (hs : starEach (e :: es) X.env = (false, eval e X.env) :: starEach es X.env := by rfl) : EvQ X W (e :: es) (n + 1) (qVal m mq) := by
  refine ⟨PA_imp (pa_cons h1 h2.pa hs) fun σ H Q ⟨U, env, sa, po⟩ => ⟨U, env, sa, Po.step po fun v H1 d e1 a r po1 => ⟨U, e1, a.sa, Po.step po1 fun vs H2 ds e2 a2 r2 po2 => ?_⟩⟩, fun env ds e h => ?_⟩
  · exact po2 _ _ (.refl a2.sa) ⟨v, vs, rfl, a2.rep a.sa r, r2⟩
  · obtain ⟨d, e1, _, h⟩ := Rs.bind_eq_ok h
    obtain ⟨ds', e2, h3, h⟩ := Rs.bind_eq_ok h
    cases h
    rw [List.length_cons, h2.len _ _ _ h3]
theorem eq_io {i : Nat} (h1 : PE X e (tVar i)) (h2 : EvQ X W es n mq) (hs : starEach (e :: es) X.env = (false, eval e X.env) :: starEach es X.env := by rfl) : EvQ X W (e :: es) (n + 1) (qIo i mq) := by
  refine ⟨PA_imp (pa_cons h1 h2.pa hs) fun σ H Q ⟨U, env, sa, po⟩ => ?_, fun env ds e h => ?_⟩
  · unfold qIo at po
    cases hb : (env[i]?).bind Sl.ob with
    | none => rw [hb] at po; exact po.elim
    | some o =>
      rw [hb] at po
      obtain ⟨s, h3, h4⟩ := Option.bind_eq_some_iff.mp hb
      obtain ⟨a, e1, _⟩ := sa.ob i s o h3 h4
      refine ⟨_, e1, U, env, sa, Po.step po fun vs H2 ds e2 a2 r2 po2 => ?_⟩
      exact po2 _ _ (.refl a2.sa) ⟨_, vs, rfl, e1, r2⟩
  · unfold qIo at h
    cases hb : (env[i]?).bind Sl.ob with
    | none => rw [hb] at h; cases h
    | some o =>
      rw [hb] at h
      obtain ⟨ds', e2, h3, h⟩ := Rs.bind_eq_ok h
      cases h
      rw [List.length_cons, h2.len _ _ _ h3]
end
/-! ### calls of defs -/
section
variable {X : Cx} {W : WX} {k n : Nat} {f : Addr} {fd : FuncData} {ps : List Str} {x : Str} {p pos : Pos} {e : Expr} {es : List Expr} {m : En → Rs D} {mq : En → Rs (List Ar)}
theorem ev_call (F : FnG X.prog X.w X.K X.mg X.base k f fd ps (spM X.K (n + 1) m)) (c : Co X k) (tk : Takes X W) (hm : X.mg x = some (.ref f)) (hk : PySem.W.keepIn X.K (.ref f) = true) (hb : Binds X.K fd ps [])
    (ha : EvQ X W (e :: es) (n + 1) mq) (hg : Gl X x := by rfl) (hdb : (x == ("__debug__" : Str)) = false := by decide) (he : starEach (e :: es) X.env = (false, eval e X.env) :: starEach es X.env := by rfl)
    (hpl : (backTo pos (starEach es X.env)).any (·.1) = false := by rfl) : Ev X W (.Call (.Name x p) (e :: es) [] pos) (xCall m mq) := by
  refine PE_imp (pe_cg F c tk hm hk hb .nil ha.pa hg hdb he hpl) fun σ H Q ⟨U, env, sa, po⟩ => ?_
  have q := spM_call sa po (n := n + 1) fun as e1 h => ha.len _ _ _ h
  show tM _ _ _ _ _ _ _
  simp only [List.append_nil]
  exact q
theorem ev_call0 (F : FnG X.prog X.w X.K X.mg X.base k f fd ps (spM X.K 0 m)) (c : Co X k) (tk : Takes X W) (hm : X.mg x = some (.ref f)) (hk : PySem.W.keepIn X.K (.ref f) = true) (hb : Binds X.K fd ps [])
    (hg : Gl X x := by rfl) (hdb : (x == ("__debug__" : Str)) = false := by decide) : Ev X W (.Call (.Name x p) [] [] pos) (xCall m qNil) := by
  refine PE_imp (pe_cg0 F c tk hm hk hb .nil hg hdb) fun σ H Q ⟨U, env, sa, po⟩ => ?_
  obtain ⟨U', e', sa', q⟩ := spM_call sa po (n := 0) fun as e1 h => by cases h; rfl
  have q := q [] H (.refl sa') rfl
  simpa [tCG, tNil] using q
end
/-! ### values' operations -/
def Al (U : Addr → Prop) (H : Hp) : Prop := ∀ a, U a → ∃ o, H a = some o
theorem Al.new {U : Addr → Prop} {H : Hp} {p : Addr} (al : Al U H) (hp : H p = none) : ¬ U p := fun q => by
  obtain ⟨o, e⟩ := al p q
  rw [hp] at e
  cases e
theorem same_new {H : Hp} {p : Addr} {o : HO} (hp : H p = none) : Same H (upd H p o) := fun b u e => by rw [upd_ne (ne_of_none e hp)]; exact e
theorem Reps.same {K : PySem.W.Frag} {U : Addr → Prop} {H H' : Hp} (s : Same H H') {ds : List D} {xs : List V} (r : Reps K U H ds xs) : Reps K U H' ds xs := Reps.to (fun a o _ h => s a o h) (fun _ _ n _ => n) ds xs r
theorem Rep.same {K : PySem.W.Frag} {U : Addr → Prop} {H H' : Hp} (s : Same H H') {d : D} {x : V} (r : Rep K U H d x) : Rep K U H' d x := Rep.to (fun a o _ h => s a o h) (fun _ _ n _ => n) d x r
section
variable {K : PySem.W.Frag} {U : Addr → Prop} {H : Hp} {ds : List D} {xs : List V} {p : Addr}
theorem rep_tup_new (al : Al U H) (hp : H p = none) (r : Reps K U H ds xs) : Rep K U (upd H p (.tup xs)) (.tup ds) (.ref p) := ⟨p, xs, rfl, ⟨upd_same, al.new hp⟩, r.same (same_new hp)⟩
theorem rep_lst_new (al : Al U H) (hp : H p = none) (r : Reps K U H ds xs) : Rep K U (upd H p (.lst xs)) (.lst ds) (.ref p) := ⟨p, xs, rfl, ⟨upd_same, al.new hp⟩, r.same (same_new hp)⟩
theorem Reps.len : ∀ {ds : List D} {xs : List V}, Reps K U H ds xs → xs.length = ds.length
  | [], _, h => by rw [show _ = _ from h]; rfl
  | _ :: _, _, ⟨x, r, e, _, h⟩ => by rw [e, List.length_cons, List.length_cons, Reps.len h]
theorem Reps.get : ∀ {ds : List D} {xs : List V}, Reps K U H ds xs → ∀ {i : Nat} {d : D}, ds[i]? = some d → ∃ x, xs[i]? = some x ∧ Rep K U H d x
  | [], _, _, i, d, h => by simp at h
  | _ :: _, _, ⟨x, r, e, h1, h2⟩, 0, d, h => by simp at h; subst h; exact ⟨x, by rw [e]; rfl, h1⟩
  | _ :: _, _, ⟨x, r, e, h1, h2⟩, i + 1, d, h => by
    obtain ⟨y, e2, q⟩ := Reps.get h2 (i := i) (d := d) (by simpa using h)
    exact ⟨y, by rw [e]; simpa using e2, q⟩
theorem Reps.append : ∀ {ds es : List D} {xs ys : List V}, Reps K U H ds xs → Reps K U H es ys → Reps K U H (ds ++ es) (xs ++ ys)
  | [], _, _, _, h, q => by rw [show _ = _ from h]; exact q
  | _ :: _, _, _, _, ⟨x, r, e, h1, h2⟩, q => ⟨x, r ++ _, by rw [e]; rfl, h1, Reps.append h2 q⟩
theorem Reps.take : ∀ {ds : List D} {xs : List V} (n : Nat), Reps K U H ds xs → Reps K U H (ds.take n) (xs.take n)
  | _, _, 0, _ => by rw [List.take_zero, List.take_zero]; rfl
  | [], _, n + 1, h => by rw [show _ = _ from h]; rfl
  | _ :: _, _, n + 1, ⟨x, r, e, h1, h2⟩ => ⟨x, r.take n, by rw [e]; rfl, h1, Reps.take n h2⟩
theorem Reps.drop : ∀ {ds : List D} {xs : List V} (n : Nat), Reps K U H ds xs → Reps K U H (ds.drop n) (xs.drop n)
  | _, _, 0, h => h
  | [], _, n + 1, h => by rw [show _ = _ from h]; rfl
  | _ :: _, _, n + 1, ⟨x, r, e, h1, h2⟩ => by rw [e]; exact Reps.drop n h2
theorem Rep.tup_sq {v : V} (r : Rep K U H (.tup ds) v) : ∃ a xs, v = .ref a ∧ H a = some (.tup xs) ∧ ¬ U a ∧ Reps K U H ds xs := by
  obtain ⟨a, xs, e, ⟨h, n⟩, q⟩ := r
  exact ⟨a, xs, e, h, n, q⟩
theorem Rep.lst_sq {v : V} (r : Rep K U H (.lst ds) v) : ∃ a xs, v = .ref a ∧ H a = some (.lst xs) ∧ ¬ U a ∧ Reps K U H ds xs := by
  obtain ⟨a, xs, e, ⟨h, n⟩, q⟩ := r
  exact ⟨a, xs, e, h, n, q⟩
end
def Snd1 (K : PySem.W.Frag) (g : D → Option D) (r : V → Hp → VK → Prop) : Prop := ∀ (U : Addr → Prop) (H : Hp) (x : V) (d z : D) (Q : VK), Al U H → Rep K U H d x → g d = some z → (∀ v H', Same H H' → Rep K U H' z v → Q v H') → r x H Q
def Snd2 (K : PySem.W.Frag) (g : D → D → Option D) (r : R2) : Prop := ∀ (U : Addr → Prop) (H : Hp) (x y : V) (d e z : D) (Q : VK), Al U H → Rep K U H d x → Rep K U H e y → g d e = some z → (∀ v H', Same H H' → Rep K U H' z v → Q v H') → r x y H Q
def SndN (K : PySem.W.Frag) (g : List D → Option D) (r : List V → Hp → VK → Prop) : Prop := ∀ (U : Addr → Prop) (H : Hp) (xs : List V) (ds : List D) (z : D) (Q : VK), Al U H → Reps K U H ds xs → g ds = some z → (∀ v H', Same H H' → Rep K U H' z v → Q v H') → r xs H Q
def x1 (g : D → Option D) (m : En → Rs D) : En → Rs D := fun env => (m env).bind fun d e => .of (g d) e
def x2 (g : D → D → Option D) (m n : En → Rs D) : En → Rs D := fun env => (m env).bind fun d e1 => (n e1).bind fun d2 e2 => .of (g d d2) e2
def xN (g : List D → Option D) (ma : En → Rs (List D)) : En → Rs D := fun env => (ma env).bind fun ds e => .of (g ds) e
section
variable {X : Cx} {W : WX} {K : PySem.W.Frag} {U : Addr → Prop} {env : En} {σ : St} {H : Hp}
theorem Po.of_some {z : Option D} {Q : VK} (sa : SA K U env σ H) (h : Po (RD K) K W U env σ H (.of z env) Q) : ∃ d, z = some d ∧ ∀ v H', Same H H' → Rep K (Ux U env σ) H' d v → Q v H' := by
  cases z with
  | none => exact h.elim
  | some d => exact ⟨d, rfl, fun v H' s r => Po.of_ok (R2 := RD K) h sa s r⟩
theorem SA.alU (sa : SA K U env σ H) : Al (Ux U env σ) H := fun _ h => sa.alx h
variable {a b e : Expr} {es : List Expr} {m n : En → Rs D} {ma : En → Rs (List D)} {k : Nat} {pos : Pos}
theorem ev_op {op : Operator} {g : D → D → Option D} {r : R2} (ho : OpR X (binaryOp op) r) (hs : Snd2 X.K g r) (ha : Ev X W a m) (hb : Ev X W b n) : Ev X W (.BinOp a op b pos) (x2 g m n) :=
  PE_imp (pe_op ho ha hb) fun σ H Q ⟨U, env, sa, po⟩ => ⟨U, env, sa, Po.step po fun v H1 d e1 a r po1 => ⟨U, e1, a.sa, Po.step po1 fun v2 H2 d2 e2 a2 r2 po2 => by
    obtain ⟨z, hz, q⟩ := Po.of_some a2.sa po2
    exact hs _ _ _ _ _ _ _ _ a2.sa.alU (a2.rep a.sa r) r2 hz q⟩⟩
theorem ev_un {op : UnaryOp} {g : D → Option D} {r : V → Hp → VK → Prop} (ho : UnR X (unaryOp op) r) (hs : Snd1 X.K g r) (ha : Ev X W a m) : Ev X W (.UnaryOp op a pos) (x1 g m) :=
  PE_imp (pe_un ho ha) fun σ H Q ⟨U, env, sa, po⟩ => ⟨U, env, sa, Po.step po fun v H1 d e1 a r po1 => by
    obtain ⟨z, hz, q⟩ := Po.of_some a.sa po1
    exact hs _ _ _ _ _ _ a.sa.alU r hz q⟩
theorem ev_cmp {op : CmpOp} {g : D → D → Option D} {r : R2} (ho : OpR X (compareOp op) r) (hs : Snd2 X.K g r) (ha : Ev X W a m) (hb : Ev X W b n) (hm : behindInMarks op b = false) : Ev X W (.Compare a [op] [b] pos) (x2 g m n) :=
  PE_imp (pe_cmpR ho ha hb hm) fun σ H Q ⟨U, env, sa, po⟩ => ⟨U, env, sa, Po.step po fun v H1 d e1 a r po1 => ⟨U, e1, a.sa, Po.step po1 fun v2 H2 d2 e2 a2 r2 po2 => by
    obtain ⟨z, hz, q⟩ := Po.of_some a2.sa po2
    exact hs _ _ _ _ _ _ _ _ a2.sa.alU (a2.rep a.sa r) r2 hz q⟩⟩
/-- a truth -/
def isBl : D → Option Bool
  | .bl b => some b
  | _ => none
def tB1 (m : En → Rs D) : En → Rs Bool := fun env => (m env).bind fun d e => .of (isBl d) e
theorem isBl_rep {d : D} {b : Bool} {x : V} (h : isBl d = some b) (r : Rep K U H d x) : x = .bl b := by
  cases d <;> simp [isBl] at h
  subst h
  exact r
theorem Po.isBl {d : D} {Q : Bool → Hp → Prop} {x : V} (sa : SA K U env σ H) (r : Rep K (Ux U env σ) H d x) (h : Po RB K W U env σ H (.of (isBl d) env) Q) : ∃ b, x = .bl b ∧ Q b H := by
  cases e : Mi.isBl d with
  | none => rw [e] at h; exact h.elim
  | some b => rw [e] at h; exact ⟨b, isBl_rep e r, h b H (.refl sa) rfl⟩
theorem et_cmp {op : CmpOp} {g : D → D → Option D} {r : R2} (ho : OpR X (compareOp op) r) (hs : Snd2 X.K g r) (ha : Ev X W a m) (hb : Ev X W b n) (hm : behindInMarks op b = false) : EvT X W (.Compare a [op] [b] pos) (tB1 (x2 g m n)) := by
  refine PT_imp (pt_cmpR ho ha hb hm) fun σ H Q ⟨U, env, sa, po⟩ => ⟨U, env, sa, ?_⟩
  unfold tB1 x2 at po
  rw [Rs.bind_assoc] at po
  refine Po.step po fun v H1 d e1 a r po1 => ⟨U, e1, a.sa, ?_⟩
  rw [Rs.bind_assoc] at po1
  refine Po.step po1 fun v2 H2 d2 e2 a2 r2 po2 => ?_
  cases hz : g d d2 with
  | none => rw [hz] at po2; exact po2.elim
  | some z =>
    rw [hz] at po2
    refine hs _ _ _ _ _ _ _ _ a2.sa.alU (a2.rep a.sa r) r2 hz fun x H' s q => ?_
    have a3 := (Ste.refl a2.sa).same s
    obtain ⟨b, e, h⟩ := Po.isBl a3.sa q (Po.shift (R2 := RB) a3 po2)
    exact ⟨b, e, h⟩
theorem ev_n {t : TA → TE} {g : List D → Option D} {r : List V → Hp → VK → Prop} (hs : SndN X.K g r) (ha : EvN X W es k ma) (h : PE X e (tCB r (tA X.K W ma))) : Ev X W e (xN g ma) :=
  PE_imp h fun σ H Q ⟨U, env, sa, po⟩ => ⟨U, env, sa, Po.step po fun v H1 d e1 a r po1 => by
    obtain ⟨z, hz, q⟩ := Po.of_some a.sa po1
    exact hs _ _ _ _ _ _ a.sa.alU r hz q⟩
end
end Mi

set_option Elab.async false
set_option linter.all false
set_option maxRecDepth 100000
set_option maxHeartbeats 4000000
/-! Mi7: the operations on trees, each with its rule -/
namespace Mi
open PySem PySem.Spec L2
section
variable {K : PySem.W.Frag} {U : Addr → Prop} {H : Hp}
/-! ### arithmetic -/
def gAdd : D → D → Option D
  | .int i, .int j => some (.int (i + j))
  | .str x, .str y => if x.length + y.length ≤ sizeLine then some (.str (x ++ y)) else none
  | .lst a, .lst b => if a.length + b.length ≤ sizeLine then some (.lst (a ++ b)) else none
  | .tup a, .tup b => if a.length + b.length ≤ sizeLine then some (.tup (a ++ b)) else none
  | _, _ => none
def rAddM (K : PySem.W.Frag) : R2 := fun x y H Q => ((∃ i j, x = .int i ∧ y = .int j ∧ Q (.int (i + j)) H) ∨ (∃ i j, x = .str i ∧ y = .str j ∧ i.length + j.length ≤ sizeLine ∧ Q (.str (i ++ j)) H)) ∨ (rCat x y H Q ∨ rCatA K x y H Q)
theorem op_addM {X : Cx} : OpR X (binaryOp .Add) (rAddM X.K) := OpR.or (OpR.or op_add op_add_str) (OpR.or op_cat op_catA)
theorem s_add : Snd2 K gAdd (rAddM K) := by
  intro U H x y d e z Q al rx ry hz q
  cases d <;> cases e <;> simp [gAdd] at hz
  · subst hz; exact .inl (.inl ⟨_, _, rx, ry, q _ H (Same.refl H) rfl⟩)
  · obtain ⟨h, rfl⟩ := hz; exact .inl (.inr ⟨_, _, rx, ry, h, q _ H (Same.refl H) rfl⟩)
  · obtain ⟨h, rfl⟩ := hz
    obtain ⟨a, xs, rfl, h1, n1, r1⟩ := rx.tup_sq
    obtain ⟨b, ys, rfl, h2, n2, r2⟩ := ry.tup_sq
    refine .inr (.inr ⟨a, b, xs, ys, rfl, rfl, .of h1, .of h2, by rw [r1.len, r2.len]; exact h, fun e => ?_, fun _ e => ?_, fun _ _ p hp => ?_⟩)
    · subst e
      have : (_ : List D).length = 0 := r1.len.symm
      obtain rfl := List.length_eq_zero_iff.mp this
      exact q _ H (Same.refl H) ry
    · subst e
      have : (_ : List D).length = 0 := r2.len.symm
      obtain rfl := List.length_eq_zero_iff.mp this
      rw [List.append_nil] at q
      exact q _ H (Same.refl H) rx
    · exact q _ _ (same_new hp) (rep_tup_new al hp (r1.append r2))
  · obtain ⟨h, rfl⟩ := hz
    obtain ⟨a, xs, rfl, h1, n1, r1⟩ := rx.lst_sq
    obtain ⟨b, ys, rfl, h2, n2, r2⟩ := ry.lst_sq
    exact .inr (.inl ⟨a, b, xs, ys, rfl, rfl, h1, h2, by rw [r1.len, r2.len]; exact h, fun p hp => q _ _ (same_new hp) (rep_lst_new al hp (r1.append r2))⟩)
def gSub : D → D → Option D
  | .int i, .int j => some (.int (i - j))
  | _, _ => none
theorem s_sub : Snd2 K gSub (rI0 fun i j => .int (i - j)) := by
  intro U H x y d e z Q al rx ry hz q
  cases d <;> cases e <;> simp [gSub] at hz
  subst hz; exact ⟨_, _, rx, ry, q _ H (Same.refl H) rfl⟩
theorem Reps.rep {ds : List D} {xs : List V} (r : Reps K U H ds xs) : ∀ n : Nat, Reps K U H (List.replicate n ds).flatten (List.replicate n xs).flatten
  | 0 => rfl
  | n + 1 => by
    rw [List.replicate_succ, List.replicate_succ, List.flatten_cons, List.flatten_cons]
    exact r.append (Reps.rep r n)
def gMul : D → D → Option D
  | .int i, .int j => if i.natAbs.log2 + j.natAbs.log2 < 1000000 then some (.int (i * j)) else none
  | .lst a, .int k => if k.natAbs ≤ 1000000 ∧ a.length * k.toNat ≤ sizeLine then some (.lst (List.replicate k.toNat a).flatten) else none
  | .tup a, .int k => if a ≠ [] ∧ 2 ≤ k ∧ k ≤ 1000 ∧ a.length ≤ 1000 then some (.tup (List.replicate k.toNat a).flatten) else none
  | _, _ => none
def rMulM (K : PySem.W.Frag) : R2 := fun x y H Q => rI CMulW (fun i j => .int (i * j)) x y H Q ∨ (rRep x y H Q ∨ rRepT K x y H Q)
theorem op_mulM {X : Cx} : OpR X (binaryOp .Mult) (rMulM X.K) := OpR.or op_mulW (OpR.or op_rep op_repT)
theorem s_mul : Snd2 K gMul (rMulM K) := by
  intro U H x y d e z Q al rx ry hz q
  cases d <;> cases e <;> simp only [gMul, Option.ite_none_right_eq_some, reduceCtorEq] at hz
  · obtain ⟨h, e⟩ := hz; cases e; exact .inl ⟨_, _, rx, ry, h, q _ H (Same.refl H) rfl⟩
  · obtain ⟨⟨h1, h2, h3, h4⟩, e⟩ := hz
    cases e
    obtain ⟨a, xs, rfl, h5, n1, r1⟩ := rx.tup_sq
    refine .inr (.inr ⟨a, _, xs, rfl, ry, .of h5, fun e => h1 ?_, h2, h3, by rw [r1.len]; exact h4, fun p hp => q _ _ (same_new hp) (rep_tup_new al hp (r1.rep _))⟩)
    subst e
    exact List.length_eq_zero_iff.mp r1.len.symm
  · obtain ⟨⟨h1, h3⟩, e⟩ := hz
    cases e
    obtain ⟨a, xs, rfl, h5, n1, r1⟩ := rx.lst_sq
    exact .inr (.inl ⟨a, _, xs, rfl, ry, h5, by omega, by omega, by rw [r1.len]; exact h3, fun p hp => q _ _ (same_new hp) (rep_lst_new al hp (r1.rep _))⟩)
def gFdiv : D → D → Option D
  | .int i, .int j => if 0 < j ∧ j.natAbs.log2 < 9000 then some (.int (i / j)) else none
  | _, _ => none
theorem s_fdiv : Snd2 K gFdiv (rI CDivW fun i j => .int (i / j)) := by
  intro U H x y d e z Q al rx ry hz q
  cases d <;> cases e <;> simp only [gFdiv, Option.ite_none_right_eq_some, reduceCtorEq] at hz
  obtain ⟨h, e⟩ := hz
  cases e
  exact ⟨_, _, rx, ry, h, q _ H (Same.refl H) rfl⟩
def gMod : D → D → Option D
  | .int i, .int j => if 0 < j then some (.int (i % j)) else none
  | _, _ => none
theorem s_mod : Snd2 K gMod (rI (fun _ j => 0 < j) fun i j => .int (i % j)) := by
  intro U H x y d e z Q al rx ry hz q
  cases d <;> cases e <;> simp only [gMod, Option.ite_none_right_eq_some, reduceCtorEq] at hz
  obtain ⟨h, e⟩ := hz
  cases e
  exact ⟨_, _, rx, ry, h, q _ H (Same.refl H) rfl⟩
def gPow : D → D → Option D
  | .int i, .int j => if 0 ≤ j ∧ j ≤ 1000000 ∧ i.natAbs < 2 ^ 64 then some (.int (i ^ j.toNat)) else none
  | _, _ => none
theorem s_pow : Snd2 K gPow (rI CPow fun i j => .int (i ^ j.toNat)) := by
  intro U H x y d e z Q al rx ry hz q
  cases d <;> cases e <;> simp only [gPow, Option.ite_none_right_eq_some, reduceCtorEq] at hz
  obtain ⟨h, e⟩ := hz
  cases e
  exact ⟨_, _, rx, ry, h, q _ H (Same.refl H) rfl⟩
def gNeg : D → Option D
  | .int i => some (.int (-i))
  | _ => none
theorem s_neg : Snd1 K gNeg (rU fun i => .int (-i)) := by
  intro U H x d z Q al rx hz q
  cases d <;> simp [gNeg] at hz
  subst hz
  exact ⟨_, rx, q _ H (Same.refl H) rfl⟩
/-! ### comparisons -/
/-- the data alone -/
def D.py : D → Option PyData
  | .non => some .none
  | .bl b => some (.bool b)
  | .int i => some (.int i)
  | .str x => some (.str x)
  | .tup xs => (pys xs).map .tuple
  | .lst xs => (pys xs).map .list
  | _ => none
where pys : List D → Option (List PyData)
  | [] => some []
  | d :: ds => d.py.bind fun p => (pys ds).map fun r => p :: r
mutual
theorem Rep.dp : ∀ (d : D) (p : PyData) (v : V), Rep K U H d v → d.py = some p → Dp K H v p
  | .non, p, v, r, h => by simp [D.py] at h; subst h; rw [show v = _ from r]; exact .non
  | .bl b, p, v, r, h => by simp [D.py] at h; subst h; rw [show v = _ from r]; exact .bl b
  | .int i, p, v, r, h => by simp [D.py] at h; subst h; rw [show v = _ from r]; exact .int i
  | .str x, p, v, r, h => by simp [D.py] at h; subst h; rw [show v = _ from r]; exact .str x
  | .tup xs, p, v, r, h => by
    simp only [D.py, Option.map_eq_some_iff] at h
    obtain ⟨ps, h, rfl⟩ := h
    obtain ⟨a, vs, rfl, h1, _, r⟩ := r.tup_sq
    exact .tup (.of h1) (Reps.dp xs ps vs r h)
  | .lst xs, p, v, r, h => by
    simp only [D.py, Option.map_eq_some_iff] at h
    obtain ⟨ps, h, rfl⟩ := h
    obtain ⟨a, vs, rfl, h1, _, r⟩ := r.lst_sq
    exact .lst (.of h1) (Reps.dp xs ps vs r h)
  | .dct t ks vs, p, v, r, h => by simp [D.py] at h
  | .obj c ns vs, p, v, r, h => by simp [D.py] at h
  | .fz vs, p, v, r, h => by simp [D.py] at h
theorem Reps.dp : ∀ (ds : List D) (ps : List PyData) (vs : List V), Reps K U H ds vs → D.py.pys ds = some ps → DpAll K H vs ps
  | [], ps, vs, r, h => by simp [D.py.pys] at h; subst h; rw [show vs = _ from r]; exact .nil
  | d :: ds, ps, vs, r, h => by
    obtain ⟨x, t, rfl, r1, r2⟩ := r
    simp only [D.py.pys, Option.bind_eq_some_iff, Option.map_eq_some_iff] at h
    obtain ⟨p, h1, qs, h2, rfl⟩ := h
    exact .cons (Rep.dp d p x r1 h1) (Reps.dp ds qs t r2 h2)
end
def eqD (d e : D) : Option Bool := match d, e with
  | .str x, .str y => some (decide (x = y))
  | d, e => match d.py, e.py with
    | some p, some q => if SeqAt.shaped p = true ∧ SeqAt.shaped q = true then some (PyData.eqv p q) else none
    | _, _ => none
def gEq (d e : D) : Option D := (eqD d e).map .bl
def gNe (d e : D) : Option D := (eqD d e).map fun b => .bl (!b)
def rEqM (K : PySem.W.Frag) : R2 := fun x y H Q => rEqD K x y H Q ∨ rEq x y H Q
def rNeM (K : PySem.W.Frag) : R2 := fun x y H Q => rNeD K x y H Q ∨ rNe x y H Q
theorem op_eqM {X : Cx} (hu : X.A.units + 64 < cLine) : OpR X (compareOp .Eq) (rEqM X.K) := OpR.or (op_eqD hu) op_eq
theorem op_neM {X : Cx} (hu : X.A.units + 64 < cLine) : OpR X (compareOp .NotEq) (rNeM X.K) := OpR.or (op_neD hu) op_ne
theorem eqD_or {d e : D} {b : Bool} (h : eqD d e = some b) : (∃ x y, d = .str x ∧ e = .str y ∧ b = decide (x = y)) ∨ ∃ p q, d.py = some p ∧ e.py = some q ∧ SeqAt.shaped p = true ∧ SeqAt.shaped q = true ∧ b = PyData.eqv p q := by
  unfold eqD at h
  split at h
  · exact .inl ⟨_, _, rfl, rfl, (Option.some.inj h).symm⟩
  · cases h1 : d.py with
    | none => rw [h1] at h; cases h
    | some p =>
      cases h2 : e.py with
      | none => rw [h1, h2] at h; cases h
      | some p2 =>
        rw [h1, h2] at h
        simp only [Option.ite_none_right_eq_some] at h
        exact .inr ⟨p, p2, rfl, rfl, h.1.1, h.1.2, (Option.some.inj h.2).symm⟩
theorem dec_str (x y : Str) : decide (V.str x = V.str y) = decide (x = y) := by
  by_cases e : x = y
  · subst e; simp
  · simp [e]
theorem s_eq : Snd2 K gEq (rEqM K) := by
  intro U H x y d e z Q al rx ry hz q
  obtain ⟨b, hb, rfl⟩ := Option.map_eq_some_iff.mp hz
  rcases eqD_or hb with ⟨a, c, rfl, rfl, rfl⟩ | ⟨p, p2, h1, h2, s1, s2, rfl⟩
  · refine .inr ⟨by rw [show x = _ from rx, show y = _ from ry]; rfl, ?_⟩
    rw [show x = _ from rx, show y = _ from ry, dec_str]
    exact q _ H (Same.refl H) rfl
  · exact .inl ⟨p, p2, Rep.dp _ _ _ rx h1, Rep.dp _ _ _ ry h2, s1, s2, q _ H (Same.refl H) rfl⟩
theorem s_ne : Snd2 K gNe (rNeM K) := by
  intro U H x y d e z Q al rx ry hz q
  obtain ⟨b, hb, rfl⟩ := Option.map_eq_some_iff.mp hz
  rcases eqD_or hb with ⟨a, c, rfl, rfl, rfl⟩ | ⟨p, p2, h1, h2, s1, s2, rfl⟩
  · refine .inr ⟨by rw [show x = _ from rx, show y = _ from ry]; rfl, ?_⟩
    rw [show x = _ from rx, show y = _ from ry, dec_str]
    exact q _ H (Same.refl H) rfl
  · exact .inl ⟨p, p2, Rep.dp _ _ _ rx h1, Rep.dp _ _ _ ry h2, s1, s2, q _ H (Same.refl H) rfl⟩
def sLt (x y : Str) : Bool := decide (x.cps.toList < y.cps.toList)
def gOrd (f : Int → Int → Bool) (g : Str → Str → Bool) : D → D → Option D
  | .int i, .int j => some (.bl (f i j))
  | .str x, .str y => some (.bl (g x y))
  | _, _ => none
abbrev gLt : D → D → Option D := gOrd (fun i j => decide (i < j)) fun x y => sLt x y
abbrev gLe : D → D → Option D := gOrd (fun i j => decide (i ≤ j)) fun x y => !sLt y x
abbrev gGt : D → D → Option D := gOrd (fun i j => decide (j < i)) fun x y => sLt y x
abbrev gGe : D → D → Option D := gOrd (fun i j => decide (j ≤ i)) fun x y => !sLt x y
def rOrd (f : Int → Int → Bool) (g : Str → Str → Bool) : R2 := fun x y H Q => (∃ i j, x = .int i ∧ y = .int j ∧ Q (.bl (f i j)) H) ∨ (∃ i j, x = .str i ∧ y = .str j ∧ Q (.bl (g i j)) H)
theorem s_ord {f : Int → Int → Bool} {g : Str → Str → Bool} : Snd2 K (gOrd f g) (rOrd f g) := by
  intro U H x y d e z Q al rx ry hz q
  cases d <;> cases e <;> simp [gOrd] at hz
  · subst hz; exact .inl ⟨_, _, rx, ry, q _ H (Same.refl H) rfl⟩
  · subst hz; exact .inr ⟨_, _, rx, ry, q _ H (Same.refl H) rfl⟩
theorem op_ltM {X : Cx} : OpR X (compareOp .Lt) (rOrd (fun i j => decide (i < j)) fun x y => sLt x y) := OpR.or op_lt op_lt_str
theorem op_leM {X : Cx} : OpR X (compareOp .LtE) (rOrd (fun i j => decide (i ≤ j)) fun x y => !sLt y x) := OpR.or op_le op_le_str
theorem op_gtM {X : Cx} : OpR X (compareOp .Gt) (rOrd (fun i j => decide (j < i)) fun x y => sLt y x) := OpR.or op_gt op_gt_str
theorem op_geM {X : Cx} : OpR X (compareOp .GtE) (rOrd (fun i j => decide (j ≤ i)) fun x y => !sLt x y) := OpR.or op_ge op_ge_str
def isNon : D → Bool
  | .non => true
  | _ => false
def gIsN : D → D → Option D
  | d, .non => some (.bl (isNon d))
  | _, _ => none
theorem Rep.non_iff {d : D} {x : V} (r : Rep K U H d x) : decide (x = .non) = isNon d := by
  have fin : ∀ v : V, x = v → decide (v = V.non) = isNon d → decide (x = .non) = isNon d := fun v e h => by rw [e]; exact h
  cases d with
  | non => exact fin _ r rfl
  | bl b => exact fin _ r rfl
  | int b => exact fin _ r rfl
  | str b => exact fin _ r rfl
  | tup b => obtain ⟨a, xs, rfl, _⟩ := r; rfl
  | lst b => obtain ⟨a, xs, rfl, _⟩ := r; rfl
  | dct t k b => obtain ⟨a, xs, rfl, _⟩ := r; rfl
  | obj t k b => obtain ⟨a, dx, xs, rfl, _⟩ := r; rfl
  | fz b => obtain ⟨a, xs, rfl, _⟩ := r; rfl
theorem s_isN : Snd2 K gIsN (fun x y H Q => y = .non ∧ Q (.bl (decide (x = .non))) H) := by
  intro U H x y d e z Q al rx ry hz q
  cases e <;> simp [gIsN] at hz
  subst hz
  refine ⟨ry, ?_⟩
  rw [rx.non_iff]
  exact q _ H (Same.refl H) rfl
def gNotN : D → D → Option D
  | d, .non => some (.bl (!isNon d))
  | _, _ => none
theorem s_notN : Snd2 K gNotN (fun x y H Q => y = .non ∧ Q (.bl (!decide (x = .non))) H) := by
  intro U H x y d e z Q al rx ry hz q
  cases e <;> simp [gNotN] at hz
  subst hz
  refine ⟨ry, ?_⟩
  rw [rx.non_iff]
  exact q _ H (Same.refl H) rfl
/-- in: a flat thing in a list or tuple of such, a text in a text, a key in a dict -/
def isFlat : D → Bool
  | .non => true
  | .bl _ => true
  | .int _ => true
  | .str _ => true
  | _ => false
def eqF : D → D → Bool
  | .non, .non => true
  | .bl a, .bl b => a == b
  | .bl a, .int b => (if a then 1 else 0) == b
  | .int a, .bl b => a == (if b then 1 else 0)
  | .int a, .int b => a == b
  | .str a, .str b => a == b
  | _, _ => false
theorem flat_v {d : D} {x : V} (h : isFlat d = true) (r : Rep K U H d x) : flatV x = true := by
  cases d <;> simp [isFlat] at h <;> rw [show x = _ from r] <;> rfl
theorem eqF_v {d e : D} {x y : V} (h1 : isFlat d = true) (h2 : isFlat e = true) (r1 : Rep K U H d x) (r2 : Rep K U H e y) : eqV x y = eqF d e := by
  cases d <;> simp [isFlat] at h1 <;> rw [show x = _ from r1] <;> cases e <;> simp [isFlat] at h2 <;> rw [show y = _ from r2] <;> rfl
theorem flats_v : ∀ {ds : List D} {xs : List V}, ds.all isFlat = true → Reps K U H ds xs → xs.all flatV = true
  | [], _, _, r => by rw [show _ = _ from r]; rfl
  | d :: ds, _, h, ⟨x, t, e, r1, r2⟩ => by
    rw [List.all_cons, Bool.and_eq_true] at h
    rw [e, List.all_cons, flat_v h.1 r1, flats_v h.2 r2]; rfl
def inF (d : D) (ds : List D) : Bool := ds.any fun e => eqF e d
theorem inF_v {d : D} {x : V} (h1 : isFlat d = true) (r1 : Rep K U H d x) : ∀ {ds : List D} {xs : List V}, ds.all isFlat = true → Reps K U H ds xs → inV x xs = inF d ds
  | [], _, _, r => by rw [show _ = _ from r]; rfl
  | e :: ds, _, h, ⟨y, t, q, r2, r3⟩ => by
    rw [List.all_cons, Bool.and_eq_true] at h
    have ih := inF_v h1 r1 h.2 r3
    rw [q]
    show (eqV y x || inV x t) = (eqF e d || inF d ds)
    rw [ih, eqF_v h.1 h1 r2 r1]
/-- a key of a dict -/
def keyOf : D → Option Key
  | .int i => some (.inl i)
  | .str x => some (.inr x)
  | _ => none
def keysOf : List D → Option (List Key)
  | [] => some []
  | d :: ds => match keyOf d, keysOf ds with
    | some k, some r => some (k :: r)
    | _, _ => none
def kyOf : Key → Ky
  | .inl i => .int i
  | .inr x => .str x
def findK (k : Ky) : List Ky → List D → Option D
  | l :: ks, v :: vs => if l = k then some v else findK k ks vs
  | _, _ => none
/-- what d[k] gives; none outside: no such key -/
def getK : D → D → Option (Option D)
  | .dct false ks vs, k => (keyOf k).map fun k => findK (kyOf k) ks vs
  | .dct true ks vs, .tup xs => (keysOf xs).map fun k => findK (.tup k) ks vs
  | _, _ => none
theorem keyOf_v {d : D} {k : Key} {x : V} (h : keyOf d = some k) (r : Rep K U H d x) : x = kV k := by
  cases d <;> simp [keyOf] at h <;> subst h <;> exact r
theorem keysOf_v : ∀ {ds : List D} {k : List Key} {xs : List V}, keysOf ds = some k → Reps K U H ds xs → xs = k.map kV
  | [], k, xs, h, r => by simp [keysOf] at h; subst h; exact r
  | d :: ds, k, xs, h, ⟨x, t, e, r1, r2⟩ => by
    simp only [keysOf] at h
    cases h1 : keyOf d with
    | none => simp [h1] at h
    | some a =>
      cases h2 : keysOf ds with
      | none => simp [h1, h2] at h
      | some b =>
        simp [h1, h2] at h
        subst h
        rw [e, keyOf_v h1 r1, keysOf_v h2 r2]
        rfl
def RepOp (K : PySem.W.Frag) (U : Addr → Prop) (H : Hp) : Option D → Option V → Prop
  | some z, some v => Rep K U H z v
  | none, none => True
  | _, _ => False
theorem findK_valV {κ : Type} [DecidableEq κ] (f : Ky → Option κ) (g : κ → Ky) (fg : ∀ k, f (g k) = some k) (gf : ∀ l k, f l = some k → l = g k) (k : κ) : ∀ (ks : List Ky) (vs : List D) (kvs : List (κ × V)), ks.map f = kvs.map (fun p => some p.1) →
    Reps K U H vs (kvs.map (·.2)) → RepOp K U H (findK (g k) ks vs) (valV kvs k)
  | [], vs, kvs, h, r => by
    cases kvs with
    | nil => cases vs <;> trivial
    | cons p kvs => simp at h
  | l :: ks, vs, [], h, r => by simp at h
  | l :: ks, [], p :: kvs, h, r => by
    have r := Reps.len r
    simp at r
  | l :: ks, v :: vs, p :: kvs, h, ⟨x, t, e, r1, r2⟩ => by
    simp only [List.map_cons, List.cons.injEq] at h e
    obtain ⟨h1, h2⟩ := h
    obtain ⟨rfl, rfl⟩ := e
    have hl : l = g p.1 := gf _ _ h1
    by_cases hk : p.1 = k
    · have e1 : findK (g k) (l :: ks) (v :: vs) = some v := by unfold findK; rw [if_pos (by rw [hl, hk])]
      have e2 : valV (p :: kvs) k = some p.2 := by unfold valV; rw [List.find?_cons_of_pos (by simpa using hk)]; rfl
      rw [e1, e2]
      exact r1
    · have e1 : findK (g k) (l :: ks) (v :: vs) = findK (g k) ks vs := by
        rw [findK, if_neg]
        rintro q
        apply hk
        have := fg p.1
        rw [← hl, q, fg] at this
        exact (Option.some.inj this).symm
      have e2 : valV (p :: kvs) k = valV kvs k := by unfold valV; rw [List.find?_cons_of_neg (by simpa using hk)]
      rw [e1, e2]
      exact findK_valV f g fg gf k ks vs kvs h2 r2
theorem getK_get {d k : D} {r : Option D} {x y : V} (rx : Rep K U H d x) (ry : Rep K U H k y) (h : getK d k = some r) : ∃ a r', x = .ref a ∧ DGet H a y r' ∧ RepOp K U H r r' := by
  cases d with
  | dct t ks vs =>
    obtain ⟨a, xs, rfl, _, dc, q⟩ := rx
    cases t with
    | false =>
      obtain ⟨kvs, h1, h2, h3⟩ := dc
      simp only [getK, Option.map_eq_some_iff] at h
      obtain ⟨c, h4, rfl⟩ := h
      obtain rfl := keyOf_v h4 ry
      subst h3
      refine ⟨a, _, rfl, DGet.k h1, findK_valV kyK kyOf (fun k => by cases k <;> rfl) (fun l k e => ?_) c ks vs kvs h2 q⟩
      cases l <;> simp [kyK] at e <;> subst e <;> rfl
    | true =>
      obtain ⟨kvs, h1, h2, h3⟩ := dc
      cases k <;> simp only [getK, reduceCtorEq] at h
      simp only [Option.map_eq_some_iff] at h
      obtain ⟨c, h4, rfl⟩ := h
      obtain ⟨b, ys, rfl, h5, _, r5⟩ := ry.tup_sq
      obtain rfl := keysOf_v h4 r5
      subst h3
      refine ⟨a, _, rfl, DGet.t h1 h5, findK_valV kyT Ky.tup (fun k => rfl) (fun l k e => ?_) c ks vs kvs h2 q⟩
      cases l <;> simp [kyT] at e
      subst e
      rfl
  | _ => simp [getK] at h
end
end Mi

set_option Elab.async false
set_option linter.all false
set_option maxRecDepth 100000
set_option maxHeartbeats 4000000
/-! Mi8: truth, and, or, conditions, displays, subscripts, slices, in -/
namespace Mi
open PySem PySem.Spec L2
/-! ### truth -/
def D.truth : D → Option Bool
  | .non => some false
  | .bl b => some b
  | .int i => some (i != 0)
  | .str x => if x.length ≤ sizeLine then some ((x.length : Int) != 0) else none
  | .tup xs => some (!xs.isEmpty)
  | .lst xs => some (!xs.isEmpty)
  | .dct false ks _ => some (!ks.isEmpty)
  | _ => none
section
variable {K : PySem.W.Frag} {U : Addr → Prop} {H : Hp}
theorem Reps.empty {ds : List D} {xs : List V} (r : Reps K U H ds xs) : xs.isEmpty = ds.isEmpty := by
  cases ds with
  | nil => have e : xs = [] := r; subst e; rfl
  | cons d ds => obtain ⟨x, t, rfl, _⟩ := r; rfl
theorem truth_v {d : D} {x : V} {b : Bool} (r : Rep K U H d x) (h : d.truth = some b) : TruV K x H b := by
  cases d with
  | non => simp [D.truth] at h; rw [show x = _ from r]; exact h
  | bl c => simp [D.truth] at h; rw [show x = _ from r]; exact h.symm
  | int i => simp [D.truth] at h; rw [show x = _ from r]; exact h.symm
  | str y =>
    simp only [D.truth, Option.ite_none_right_eq_some] at h
    rw [show x = _ from r]
    exact ⟨h.1, (Option.some.inj h.2).symm⟩
  | tup ds =>
    obtain ⟨a, xs, rfl, h1, _, r⟩ := r.tup_sq
    exact .inr (.inl ⟨xs, .of h1, by rw [r.empty]; exact (Option.some.inj h).symm⟩)
  | lst ds =>
    obtain ⟨a, xs, rfl, h1, _, r⟩ := r.lst_sq
    exact .inl ⟨xs, .of h1, by rw [r.empty]; exact (Option.some.inj h).symm⟩
  | dct t ks vs =>
    cases t with
    | true => simp [D.truth] at h
    | false =>
      obtain ⟨a, xs, rfl, _, ⟨kvs, h1, h2, h3⟩, r⟩ := r
      refine .inr (.inr ⟨kvs, h1, ?_⟩)
      have h : (!ks.isEmpty) = b := Option.some.inj h
      subst h
      have hl : ks.length = kvs.length := by simpa using congrArg List.length h2
      cases ks <;> cases kvs <;> simp_all
  | obj c ns vs => simp [D.truth] at h
  | fz vs => simp [D.truth] at h
end
def ttTru (m : En → Rs D) : En → Rs Bool := fun env => (m env).bind fun d e => .of d.truth e
def ttNot (m : En → Rs Bool) : En → Rs Bool := fun env => (m env).bind fun b e => .ok (!b) e
def ttAnd (m n : En → Rs Bool) : En → Rs Bool := fun env => (m env).bind fun b e => match b with
  | true => n e
  | false => .ok false e
def ttOr (m n : En → Rs Bool) : En → Rs Bool := fun env => (m env).bind fun b e => match b with
  | true => .ok true e
  | false => n e
def xAnd (m n : En → Rs D) : En → Rs D := fun env => (m env).bind fun d e => match d with
  | .bl true => n e
  | .bl false => .ok (.bl false) e
  | _ => .bad
def xOr (m n : En → Rs D) : En → Rs D := fun env => (m env).bind fun d e => match d with
  | .bl true => .ok (.bl true) e
  | .bl false => n e
  | _ => .bad
def xNot (m : En → Rs D) : En → Rs D := fun env => (m env).bind fun d e => .of (d.truth.map fun b => .bl (!b)) e
def xIf (t : En → Rs Bool) (m n : En → Rs D) : En → Rs D := fun env => (t env).bind fun b e => match b with
  | true => m e
  | false => n e
def xChain (g g' : D → D → Option D) (ma mb mc : En → Rs D) : En → Rs D := fun env => (ma env).bind fun d1 e1 => (mb e1).bind fun d2 e2 => match g d1 d2 with
  | some (.bl true) => (mc e2).bind fun d3 e3 => .of (g' d2 d3) e3
  | some (.bl false) => .ok (.bl false) e2
  | _ => .bad
section
variable {X : Cx} {W : WX} {a b c e : Expr} {rest : List Expr} {m n o : En → Rs D} {tm tn : En → Rs Bool} {pos : Pos}
theorem et_tru (ha : Ev X W a m) (he : ∀ whole, isTrue a X.env whole = (do let v ← whole; standAt a.pos; holding [v] (truthy v)) := by intro _; rfl) : EvT X W a (ttTru m) :=
  PT_imp (pt_truth ha he) fun σ H Q ⟨U, env, sa, po⟩ => ⟨U, env, sa, Po.step po fun v H1 d e1 a r po1 => by
    cases hd : d.truth with
    | none => rw [hd] at po1; exact po1.elim
    | some k => rw [hd] at po1; exact ⟨k, truth_v r hd, po1 k H1 (.refl a.sa) rfl⟩⟩
theorem et_not (ha : EvT X W a tm) : EvT X W (.UnaryOp .Not a pos) (ttNot tm) :=
  PT_imp (pt_not ha) fun σ H Q ⟨U, env, sa, po⟩ => ⟨U, env, sa, Po.step po fun v H1 d e1 a r po1 => by
    obtain rfl : v = d := r
    exact po1 (!v) H1 (.refl a.sa) rfl⟩
abbrev EvW (X : Cx) (W : WX) (e : Expr) (m : En → Rs Bool) : Prop := PW X e (tT X.K W m)
theorem ew_and1 (ha : EvT X W a tm) : EvW X W (.BoolOp .And [a] pos) tm := pw_and1 ha
theorem ew_or1 (ha : EvT X W a tm) : EvW X W (.BoolOp .Or [a] pos) tm := pw_or1 ha
theorem ew_and (ha : EvT X W a tm) (hb : EvW X W (.BoolOp .And (b :: rest) pos) tn) : EvW X W (.BoolOp .And (a :: b :: rest) pos) (ttAnd tm tn) :=
  PW_imp (pw_and ha hb) fun σ H Q ⟨U, env, sa, po⟩ => ⟨U, env, sa, Po.step po fun v H1 d e1 a r po1 => by
    obtain rfl : v = d := r
    cases v with
    | true => exact iteT ⟨U, e1, a.sa, po1⟩
    | false => exact iteF (po1 false H1 (.refl a.sa) rfl)⟩
theorem ew_or (ha : EvT X W a tm) (hb : EvW X W (.BoolOp .Or (b :: rest) pos) tn) : EvW X W (.BoolOp .Or (a :: b :: rest) pos) (ttOr tm tn) :=
  PW_imp (pw_or ha hb) fun σ H Q ⟨U, env, sa, po⟩ => ⟨U, env, sa, Po.step po fun v H1 d e1 a r po1 => by
    obtain rfl : v = d := r
    cases v with
    | true => exact iteT (po1 true H1 (.refl a.sa) rfl)
    | false => exact iteF ⟨U, e1, a.sa, po1⟩⟩
theorem et_w (h : EvW X W a tm) : EvT X W a tm := PW.pt h
theorem ev_and (ha : Ev X W a m) (hb : Ev X W (.BoolOp .And (b :: rest) pos) n) : Ev X W (.BoolOp .And (a :: b :: rest) pos) (xAnd m n) :=
  PE_imp (pe_and ha hb) fun σ H Q ⟨U, env, sa, po⟩ => ⟨U, env, sa, Po.step po fun v H1 d e1 a r po1 => by
    cases d with
    | bl k =>
      cases k with
      | true => exact ⟨true, r, iteT ⟨U, e1, a.sa, po1⟩⟩
      | false => exact ⟨false, r, iteF (po1 _ H1 (.refl a.sa) rfl)⟩
    | _ => exact po1.elim⟩
theorem ev_or (ha : Ev X W a m) (hb : Ev X W (.BoolOp .Or (b :: rest) pos) n) : Ev X W (.BoolOp .Or (a :: b :: rest) pos) (xOr m n) :=
  PE_imp (pe_or ha hb) fun σ H Q ⟨U, env, sa, po⟩ => ⟨U, env, sa, Po.step po fun v H1 d e1 a r po1 => by
    cases d with
    | bl k =>
      cases k with
      | true => exact ⟨true, r, iteT (po1 _ H1 (.refl a.sa) rfl)⟩
      | false => exact ⟨false, r, iteF ⟨U, e1, a.sa, po1⟩⟩
    | _ => exact po1.elim⟩
theorem ev_last {op : BoolOp} (ha : Ev X W a m) : Ev X W (.BoolOp op [a] pos) m := pe_one ha
theorem ev_not (ha : Ev X W a m) : Ev X W (.UnaryOp .Not a pos) (xNot m) :=
  PE_imp (pe_notT ha) fun σ H Q ⟨U, env, sa, po⟩ => ⟨U, env, sa, Po.step po fun v H1 d e1 a r po1 => by
    cases hd : d.truth with
    | none => rw [hd] at po1; exact po1.elim
    | some k => rw [hd] at po1; exact ⟨k, truth_v r hd, po1 _ H1 (.refl a.sa) rfl⟩⟩
theorem ev_if (hc : EvT X W c tm) (ha : Ev X W a m) (hb : Ev X W b n) : Ev X W (.IfExp c a b pos) (xIf tm m n) :=
  PE_imp (pe_ifExp hc ha hb) fun σ H Q ⟨U, env, sa, po⟩ => ⟨U, env, sa, Po.step po fun v H1 d e1 a r po1 => by
    obtain rfl : v = d := r
    cases v with
    | true => exact iteT ⟨U, e1, a.sa, po1⟩
    | false => exact iteF ⟨U, e1, a.sa, po1⟩⟩
theorem chain_ok {g g' : D → D → Option D} {r r' : R2} {K : PySem.W.Frag} (hs : Snd2 K g r) (hs' : Snd2 K g' r') {U : Addr → Prop} {env : En} {σ : St} {H : Hp} {Q : VK} (sa : SA K U env σ H) (po : Po (RD K) K W U env σ H (xChain g g' m n o env) Q) :
    tChain r r' (tE K W m) (tE K W n) (tE K W o) σ H Q := ⟨U, env, sa, Po.step po fun v H1 d e1 a r1 po1 => ⟨U, e1, a.sa, Po.step po1 fun v2 H2 d2 e2 a2 r2 po2 => by
    have key : ∀ k, g d d2 = some (.bl k) → (∀ v' H', Same H2 H' → Rep K (Ux U e2 σ) H' (.bl k) v' → ∃ k', v' = .bl k' ∧ (if k' = true then tE K W o σ H' (fun w' H4 => r' v2 w' H4 Q) else Q (.bl false) H')) → r v v2 H2 fun z H3 => ∃ k', z = .bl k' ∧ (if k' = true then tE K W o σ H3 (fun w' H4 => r' v2 w' H4 Q) else Q (.bl false) H3) :=
      fun k e h => hs _ _ _ _ _ _ _ _ a2.sa.alU (a2.rep a.sa r1) r2 e h
    cases hg : g d d2 with
    | none => simp only [hg] at po2; exact po2.elim
    | some z =>
      cases z with
      | bl k =>
        refine key k hg fun v' H' s q => ⟨k, q, ?_⟩
        have a3 := (Ste.refl a2.sa).same s
        simp only [hg] at po2
        cases k with
        | true => exact iteT ⟨U, e2, a3.sa, Po.step (Po.shift (R2 := RD K) a3 po2) fun v3 H3 d3 e3 a4 r3 po3 => by
            obtain ⟨z, hz, q⟩ := Po.of_some a4.sa po3
            exact hs' _ _ _ _ _ _ _ _ a4.sa.alU (a4.rep a3.sa (a3.rep a2.sa r2)) r3 hz q⟩
        | false => exact iteF (po2 _ H' a3 rfl)
      | _ => simp only [hg] at po2; exact po2.elim⟩⟩
theorem ev_chain {op op' : CmpOp} {g g' : D → D → Option D} {r r' : R2} (ho : OpR X (compareOp op) r) (ho' : OpR X (compareOp op') r') (hs : Snd2 X.K g r) (hs' : Snd2 X.K g' r') (ha : Ev X W a m) (hb : Ev X W b n) (hc : Ev X W c o)
    (hm : lastMarks [op, op'] [b, c] = false := by with_unfolding_all rfl) : Ev X W (.Compare a [op, op'] [b, c] pos) (xChain g g' m n o) :=
  PE_imp (pe_chain ho ho' ha hb hc hm) fun σ H Q ⟨U, env, sa, po⟩ => chain_ok hs hs' sa po
theorem et_chain {op op' : CmpOp} {g g' : D → D → Option D} {r r' : R2} (ho : OpR X (compareOp op) r) (ho' : OpR X (compareOp op') r') (hs : Snd2 X.K g r) (hs' : Snd2 X.K g' r') (ha : Ev X W a m) (hb : Ev X W b n) (hc : Ev X W c o)
    (hm : lastMarks [op, op'] [b, c] = false := by with_unfolding_all rfl) : EvT X W (.Compare a [op, op'] [b, c] pos) (tB1 (xChain g g' m n o)) := by
  refine PT_imp (pt_chain ho ho' ha hb hc hm) fun σ H Q ⟨U, env, sa, po⟩ => chain_ok hs hs' sa ?_
  unfold tB1 at po
  generalize xChain g g' m n o env = R at po
  cases R with
  | bad => exact po
  | er x e => exact po
  | ok d e =>
    intro v H' a r
    obtain ⟨b, e, h⟩ := Po.isBl a.sa r (Po.shift (R2 := RB) a po)
    exact ⟨b, e, h⟩
end
/-! ### displays -/
def xTup (ma : En → Rs (List D)) : En → Rs D := fun env => (ma env).bind fun ds e => .ok (.tup ds) e
def xLst (ma : En → Rs (List D)) : En → Rs D := fun env => (ma env).bind fun ds e => .ok (.lst ds) e
section
variable {X : Cx} {W : WX} {es : List Expr} {ma : En → Rs (List D)} {n k : Nat} {pos : Pos}
theorem ev_tup (h : EvN X W es n ma) (hn : n ≤ sizeLine := by decide) : Ev X W (.Tuple es k pos) (xTup ma) :=
  PE_imp (pe_tup h.pa) fun σ H Q ⟨U, env, sa, po⟩ => ⟨U, env, sa, by
    unfold xTup at po
    cases hm : ma env with
    | bad => rw [hm] at po; exact po
    | er x e => rw [hm] at po; exact po
    | ok ds e =>
      rw [hm] at po
      intro v H1 a r
      refine ⟨by rw [Reps.len r, h.len _ _ _ hm]; exact hn, fun p hp => ?_⟩
      exact po _ _ (a.same (same_new hp)) (rep_tup_new a.sa.alU hp r)⟩
theorem ev_lst (h : EvN X W es n ma) (hn : n ≤ sizeLine := by decide) : Ev X W (.List es pos) (xLst ma) :=
  PE_imp (pe_lst h.pa) fun σ H Q ⟨U, env, sa, po⟩ => ⟨U, env, sa, by
    unfold xLst at po
    cases hm : ma env with
    | bad => rw [hm] at po; exact po
    | er x e => rw [hm] at po; exact po
    | ok ds e =>
      rw [hm] at po
      intro v H1 a r
      refine ⟨by rw [Reps.len r, h.len _ _ _ hm]; exact hn, fun p hp => ?_⟩
      exact po _ _ (a.same (same_new hp)) (rep_lst_new a.sa.alU hp r)⟩
end
/-! ### subscripts -/
section
variable {X : Cx} {K : PySem.W.Frag}
def rIxD : R2 := fun x y H Q => ∃ a v, x = .ref a ∧ DGet H a y (some v) ∧ Q v H
theorem ix_dict (hu : X.A.units + 1 < cLine) : IxR X rIxD := by
  intro value slice pins s σ H x y v u Q I rx ry h hs
  obtain ⟨a, z, rfl, g, q⟩ := h
  obtain rfl : v = Value.ref a := rx
  have hT := dict_typeIs I g
  have core : wpAny (model X.prog X.w) X.A (subscripted slice false (.ref a) u) (fun r s₃ => wpAny (model X.prog X.w) X.A (letTemporaryGo value (.ref a) r >>= fun _ => pure r) (EP X pins σ Q) X.xe s₃) X.xe s := by
    rw [hs]
    exact wpAny_operating (wpAny_mono (d_getItem hu I g ry fun w' s3 I3 rw' => (⟨z, H, I3, rw', q⟩ : EP X pins σ Q w' s3)) (fun r s₃ h₃ => wpAny_bind (wpAny_letTemporaryGo (wpAny_pure h₃))) fun _ _ x => x)
  unfold PyProof.Rows.subscriptTail
  refine wpAny_bind ?_
  rw [getitemInPython_of_ne hT.not_modules]
  refine wpAny_bind (wpAny_specialOf hT PySem.F.slot_dict_getitem.lookup ?_)
  first
    | exact wpAny_pure (wpAny_bind core)
    | exact wpAny_bind (wpAny_pure (wpAny_bind core))
    | exact wpAny_bind core
def gIx : D → D → Option D
  | .fz ds, .int i => atI ds i
  | .lst ds, .int i => atI ds i
  | .tup ds, .int i => atI ds i
  | .str z, .int i => if z.length ≤ sizeLine then (atI z.cps.toList i).map fun c => .str ⟨#[c]⟩ else none
  | .dct t ks vs, k => (getK (.dct t ks vs) k).bind id
  | _, _ => none
def rIxM (K : PySem.W.Frag) : R2 := fun x y H Q => rIx K x y H Q ∨ rIxD x y H Q
theorem ix_m (hu : X.A.units + 1 < cLine) : IxR X (rIxM X.K) := IxR.or ix_seq (ix_dict hu)
theorem Reps.atI {U : Addr → Prop} {H : Hp} {ds : List D} {xs : List V} {i : Int} {d : D} (r : Reps K U H ds xs) (h : atI ds i = some d) : ∃ v, L2.atI xs i = some v ∧ Rep K U H d v := by
  unfold L2.atI at h ⊢
  rw [r.len]
  obtain ⟨j, h1, h2⟩ := Option.bind_eq_some_iff.mp h
  obtain ⟨v, h3, h4⟩ := r.get h2
  exact ⟨v, by rw [h1]; exact h3, h4⟩
theorem s_ix : Snd2 K gIx (rIxM K) := by
  intro U H x y d e z Q al rx ry hz q
  cases d with
  | lst ds =>
    cases e <;> simp only [gIx, reduceCtorEq] at hz
    obtain ⟨a, xs, rfl, h1, _, r⟩ := rx.lst_sq
    obtain ⟨v, h2, h3⟩ := r.atI hz
    exact .inl (.inl ⟨a, xs, _, v, rfl, ry, .of h1, h2, q v H (Same.refl H) h3⟩)
  | fz ds =>
    cases e <;> simp only [gIx, reduceCtorEq] at hz
    obtain ⟨a, xs, rfl, h1, r⟩ := rx
    obtain ⟨v, h2, h3⟩ := r.atI hz
    exact .inl (.inl ⟨a, xs, _, v, rfl, ry, h1.sq, h2, q v H (Same.refl H) h3⟩)
  | tup ds =>
    cases e <;> simp only [gIx, reduceCtorEq] at hz
    obtain ⟨a, xs, rfl, h1, _, r⟩ := rx.tup_sq
    obtain ⟨v, h2, h3⟩ := r.atI hz
    exact .inl (.inr (.inl ⟨a, xs, _, v, rfl, ry, .of h1, h2, q v H (Same.refl H) h3⟩))
  | str w =>
    cases e <;> simp only [gIx, reduceCtorEq, Option.ite_none_right_eq_some, Option.map_eq_some_iff] at hz
    obtain ⟨h1, c, h2, rfl⟩ := hz
    exact .inl (.inr (.inr ⟨w, _, c, rx, ry, h1, h2, q _ H (Same.refl H) rfl⟩))
  | dct t ks vs =>
    simp only [gIx, Option.bind_eq_some_iff, id_eq] at hz
    obtain ⟨r, h1, rfl⟩ := hz
    obtain ⟨a, r', rfl, g, m⟩ := getK_get rx ry h1
    cases r' with
    | none => exact m.elim
    | some v => exact .inr ⟨a, v, rfl, g, q v H (Same.refl H) m⟩
  | _ => simp [gIx] at hz
variable {W : WX} {a b : Expr} {m n : En → Rs D} {pos : Pos} {k : Nat}
theorem ev_ix (c : Co X k) (ha : Ev X W a m) (hb : Ev X W b n) (hs : PlainIx b := by exact fun _ _ => rfl) : Ev X W (.Subscript a b pos) (x2 gIx m n) :=
  PE_imp (pe_ix (ix_m (hu_of c.hr)) ha hb hs) fun σ H Q ⟨U, env, sa, po⟩ => ⟨U, env, sa, Po.step po fun v H1 d e1 a r po1 => ⟨U, e1, a.sa, Po.step po1 fun v2 H2 d2 e2 a2 r2 po2 => by
    obtain ⟨z, hz, q⟩ := Po.of_some a2.sa po2
    exact s_ix _ _ _ _ _ _ _ _ a2.sa.alU (a2.rep a.sa r) r2 hz q⟩⟩
/-! ### slices -/
def RO : (Addr → Prop) → St → Hp → Option Int → Option Int → Prop := fun _ _ _ a b => b = a
abbrev EvO (X : Cx) (W : WX) (e : Option Expr) (m : En → Rs (Option Int)) : Prop := PO X e (tM RO X.K W m)
def oNone : En → Rs (Option Int) := fun env => .ok none env
def isInt : D → Option Int
  | .int i => some i
  | _ => none
def oSome (m : En → Rs D) : En → Rs (Option Int) := fun env => (m env).bind fun d e => .of ((isInt d).map some) e
theorem isInt_v {U : Addr → Prop} {H : Hp} {d : D} {i : Int} {x : V} (h : isInt d = some i) (r : Rep K U H d x) : x = .int i := by
  cases d <;> simp [isInt] at h
  subst h
  exact r
theorem PO_imp {e : Option Expr} {t t' : TO} (h : PO X e t) (k : ∀ σ H Q, t' σ H Q → t σ H Q) : PO X e t' := ⟨fun pins s σ H Q I q => h.run pins s σ H Q I (k σ H Q q)⟩
theorem eo_none : EvO X W none oNone := PO_imp po_none fun σ H Q ⟨U, env, sa, po⟩ => po none H (.refl sa) rfl
theorem eo_some (h : Ev X W a m) : EvO X W (some a) (oSome m) :=
  PO_imp (po_some h) fun σ H Q ⟨U, env, sa, po⟩ => ⟨U, env, sa, Po.step po fun v H1 d e1 a r po1 => by
    cases hd : isInt d with
    | none => rw [hd] at po1; exact po1.elim
    | some i => rw [hd] at po1; exact ⟨i, isInt_v hd r, po1 (some i) H1 (.refl a.sa) rfl⟩⟩
def cutL {α : Type} (xs : List α) (lo hi : Option Int) : List α := (xs.drop (HT.sIx xs.length 0 lo)).take (HT.sIx xs.length xs.length hi - HT.sIx xs.length 0 lo)
def gSl (lo hi : Option Int) : D → Option D
  | .fz ds => some (.lst (cutL ds lo hi))
  | .lst ds => some (.lst (cutL ds lo hi))
  | .tup ds => some (.tup (cutL ds lo hi))
  | .str z => if z.length ≤ sizeLine then some (.str (cutS z lo hi)) else none
  | _ => none
def xSl (m : En → Rs D) (lo hi : En → Rs (Option Int)) : En → Rs D := fun env => (m env).bind fun d e1 => (lo e1).bind fun l e2 => (hi e2).bind fun h e3 => .of (gSl l h d) e3
theorem Reps.cut {U : Addr → Prop} {H : Hp} {ds : List D} {xs : List V} (r : Reps K U H ds xs) (lo hi : Option Int) : Reps K U H (cutL ds lo hi) (cutV xs lo hi) := by
  unfold cutL cutV
  rw [r.len]
  exact (r.drop _).take _
def rSlM (K : PySem.W.Frag) : V → Option Int → Option Int → Hp → VK → Prop := fun x lo hi H Q => rSlL K x lo hi H Q ∨ (rSlA K x lo hi H Q ∨ rSlS x lo hi H Q)
theorem sl_m : SlR X (rSlM X.K) := SlR.or sl_list (SlR.or sl_tupA sl_str)
theorem s_sl {lo hi : Option Int} {U : Addr → Prop} {H : Hp} {x : V} {d z : D} {Q : VK} (al : Al U H) (rx : Rep K U H d x) (hz : gSl lo hi d = some z) (q : ∀ v H', Same H H' → Rep K U H' z v → Q v H') : rSlM K x lo hi H Q := by
  cases d with
  | lst ds =>
    cases hz
    obtain ⟨a, xs, rfl, h1, _, r⟩ := rx.lst_sq
    exact .inl ⟨a, xs, rfl, .of h1, fun p hp => q _ _ (same_new hp) (rep_lst_new al hp (r.cut lo hi))⟩
  | fz ds =>
    cases hz
    obtain ⟨a, xs, rfl, h1, r⟩ := rx
    exact .inl ⟨a, xs, rfl, h1.sq, fun p hp => q _ _ (same_new hp) (rep_lst_new al hp (r.cut lo hi))⟩
  | tup ds =>
    cases hz
    have rx' := rx
    obtain ⟨a, xs, rfl, h1, _, r⟩ := rx.tup_sq
    refine .inr (.inl ⟨a, xs, rfl, .of h1, fun ⟨e1, e2⟩ => ?_, fun _ p hp => q _ _ (same_new hp) (rep_tup_new al hp (r.cut lo hi))⟩)
    have e : cutL ds lo hi = ds := by
      unfold cutL
      rw [← r.len, e1, e2, List.drop_zero, Nat.sub_zero, List.take_of_length_le (by rw [r.len]; exact Nat.le_refl _)]
    rw [e] at q
    exact q _ H (Same.refl H) rx'
  | str w =>
    simp only [gSl, Option.ite_none_right_eq_some] at hz
    obtain ⟨h1, e⟩ := hz
    cases e
    exact .inr (.inr ⟨w, rx, h1, q _ H (Same.refl H) rfl⟩)
  | _ => simp [gSl] at hz
theorem ev_sl {lo hi : Option Expr} {ml mh : En → Rs (Option Int)} {p2 : Pos} (ha : Ev X W a m) (hl : EvO X W lo ml) (hh : EvO X W hi mh) : Ev X W (.Subscript a (.Slice lo hi none p2) pos) (xSl m ml mh) :=
  PE_imp (pe_slice sl_m ha hl hh) fun σ H Q ⟨U, env, sa, po⟩ => ⟨U, env, sa, Po.step po fun v H1 d e1 a r po1 => ⟨U, e1, a.sa, Po.step po1 fun l H2 l' e2 a2 r2 po2 => ⟨U, e2, a2.sa, Po.step po2 fun h H3 h' e3 a3 r3 po3 => by
    obtain rfl : l = l' := r2
    obtain rfl : h = h' := r3
    obtain ⟨z, hz, q⟩ := Po.of_some a3.sa po3
    exact s_sl a3.sa.alU (a3.rep a2.sa (a2.rep a.sa r)) hz q⟩⟩⟩
/-! ### in -/
def sIn (x y : Str) : Option Bool := match x.cps.toList with
  | [c] => some (decide (c ∈ y.cps.toList))
  | _ => none
def gInB : D → D → Option Bool
  | d, .lst ds => if isFlat d = true ∧ ds.all isFlat = true then some (inF d ds) else none
  | d, .tup ds => if isFlat d = true ∧ ds.all isFlat = true then some (inF d ds) else none
  | .str x, .str y => sIn x y
  | d, .dct t ks vs => (getK (.dct t ks vs) d).map (·.isSome)
  | _, _ => none
def gIn (d e : D) : Option D := (gInB d e).map .bl
def gNotIn (d e : D) : Option D := (gInB d e).map fun b => .bl (!b)
def rInD (neg : Bool) : R2 := fun y x H Q => ∃ a o, x = .ref a ∧ DGet H a y o ∧ Q (.bl (if neg then !o.isSome else o.isSome)) H
theorem op_inD (hu : X.A.units + 1 < cLine) : OpR X (compareOp .In) (rInD false) := by
  intro pins s σ H y x u v Q I ry rx h
  obtain ⟨a, o, rfl, g, q⟩ := h
  obtain rfl : v = Value.ref a := rx
  exact d_in hu I g ry fun s3 I3 => ⟨.bl _, H, I3, rfl, q⟩
theorem op_notInD (hu : X.A.units + 1 < cLine) : OpR X (compareOp .NotIn) (rInD true) := by
  intro pins s σ H y x u v Q I ry rx h
  obtain ⟨a, o, rfl, g, q⟩ := h
  obtain rfl : v = Value.ref a := rx
  exact d_notIn hu I g ry fun s3 I3 => ⟨.bl _, H, I3, rfl, q⟩
def rSign (neg : Bool) : R2 := fun x y H Q => ∃ (c : Nat) (z : Str), x = .str ⟨#[c]⟩ ∧ y = .str z ∧ Q (.bl (if neg then !decide (c ∈ z.cps.toList) else decide (c ∈ z.cps.toList))) H
def rInM (K : PySem.W.Frag) (neg : Bool) : R2 := fun x y H Q => rIn K neg x y H Q ∨ (rSign neg x y H Q ∨ rInD neg x y H Q)
theorem op_inM (hu : X.A.units + 1 < cLine) : OpR X (compareOp .In) (rInM X.K false) := OpR.or op_in_seq (OpR.or op_in_sign (op_inD hu))
theorem op_notInM (hu : X.A.units + 1 < cLine) : OpR X (compareOp .NotIn) (rInM X.K true) := OpR.or op_notIn_seq (OpR.or op_notIn_sign (op_notInD hu))
theorem in_core {neg : Bool} {U : Addr → Prop} {H : Hp} {x y : V} {d e : D} {b : Bool} {Q : VK} (rx : Rep K U H d x) (ry : Rep K U H e y) (hb : gInB d e = some b) (q : ∀ v, v = V.bl (if neg then !b else b) → Q v H) : rInM K neg x y H Q := by
  have fl : ∀ ds xs, isFlat d = true → ds.all isFlat = true → inF d ds = b → Reps K U H ds xs → flatV x = true ∧ xs.all flatV = true ∧ inV x xs = b := fun ds xs h1 h2 h3 r => ⟨flat_v h1 rx, flats_v h2 r, by rw [inF_v h1 rx h2 r, h3]⟩
  cases e with
  | lst ds =>
    obtain ⟨a, xs, rfl, h1, _, r⟩ := ry.lst_sq
    have hb : (if isFlat d = true ∧ ds.all isFlat = true then some (inF d ds) else none) = some b := by cases d <;> exact hb
    rw [Option.ite_none_right_eq_some] at hb
    obtain ⟨⟨h2, h3⟩, e⟩ := hb
    obtain ⟨f1, f2, f3⟩ := fl ds xs h2 h3 (Option.some.inj e) r
    exact .inl ⟨a, xs, rfl, .inl (.of h1), f1, f2, q _ (by rw [f3])⟩
  | tup ds =>
    obtain ⟨a, xs, rfl, h1, _, r⟩ := ry.tup_sq
    have hb : (if isFlat d = true ∧ ds.all isFlat = true then some (inF d ds) else none) = some b := by cases d <;> exact hb
    rw [Option.ite_none_right_eq_some] at hb
    obtain ⟨⟨h2, h3⟩, e⟩ := hb
    obtain ⟨f1, f2, f3⟩ := fl ds xs h2 h3 (Option.some.inj e) r
    exact .inl ⟨a, xs, rfl, .inr (.of h1), f1, f2, q _ (by rw [f3])⟩
  | str z =>
    cases d <;> simp only [gInB, reduceCtorEq] at hb
    rename_i w
    unfold sIn at hb
    cases hl : w.cps.toList with
    | nil => rw [hl] at hb; cases hb
    | cons c t =>
      cases t with
      | cons c2 t => rw [hl] at hb; cases hb
      | nil =>
        rw [hl] at hb
        have hb : decide (c ∈ z.cps.toList) = b := Option.some.inj hb
        have ew : w = ⟨#[c]⟩ := by
          cases w
          have : _ = [c].toArray := congrArg List.toArray hl
          simp at this
          rw [this]
        refine .inr (.inl ⟨c, z, by rw [← ew]; exact rx, ry, q _ ?_⟩)
        rw [hb]
  | dct t ks vs =>
    have hb : (getK (.dct t ks vs) d).map (·.isSome) = some b := by cases d <;> exact hb
    obtain ⟨r, h1, rfl⟩ := Option.map_eq_some_iff.mp hb
    obtain ⟨a, r', rfl, g, m⟩ := getK_get ry rx h1
    refine .inr (.inr ⟨a, r', rfl, g, q _ ?_⟩)
    cases r <;> cases r' <;> first | rfl | exact m.elim
  | _ => cases d <;> simp [gInB] at hb
theorem s_in : Snd2 K gIn (rInM K false) := by
  intro U H x y d e z Q al rx ry hz q
  obtain ⟨b, hb, rfl⟩ := Option.map_eq_some_iff.mp hz
  exact in_core rx ry hb fun v hv => q v H (Same.refl H) hv
theorem s_notIn : Snd2 K gNotIn (rInM K true) := by
  intro U H x y d e z Q al rx ry hz q
  obtain ⟨b, hb, rfl⟩ := Option.map_eq_some_iff.mp hz
  exact in_core rx ry hb fun v hv => q v H (Same.refl H) hv
end
end Mi

set_option Elab.async false
set_option linter.all false
set_option maxRecDepth 100000
set_option maxHeartbeats 4000000
/-! Mi9: statements -/
namespace Mi
open PySem PySem.Spec L2
section
variable {K : PySem.W.Frag} {W : WX} {U : Addr → Prop} {env : En} {σ : St} {H : Hp}
/-- a slot takes a value -/
theorem Ste.set {i : Nat} {d : D} {v : V} (sa : SA K U env σ H) (hi : i < env.length) (nio : ∀ o, env[i]? ≠ some (.io o)) (r : Rep K (Ux U env σ) H d v) : Ste K U env σ H (env.set i (.v d)) (σ.set i (some v)) H := by
  have his : i < σ.length := by rw [← sa.len]; exact hi
  have old : ∀ {j : Nat} {s : Sl} {p : Ob}, (env.set i (.v d))[j]? = some s → s.ob = some p → env[j]? = some s ∧ j ≠ i := fun {j s p} h1 h2 => by
    by_cases e : i = j
    · subst e
      rw [List.getElem?_set_self hi] at h1
      cases h1
      cases h2
    · rw [List.getElem?_set_ne e] at h1
      exact ⟨h1, fun z => e z.symm⟩
  have oldS : ∀ {j : Nat}, j ≠ i → (σ.set i (some v))[j]? = σ[j]? := fun {j} n => List.getElem?_set_ne (Ne.symm n)
  have ch : ∀ x, Chg (env.set i (.v d)) (σ.set i (some v)) x → Chg env σ x := fun x ⟨j, s, p, h1, h2, h3⟩ => by
    obtain ⟨h4, n⟩ := old h1 h2
    rw [oldS n] at h3
    exact ⟨j, s, p, h4, h2, h3⟩
  have sub : ∀ x, Ux U (env.set i (.v d)) (σ.set i (some v)) x → Ux U env σ x := fun x q => q.imp id (ch x)
  refine ⟨⟨by rw [List.length_set, List.length_set]; exact sa.len, sa.al, fun x c => sa.nu x (ch x c), fun j k s t p q x h1 h2 h3 h4 h5 h6 => ?_, fun j e h1 => ?_, fun j s p h1 h2 => ?_⟩, .refl, fun x c => .inl (ch x c), fun j p h1 => ?_⟩
  · obtain ⟨e1, n1⟩ := old h1 h2
    obtain ⟨e2, n2⟩ := old h3 h4
    rw [oldS n1] at h5
    rw [oldS n2] at h6
    exact sa.inj j k s t p q x e1 h2 e2 h4 h5 h6
  · by_cases e : i = j
    · subst e
      rw [List.getElem?_set_self hi] at h1
      cases h1
      exact ⟨v, List.getElem?_set_self his, Rep.to (fun _ _ _ q => q) (fun x o n _ q => n (sub x q)) _ v r⟩
    · rw [List.getElem?_set_ne e] at h1
      obtain ⟨w, e1, r'⟩ := sa.val j _ h1
      exact ⟨w, by rw [oldS (Ne.symm e)]; exact e1, Rep.to (fun _ _ _ q => q) (fun x o n _ q => n (sub x q)) _ w r'⟩
  · obtain ⟨e1, n1⟩ := old h1 h2
    obtain ⟨b, e2, r'⟩ := sa.ob j s p e1 h2
    exact ⟨b, by rw [oldS n1]; exact e2, RepO.to (fun _ _ _ q => q) (fun x o n _ q => n (sub x q)) (fun _ q => q) r'⟩
  · have n : j ≠ i := fun e => by subst e; exact nio p h1
    exact ⟨p, by rw [List.getElem?_set_ne (Ne.symm n)]; exact h1, oldS n⟩
/-- one address more that is not to be touched -/
def Up (U : Addr → Prop) (p : Addr) : Addr → Prop := fun a => U a ∨ a = p
theorem ux_up {p a : Addr} : Ux (Up U p) env σ a ↔ Ux U env σ a ∨ a = p := by
  unfold Ux Up
  constructor
  · rintro ((h | h) | h)
    · exact .inl (.inl h)
    · exact .inr h
    · exact .inl (.inr h)
  · rintro ((h | h) | h)
    · exact .inl (.inl h)
    · exact .inr h
    · exact .inl (.inr h)
/-- an expression that makes a new object which nothing else holds: it stands at p -/
structure Fre (K : PySem.W.Frag) (U : Addr → Prop) (env : En) (σ : St) (H : Hp) (env' : En) (H' : Hp) (o : Ob) (p : Addr) : Prop where
  nw : Chg env σ p ∨ H p = none
  nu : ¬ U p
  sa : SA K (Up U p) env' σ H'
  gr : Gr (Chg env σ) H H'
  fr : ∀ a, Chg env' σ a → Chg env σ a ∨ H a = none
  io : ∀ (i : Nat) (o : Ob), env[i]? = some (.io o) → ∃ o' : Ob, env'[i]? = some (.io o')
  ob : RepO K (Ux (Up U p) env' σ) H' o p
theorem Fre.ste {env' : En} {H' : Hp} {o : Ob} {p : Addr} (sa : SA K U env σ H) (f : Fre K U env σ H env' H' o p) : Ste K U env σ H env' σ H' ∧ Rep K (Ux U env' σ) H' o.val (.ref p) := by
  have sub : ∀ x, Ux U env' σ x → Ux (Up U p) env' σ x := fun x h => ux_up.mpr (.inl h)
  have np : ¬ Ux U env' σ p := fun h => by
    rcases h with h | h
    · exact f.nu h
    · exact f.sa.nu p h (.inr rfl)
  have r := RepO.to (K := K) (fun _ _ _ q => q) (fun x o n _ q => n (sub x q)) (fun _ q => q) f.ob
  refine ⟨⟨⟨f.sa.len, fun a h => f.sa.al a (.inl h), fun a c h => f.sa.nu a c (.inl h), f.sa.inj, fun i d h => ?_, fun i s o h1 h2 => ?_⟩, f.gr, f.fr, fun i o h => ?_⟩, ?_⟩
  · obtain ⟨v, e, r⟩ := f.sa.val i d h
    exact ⟨v, e, Rep.to (fun _ _ _ q => q) (fun x o n _ q => n (sub x q)) _ v r⟩
  · obtain ⟨a, e, r⟩ := f.sa.ob i s o h1 h2
    exact ⟨a, e, RepO.to (fun _ _ _ q => q) (fun x o n _ q => n (sub x q)) (fun _ q => q) r⟩
  · obtain ⟨o', e⟩ := f.io i o h
    exact ⟨o', e, rfl⟩
  · cases o with
    | lst ds => obtain ⟨xs, e, r⟩ := r; exact ⟨p, xs, rfl, ⟨e, np⟩, r⟩
    | dct t ks ds => obtain ⟨xs, e, r⟩ := r; exact ⟨p, xs, rfl, np, e, r⟩
    | ins c ns ds => obtain ⟨dx, xs, e, l, r⟩ := r; exact ⟨p, dx, xs, rfl, np, e, l, r⟩
/-- .. and a name holds it -/
theorem Fre.own {env' : En} {H' : Hp} {o : Ob} {p : Addr} {i : Nat} (sa : SA K U env σ H) (f : Fre K U env σ H env' H' o p) (hi : i < env'.length) (nio : ∀ o, env'[i]? ≠ some (.io o)) :
    Ste K U env σ H (env'.set i (.ow o)) (σ.set i (some (.ref p))) H' := by
  have his : i < σ.length := by rw [← f.sa.len]; exact hi
  have np : ¬ U p := f.nu
  have get : ∀ {j : Nat} {s : Sl}, (env'.set i (.ow o))[j]? = some s → (j = i ∧ s = .ow o) ∨ (j ≠ i ∧ env'[j]? = some s) := fun {j s} h => by
    by_cases e : i = j
    · subst e
      rw [List.getElem?_set_self hi] at h
      cases h
      exact .inl ⟨rfl, rfl⟩
    · rw [List.getElem?_set_ne e] at h
      exact .inr ⟨Ne.symm e, h⟩
  have oldS : ∀ {j : Nat}, j ≠ i → (σ.set i (some (V.ref p)))[j]? = σ[j]? := fun {j} n => List.getElem?_set_ne (Ne.symm n)
  have newS : (σ.set i (some (V.ref p)))[i]? = some (some (V.ref p)) := List.getElem?_set_self his
  have ch : ∀ x, Chg (env'.set i (.ow o)) (σ.set i (some (.ref p))) x → Chg env' σ x ∨ x = p := fun x ⟨j, s, q, h1, h2, h3⟩ => by
    rcases get h1 with ⟨rfl, rfl⟩ | ⟨n, h4⟩
    · rw [newS] at h3
      cases h3
      exact .inr rfl
    · rw [oldS n] at h3
      exact .inl ⟨j, s, q, h4, h2, h3⟩
  have sub : ∀ x, Ux U (env'.set i (.ow o)) (σ.set i (some (.ref p))) x → Ux (Up U p) env' σ x := fun x h => ux_up.mpr (h.elim (fun h => .inl (.inl h)) fun c => (ch x c).imp .inr id)
  have ne : ∀ {x}, Chg env' σ x → x ≠ p := fun c e => f.sa.nu _ c (.inr e)
  refine ⟨⟨by rw [List.length_set, List.length_set]; exact f.sa.len, fun a h => f.sa.al a (.inl h), fun a c h => ?_, fun j k s t p1 p2 x h1 h2 h3 h4 h5 h6 => ?_, fun j d h => ?_, fun j s q h1 h2 => ?_⟩, f.gr, fun x c => ?_, fun j q h => ?_⟩
  · rcases ch a c with c | rfl
    · exact f.sa.nu a c (.inl h)
    · exact np h
  · rcases get h1 with ⟨rfl, rfl⟩ | ⟨n1, h1⟩
    · rw [newS] at h5
      cases h5
      rcases get h3 with ⟨e, _⟩ | ⟨n2, h3⟩
      · exact e.symm
      · rw [oldS n2] at h6
        exact absurd rfl (ne ⟨k, t, p2, h3, h4, h6⟩)
    · rw [oldS n1] at h5
      have cj : Chg env' σ x := ⟨j, s, p1, h1, h2, h5⟩
      rcases get h3 with ⟨rfl, rfl⟩ | ⟨n2, h3⟩
      · rw [newS] at h6
        cases h6
        exact absurd rfl (ne cj)
      · rw [oldS n2] at h6
        exact f.sa.inj j k s t p1 p2 x h1 h2 h3 h4 h5 h6
  · rcases get h with ⟨_, e⟩ | ⟨n, h⟩
    · cases e
    · obtain ⟨v, e, r⟩ := f.sa.val j d h
      exact ⟨v, by rw [oldS n]; exact e, Rep.to (fun _ _ _ q => q) (fun x o n _ q => n (sub x q)) _ v r⟩
  · rcases get h1 with ⟨rfl, rfl⟩ | ⟨n, h1⟩
    · cases h2
      exact ⟨p, newS, RepO.to (fun _ _ _ q => q) (fun x o n _ q => n (sub x q)) (fun _ q => q) f.ob⟩
    · obtain ⟨a, e, r⟩ := f.sa.ob j s q h1 h2
      exact ⟨a, by rw [oldS n]; exact e, RepO.to (fun _ _ _ q => q) (fun x o n _ q => n (sub x q)) (fun _ q => q) r⟩
  · rcases ch x c with c | rfl
    · exact f.fr x c
    · exact f.nw
  · obtain ⟨q', e⟩ := f.io j q h
    have n : j ≠ i := fun z => by subst z; exact nio q' e
    exact ⟨q', by rw [List.getElem?_set_ne (Ne.symm n)]; exact e, oldS n⟩
/-- the object of a name is changed -/
theorem Ste.write {i : Nat} {s : Sl} {o o' : Ob} {a : Addr} {ho : HO} (sa : SA K U env σ H) (h1 : env[i]? = some s) (h2 : s.ob = some o) (ha : σ[i]? = some (some (V.ref a))) (hr : ∀ H', (∀ b u, ¬ Ux U env σ b → H b = some u → H' b = some u) → H' a = some ho → RepO K (Ux U env σ) H' o' a) :
    Ste K U env σ H (env.set i (s.put o')) σ (upd H a ho) := by
  have hi : i < env.length := (List.getElem?_eq_some_iff.mp h1).1
  have pob : (s.put o').ob = some o' := by cases s <;> first | rfl | cases h2
  have get : ∀ {j : Nat} {t : Sl}, (env.set i (s.put o'))[j]? = some t → (j = i ∧ t = s.put o') ∨ (j ≠ i ∧ env[j]? = some t) := fun {j t} h => by
    by_cases e : i = j
    · subst e
      rw [List.getElem?_set_self hi] at h
      cases h
      exact .inl ⟨rfl, rfl⟩
    · rw [List.getElem?_set_ne e] at h
      exact .inr ⟨Ne.symm e, h⟩
  have ca : Chg env σ a := ⟨i, s, o, h1, h2, ha⟩
  have ch : ∀ x, Chg (env.set i (s.put o')) σ x → Chg env σ x := fun x ⟨j, t, q, h3, h4, h5⟩ => by
    rcases get h3 with ⟨rfl, rfl⟩ | ⟨n, h6⟩
    · exact ⟨j, s, o, h1, h2, h5⟩
    · exact ⟨j, t, q, h6, h4, h5⟩
  have hc : ∀ x, Chg env σ x → Chg (env.set i (s.put o')) σ x := fun x ⟨j, t, q, h3, h4, h5⟩ => by
    by_cases e : j = i
    · subst e
      exact ⟨j, s.put o', o', List.getElem?_set_self hi, pob, h5⟩
    · exact ⟨j, t, q, by rw [List.getElem?_set_ne (Ne.symm e)]; exact h3, h4, h5⟩
  have sub : ∀ x, Ux U (env.set i (s.put o')) σ x → Ux U env σ x := fun x q => q.imp id (ch x)
  have keep : ∀ b u, ¬ Ux U env σ b → H b = some u → upd H a ho b = some u := fun b u n e => by
    rw [upd_ne (fun z => n (by rw [z]; exact .inr ca))]
    exact e
  refine ⟨⟨by rw [List.length_set]; exact sa.len, fun x h => ?_, fun x c => sa.nu x (ch x c), fun j k t u q r x h3 h4 h5 h6 h7 h8 => ?_, fun j d h => ?_, fun j t q h3 h4 => ?_⟩, fun b u n e => ?_, fun x c => .inl (ch x c), fun j q h => ?_⟩
  · obtain ⟨u, e⟩ := sa.al x h
    by_cases z : x = a
    · exact ⟨ho, by rw [z]; exact upd_same⟩
    · exact ⟨u, by rw [upd_ne z]; exact e⟩
  · have g : ∀ {j : Nat} {t : Sl} {q : Ob}, (env.set i (s.put o'))[j]? = some t → t.ob = some q → ∃ t' q', env[j]? = some t' ∧ t'.ob = some q' := fun {j t q} h3 h4 => by
      rcases get h3 with ⟨rfl, rfl⟩ | ⟨n, h6⟩
      · exact ⟨s, o, h1, h2⟩
      · exact ⟨t, q, h6, h4⟩
    obtain ⟨t1, q1, e1, e2⟩ := g h3 h4
    obtain ⟨t2, q2, e3, e4⟩ := g h5 h6
    exact sa.inj j k t1 t2 q1 q2 x e1 e2 e3 e4 h7 h8
  · rcases get h with ⟨rfl, e⟩ | ⟨n, h⟩
    · rw [← e] at pob; cases pob
    · obtain ⟨v, e, r⟩ := sa.val j d h
      exact ⟨v, e, Rep.to keep (fun x o n _ q => n (sub x q)) _ v r⟩
  · rcases get h3 with ⟨rfl, rfl⟩ | ⟨n, h3⟩
    · rw [pob] at h4
      cases h4
      exact ⟨a, ha, RepO.to (fun _ _ _ q => q) (fun x o n _ q => n (sub x q)) (fun _ q => q) (hr _ keep upd_same)⟩
    · obtain ⟨b, e, r⟩ := sa.ob j t q h3 h4
      refine ⟨b, e, RepO.to keep (fun x o n _ q => n (sub x q)) (fun u z => ?_) r⟩
      rw [upd_ne (fun z => n ?_)]
      · exact z
      · rw [z] at e
        exact sa.inj j i t s q o a h3 h4 h1 h2 e ha
  · rw [upd_ne (fun z => n (by rw [z]; exact ca))]
    exact e
  · by_cases e : j = i
    · subst e
      rw [h] at h1
      cases h1
      exact ⟨o', by rw [List.getElem?_set_self hi]; rfl, rfl⟩
    · exact ⟨q, by rw [List.getElem?_set_ne (Ne.symm e)]; exact h, rfl⟩
end
/-! ### targets -/
def gSet (i : Nat) (d : D) (env : En) : Option En := match env[i]? with
  | some (.io _) => none
  | some _ => some (env.set i (.v d))
  | none => none
/-- only the slots `is` are stored to -/
def Btw (is : List Nat) (σ σ' : St) : Prop := σ'.length = σ.length ∧ ∀ j, j ∉ is → σ'[j]? = σ[j]?
theorem Btw.trans {is js : List Nat} {σ σ1 σ2 : St} (a : Btw is σ σ1) (b : Btw js σ1 σ2) : Btw (is ++ js) σ σ2 :=
  ⟨b.1.trans a.1, fun j h => (b.2 j fun z => h (List.mem_append_right _ z)).trans (a.2 j fun z => h (List.mem_append_left _ z))⟩
def tGt (K : PySem.W.Frag) (is : List Nat) (mg : D → En → Option En) : TG := fun v σ H Q => ∃ U env d env', SA K U env σ H ∧ Rep K (Ux U env σ) H d v ∧ mg d env = some env' ∧ ∀ σ' H', Ste K U env σ H env' σ' H' → Btw is σ σ' → Q σ' H'
def tGs (K : PySem.W.Frag) (is : List Nat) (mg : List D → En → Option En) : TGs := fun vs σ H Q => ∃ U env ds env', SA K U env σ H ∧ Reps K (Ux U env σ) H ds vs ∧ mg ds env = some env' ∧ ∀ σ' H', Ste K U env σ H env' σ' H' → Btw is σ σ' → Q σ' H'
abbrev EvG (X : Cx) (tg : Expr) (is : List Nat) (mg : D → En → Option En) : Prop := PG X tg (tGt X.K is mg)
abbrev EvGs (X : Cx) (tg : List Expr) (is : List Nat) (mg : List D → En → Option En) : Prop := PGs X tg (tGs X.K is mg)
theorem PG_imp {X : Cx} {tg : Expr} {t t' : TG} (h : PG X tg t) (k : ∀ v σ H Q, t' v σ H Q → t v σ H Q) : PG X tg t' := ⟨fun pins s σ H v u Q I r q => h.run pins s σ H v u Q I r (k v σ H Q q)⟩
theorem PGs_imp {X : Cx} {tg : List Expr} {t t' : TGs} (h : PGs X tg t) (k : ∀ v σ H Q, t' v σ H Q → t v σ H Q) : PGs X tg t' := ⟨fun pins s σ H v u Q I r q => h.run pins s σ H v u Q I r (k v σ H Q q)⟩
theorem PG_or {X : Cx} {tg : Expr} {t t' : TG} (h : PG X tg t) (h' : PG X tg t') : PG X tg fun v σ H Q => t v σ H Q ∨ t' v σ H Q :=
  ⟨fun pins s σ H v u Q I r q => q.elim (h.run pins s σ H v u Q I r) (h'.run pins s σ H v u Q I r)⟩
def gsNil : List D → En → Option En := fun ds env => match ds with
  | [] => some env
  | _ => none
def gsCons (mg : D → En → Option En) (ms : List D → En → Option En) : List D → En → Option En := fun ds env => match ds with
  | d :: r => (mg d env).bind fun e => ms r e
  | [] => none
/-- a tuple or a list taken apart -/
def gUnp (n : Nat) (ms : List D → En → Option En) : D → En → Option En := fun d env => match d with
  | .tup ds => if ds.length = n then ms ds env else none
  | .lst ds => if ds.length = n then ms ds env else none
  | _ => none
theorem gSet_ok {K : PySem.W.Frag} {U : Addr → Prop} {env env' : En} {σ : St} {H : Hp} {i : Nat} {d : D} {v : V} (sa : SA K U env σ H) (r : Rep K (Ux U env σ) H d v) (h : gSet i d env = some env') : Ste K U env σ H env' (σ.set i (some v)) H := by
  unfold gSet at h
  cases e : env[i]? with
  | none => rw [e] at h; cases h
  | some s =>
    have hi := (List.getElem?_eq_some_iff.mp e).1
    cases s with
    | io o => rw [e] at h; cases h
    | un => rw [e] at h; cases h; exact Ste.set sa hi (fun o q => by rw [e] at q; cases q) r
    | v d => rw [e] at h; cases h; exact Ste.set sa hi (fun o q => by rw [e] at q; cases q) r
    | ow d => rw [e] at h; cases h; exact Ste.set sa hi (fun o q => by rw [e] at q; cases q) r
section
variable {X : Cx} {e : Expr} {es : List Expr} {is js : List Nat} {mg : D → En → Option En} {ms : List D → En → Option En} {n k : Nat} {pos : Pos}
theorem eg_name {i : Nat} (h : PG X e (gName i)) : EvG X e [i] (gSet i) := PG_imp h fun v σ H Q ⟨U, env, d, env', sa, r, hm, q⟩ => q _ _ (gSet_ok sa r hm) ⟨List.length_set, fun j hj => List.getElem?_set_ne fun z => hj (by simp [z])⟩
theorem eg_nil : EvGs X [] [] gsNil := PGs_imp pgs_nil fun vs σ H Q ⟨U, env, ds, env', sa, r, hm, q⟩ => by
  cases ds with
  | nil =>
    cases hm
    exact ⟨r, q σ H (.refl sa) ⟨rfl, fun _ _ => rfl⟩⟩
  | cons d ds => cases hm
theorem eg_cons (h1 : EvG X e is mg) (h2 : EvGs X es js ms) (hs : (assignEach (e :: es) X.env).map (·.2) = assign e X.env :: (assignEach es X.env).map (·.2) := by rfl) : EvGs X (e :: es) (is ++ js) (gsCons mg ms) :=
  PGs_imp (pgs_cons h1 h2 hs) fun vs σ H Q ⟨U, env, ds, env', sa, r, hm, q⟩ => by
    cases ds with
    | nil => cases hm
    | cons d ds =>
      obtain ⟨x, t, rfl, r1, r2⟩ := r
      obtain ⟨e1, h3, h4⟩ := Option.bind_eq_some_iff.mp hm
      exact ⟨x, t, rfl, U, env, d, e1, sa, r1, h3, fun σ' H' a w => ⟨U, e1, ds, env', a.sa, a.reps sa r2, h4, fun σ2 H2 a2 w2 => q σ2 H2 (a.trans a2) (w.trans w2)⟩⟩
theorem eg_unp (c : X.calm = true) (h : EvGs X es is ms) (hn : (assignEach es X.env).length = n := by rfl) (hst : (assignEach es X.env).findIdx? (·.1) = none := by rfl) : EvG X (.Tuple es k pos) is (gUnp n ms) :=
  PG_imp (PG_or (pg_tup c h hn hst) (pg_unl c h hn hst)) fun v σ H Q ⟨U, env, d, env', sa, r, hm, q⟩ => by
    cases d with
    | tup ds =>
      simp only [gUnp, Option.ite_none_right_eq_some] at hm
      obtain ⟨a, xs, rfl, h1, _, r⟩ := r.tup_sq
      exact .inl ⟨a, xs, rfl, .of h1, by rw [r.len]; exact hm.1, U, env, ds, env', sa, r, hm.2, q⟩
    | lst ds =>
      simp only [gUnp, Option.ite_none_right_eq_some] at hm
      obtain ⟨a, xs, rfl, h1, _, r⟩ := r.lst_sq
      exact .inr ⟨a, xs, rfl, .of h1, by rw [r.len]; exact hm.1, U, env, ds, env', sa, r, hm.2, q⟩
    | _ => simp [gUnp] at hm
end
/-! ### assignments, expressions, if, return -/
def mAsg (mg : D → En → Option En) (m : En → Rs D) : En → Rs Fl := fun env => (m env).bind fun d e1 => match mg d e1 with
  | some e2 => .ok .nx e2
  | none => .bad
def mDrop (m : En → Rs D) : En → Rs Fl := fun env => (m env).bind fun _ e1 => .ok .nx e1
def mRet (m : En → Rs D) : En → Rs Fl := fun env => (m env).bind fun d e1 => .ok (.rt d) e1
def mRetN : En → Rs Fl := fun env => .ok (.rt .non) env
def mIf (t : En → Rs Bool) (m n : En → Rs Fl) : En → Rs Fl := fun env => (t env).bind fun b e => match b with
  | true => m e
  | false => n e
def mBad : En → Rs Fl := fun _ => .bad
/-- several names at once -/
def mPar (is : List Nat) (ma : En → Rs (List D)) : En → Rs Fl := fun env => (ma env).bind fun ds e1 => match parS is ds e1 with
  | some e2 => .ok .nx e2
  | none => .bad
where parS : List Nat → List D → En → Option En
  | [], [], e => some e
  | i :: is, d :: ds, e => (gSet i d e).bind (parS is ds)
  | _, _, _ => none
section
variable {X : Cx} {W : WX} {tg e c : Expr} {a b : List Stmt} {st : Stmt} {mg : D → En → Option En} {m : En → Rs D} {t : En → Rs Bool} {ms ns : En → Rs Fl} {pos : Pos}
theorem asg_imp {is : List Nat} {te : TE} {K : PySem.W.Frag} {Dn : Ends} {σ : St} {H : Hp} {U : Addr → Prop} {env : En} (sa : SA K U env σ H) (po : PoS K W U env σ H (mAsg mg m env) Dn) : tAsg (tE K W m) (tGt K is mg) Dn σ H := ⟨U, env, sa, PoS.step po fun v H1 d e1 a r po1 => by
    cases hm : mg d e1 with
    | none => rw [hm] at po1; exact po1.elim
    | some e2 => rw [hm] at po1; exact ⟨U, e1, d, e2, a.sa, r, hm, fun σ' H' a2 _ => po1 σ' H' a2⟩⟩
theorem es_asg {is : List Nat} (he : Ev X W e m) (hg : EvG X tg is mg) (hs : swapsWithSole [tg] e pos.line X.env = pure false := by rfl) (hw : swappedStores [tg] e X.env = pure none := by rfl) (h1 : (assignEach [tg] X.env).map (·.2) = [assign tg X.env] := by rfl) :
    EvS X W (.Assign [tg] e pos) (mAsg mg m) := PS_imp (ps_asg he hg hs hw h1) fun Dn σ H ⟨U, env, sa, po⟩ => asg_imp (te := tE X.K W m) sa po
theorem es_of_set {i : Nat} (h : ∀ te, PE X e te → PS X st (tAsg te (gName i))) (he : Ev X W e m) : EvS X W st (mAsg (gSet i) m) :=
  PS_imp (h _ he) fun Dn σ H ⟨U, env, sa, po⟩ => ⟨U, env, sa, PoS.step po fun v H1 d e1 a r po1 => by
    cases hm : gSet i d e1 with
    | none => rw [hm] at po1; exact po1.elim
    | some e2 => rw [hm] at po1; exact po1 _ _ (gSet_ok a.sa r hm)⟩
theorem es_set {i : Nat} {x : Str} {p : Pos} (he : Ev X W e m) (hN : X.N.Nodup) (hi : X.N[i]? = some x) (hx : Loc X.env.scope x) (hs : swapsWith e (some (.Name x p)) pos.line X.env = pure false := by rfl) (hf : X.fn x = true ∨ X.env.scope.names.lookup x = some .local := by first | exact .inl rfl | exact .inr rfl | assumption) :
    EvS X W (.Assign [.Name x p] e pos) (mAsg (gSet i) m) := es_of_set (fun te h => ps_set hN hi hx h hs hf) he
theorem es_expr (he : Ev X W e m) (hs : swapsWith e none pos.line X.env = pure false := by rfl) : EvS X W (.Expr e pos) (mDrop m) :=
  PS_imp (ps_expr he hs) fun Dn σ H ⟨U, env, sa, po⟩ => ⟨U, env, sa, PoS.step po fun v H1 d e1 a r po1 => po1 σ H1 (.refl a.sa)⟩
theorem es_ret (he : Ev X W e m) : EvS X W (.Return (some e) pos) (mRet m) :=
  PS_imp (ps_ret he) fun Dn σ H ⟨U, env, sa, po⟩ => ⟨U, env, sa, PoS.step po fun v H1 d e1 a r po1 => po1 σ H1 (.refl a.sa) v r⟩
theorem es_retN : EvS X W (.Return none pos) mRetN := PS_imp ps_retN fun Dn σ H ⟨U, env, sa, po⟩ => po σ H (.refl sa) .non rfl
theorem es_if (hc : EvT X W c t) (ha : EvSs X W a ms) (hb : EvSs X W b ns) : EvS X W (.If c a b pos) (mIf t ms ns) :=
  PS_imp (ps_if hc ha hb) fun Dn σ H ⟨U, env, sa, po⟩ => ⟨U, env, sa, PoS.step po fun v H1 d e1 a r po1 => by
    obtain rfl : v = d := r
    cases v with
    | true => exact iteT ⟨U, e1, a.sa, po1⟩
    | false => exact iteF ⟨U, e1, a.sa, po1⟩⟩
theorem es_bad : EvS X W st mBad := PS_imp ps_never fun Dn σ H ⟨U, env, sa, po⟩ => po.elim
def mPass : En → Rs Fl := fun env => .ok .nx env
def mBrk : En → Rs Fl := fun env => .ok .bk env
def mCnt : En → Rs Fl := fun env => .ok .ct env
theorem es_pass : EvS X W (.Pass pos) mPass := PS_imp ps_pass fun Dn σ H ⟨U, env, sa, po⟩ => po σ H (.refl sa)
theorem es_brk : EvS X W (.Break pos) mBrk := PS_imp ps_break fun Dn σ H ⟨U, env, sa, po⟩ => po σ H (.refl sa)
theorem es_cnt : EvS X W (.Continue pos) mCnt := PS_imp ps_continue fun Dn σ H ⟨U, env, sa, po⟩ => po σ H (.refl sa)
theorem es_par2 {i j : Nat} {ma : En → Rs (List D)} {e1 e2 : Expr} (h : ∀ ta, PA X [e1, e2] ta → PS X st (tPar i j ta)) (he : EvN X W [e1, e2] 2 ma) : EvS X W st (mPar [i, j] ma) :=
  PS_imp (h _ he.pa) fun Dn σ H ⟨U, env, sa, po⟩ => ⟨U, env, sa, PoS.step po fun vs H1 ds e1 a r po1 => by
    cases hm : mPar.parS [i, j] ds e1 with
    | none => rw [hm] at po1; exact po1.elim
    | some e2 =>
      rw [hm] at po1
      match ds, hm, r with
      | [d1, d2], hm, ⟨x, _, e, r1, y, _, e', r2, e''⟩ =>
        obtain ⟨e3, h3, hm⟩ := Option.bind_eq_some_iff.mp hm
        obtain ⟨e4, h4, hm⟩ := Option.bind_eq_some_iff.mp hm
        cases hm
        subst e e' e''
        have s1 := gSet_ok a.sa r1 h3
        have s2 := gSet_ok s1.sa (s1.rep a.sa r2) h4
        exact ⟨x, y, rfl, po1 _ _ (s1.trans s2)⟩
      | [], hm, _ => cases hm
      | [d1], hm, _ => simp [mPar.parS] at hm
      | d1 :: d2 :: d3 :: _, hm, _ => simp [mPar.parS] at hm⟩
theorem es_par3 {i j l : Nat} {ma : En → Rs (List D)} {e1 e2 e3 : Expr} (h : ∀ ta, PA X [e1, e2, e3] ta → PS X st (tPar3 i j l ta)) (he : EvN X W [e1, e2, e3] 3 ma) : EvS X W st (mPar [i, j, l] ma) :=
  PS_imp (h _ he.pa) fun Dn σ H ⟨U, env, sa, po⟩ => ⟨U, env, sa, PoS.step po fun vs H1 ds e1 a r po1 => by
    cases hm : mPar.parS [i, j, l] ds e1 with
    | none => rw [hm] at po1; exact po1.elim
    | some e2 =>
      rw [hm] at po1
      match ds, hm, r with
      | [d1, d2, d3], hm, ⟨x, _, e, r1, y, _, e', r2, z, _, e'', r3, e'''⟩ =>
        obtain ⟨e3, h3, hm⟩ := Option.bind_eq_some_iff.mp hm
        obtain ⟨e4, h4, hm⟩ := Option.bind_eq_some_iff.mp hm
        obtain ⟨e5, h5, hm⟩ := Option.bind_eq_some_iff.mp hm
        cases hm
        subst e e' e'' e'''
        have s1 := gSet_ok a.sa r1 h3
        have s2 := gSet_ok s1.sa (s1.rep a.sa r2) h4
        have s3 := gSet_ok s2.sa (s2.rep s1.sa (s1.rep a.sa r3)) h5
        exact ⟨x, y, z, rfl, po1 _ _ ((s1.trans s2).trans s3)⟩
      | [], hm, _ => cases hm
      | [d1], hm, _ => simp [mPar.parS] at hm
      | [d1, d2], hm, _ => simp [mPar.parS] at hm
      | d1 :: d2 :: d3 :: _ :: _, hm, _ => simp [mPar.parS] at hm⟩
end
end Mi

set_option Elab.async false
set_option linter.all false
set_option maxRecDepth 100000
set_option maxHeartbeats 4000000
/-! Mi10: loops; objects of one's own -/
namespace Mi
open PySem PySem.Spec L2
/-! ### what is walked -/
structure ItOk (K : PySem.W.Frag) (U : Addr → Prop) (H : Hp) (ds : List D) (J : It) : Prop where
  stop : ∀ i H2, ds.length ≤ i → (∀ a o, ¬ U a → H a = some o → H2 a = some o) → i = ds.length → J.stop i H2
  go : ∀ i H2, i < ds.length → (∀ a o, ¬ U a → H a = some o → H2 a = some o) → J.go i H2
  yld : ∀ i d H2 H3 x (U' : Addr → Prop), ds[i]? = some d → (∀ a o, ¬ U a → H a = some o → H2 a = some o) → (∀ a o, ¬ U a → H a = some o → ¬ U' a) → Al U' H2 → J.yld i H2 x H3 → Same H2 H3 ∧ Rep K U' H3 d x
def RI (K : PySem.W.Frag) : (Addr → Prop) → St → Hp → List D → It → Prop := fun U _ H ds J => ItOk K U H ds J
abbrev EvI (X : Cx) (W : WX) (tg iter : Expr) (m : En → Rs (List D)) : Prop := PI X tg iter (tM (RI X.K) X.K W m)
theorem PI_imp {X : Cx} {tg e : Expr} {t t' : TI} (h : PI X tg e t) (k : ∀ σ H Q, t' σ H Q → t σ H Q) : PI X tg e t' := ⟨fun pins s σ H Q I q => h.run pins s σ H Q I (k σ H Q q)⟩
def iterD : D → Option (List D)
  | .lst ds => some ds
  | .tup ds => some ds
  | .str z => some (z.cps.toList.map fun c => .str ⟨#[c]⟩)
  | _ => none
def xIter (m : En → Rs D) : En → Rs (List D) := fun env => (m env).bind fun d e => .of (iterD d) e
section
variable {K : PySem.W.Frag} {U : Addr → Prop} {H : Hp} {ds : List D} {xs : List V} {a : Addr}
theorem Reps.at2 (r : Reps K U H ds xs) {i : Nat} {d : D} (h : ds[i]? = some d) {x : V} (hx : xs[i]? = some x) : Rep K U H d x := by
  obtain ⟨y, e, q⟩ := r.get h
  rw [hx] at e
  cases e
  exact q
theorem itok_list (h : H a = some (.lst xs)) (nu : ¬ U a) (r : Reps K U H ds xs) : ItOk K U H ds (Itl K a) where
  stop := fun i H2 hi k e => ⟨xs, .of (k a _ nu h), by rw [r.len]; exact hi⟩
  go := fun i H2 hi k => ⟨xs, xs[i]'(by rw [r.len]; exact hi), .of (k a _ nu h), by simp⟩
  yld := fun i d H2 H3 x U' hd k ku al ⟨e, q⟩ => by
    subst e
    exact ⟨Same.refl _, Rep.to k ku d x (r.at2 hd (q xs (.of (k a _ nu h))))⟩
theorem itok_tup (h : H a = some (.tup xs)) (nu : ¬ U a) (r : Reps K U H ds xs) : ItOk K U H ds (Itt K a) where
  stop := fun i H2 hi k e => ⟨xs, .of (k a _ nu h), by rw [r.len]; exact hi⟩
  go := fun i H2 hi k => ⟨xs, xs[i]'(by rw [r.len]; exact hi), .of (k a _ nu h), by simp⟩
  yld := fun i d H2 H3 x U' hd k ku al ⟨e, q⟩ => by
    subst e
    exact ⟨Same.refl _, Rep.to k ku d x (r.at2 hd (q xs (.of (k a _ nu h))))⟩
theorem itok_str {z : Str} : ItOk K U H (z.cps.toList.map fun c => .str ⟨#[c]⟩) (Its z) where
  stop := fun i H2 hi k e => by show z.cps.size ≤ i; simpa using hi
  go := fun i H2 hi k => by show i < z.cps.size; simpa using hi
  yld := fun i d H2 H3 x U' hd k ku al ⟨e, c, hc, q⟩ => by
    subst e
    refine ⟨Same.refl _, ?_⟩
    rw [List.getElem?_map, Array.getElem?_toList, hc] at hd
    cases hd
    exact q
theorem itok_range {lo : Int} {n : Nat} : ItOk K U H ((List.range n).map fun i => .int (lo + (i : Nat))) (Itr lo n) where
  stop := fun i H2 hi k e => by show n ≤ i; simpa using hi
  go := fun i H2 hi k => by show i < n; simpa using hi
  yld := fun i d H2 H3 x U' hd k ku al ⟨e, q⟩ => by
    subst e
    refine ⟨Same.refl _, ?_⟩
    rw [List.getElem?_map] at hd
    cases h : (List.range n)[i]? with
    | none => rw [h] at hd; cases hd
    | some j =>
      rw [h] at hd
      cases hd
      obtain ⟨hj, e⟩ := List.getElem?_eq_some_iff.mp h
      rw [List.getElem_range] at e
      subst e
      exact q
end
section
variable {X : Cx} {W : WX} {tg e a b : Expr} {es : List Expr} {m n : En → Rs D} {pos p : Pos}
theorem ei_of (h : Ev X W e m) : EvI X W tg e (xIter m) := by
  refine ⟨fun pins s σ H R I ⟨U, env, sa, po⟩ => ?_⟩
  unfold xIter at po
  cases hm : m env with
  | bad => rw [hm] at po; exact po.elim
  | er x e1 => exact (pi_list h).run pins s σ H R I ⟨U, env, sa, by rw [hm] at po ⊢; exact po⟩
  | ok d e1 =>
    cases d with
    | lst ds =>
      refine (pi_list h).run pins s σ H R I ⟨U, env, sa, ?_⟩
      rw [hm] at po ⊢
      intro v H1 a r
      obtain ⟨l, xs, rfl, h1, n1, r⟩ := Rep.lst_sq r
      exact ⟨l, rfl, ⟨xs, .of h1⟩, po _ H1 a (itok_list h1 n1 r)⟩
    | tup ds =>
      refine (pi_tup h).run pins s σ H R I ⟨U, env, sa, ?_⟩
      rw [hm] at po ⊢
      intro v H1 a r
      obtain ⟨l, xs, rfl, h1, n1, r⟩ := Rep.tup_sq r
      exact ⟨l, rfl, ⟨xs, .of h1⟩, po _ H1 a (itok_tup h1 n1 r)⟩
    | str z =>
      refine (pi_str h).run pins s σ H R I ⟨U, env, sa, ?_⟩
      rw [hm] at po ⊢
      intro v H1 a r
      exact ⟨z, r, po _ H1 a itok_str⟩
    | _ => rw [hm] at po; exact po.elim
def rngD (lo hi : Int) : Option (List D) := if lo.natAbs ≤ 1000000000 ∧ hi.natAbs ≤ 1000000000 then some ((List.range (hi - lo).toNat).map fun i => .int (lo + (i : Nat))) else none
def xRng1 (ma : En → Rs (List D)) : En → Rs (List D) := fun env => (ma env).bind fun ds e => match ds with
  | [.int j] => .of (rngD 0 j) e
  | _ => .bad
def xRng2 (ma : En → Rs (List D)) : En → Rs (List D) := fun env => (ma env).bind fun ds e => match ds with
  | [.int i, .int j] => .of (rngD i j) e
  | _ => .bad
theorem ei_rng1 {ma : En → Rs (List D)} (hg : Gl X "range") (hm : X.mg "range" = none) (ha : EvN X W [a] 1 ma) (hs : starEach [a] X.env = [(false, eval a X.env)] := by rfl) : EvI X W tg (.Call (.Name "range" p) [a] [] pos) (xRng1 ma) :=
  PI_imp (pi_range1 hg hm ha.pa hs) fun σ H Q ⟨U, env, sa, po⟩ => ⟨U, env, sa, Po.step po fun vs H1 ds e1 a r po1 => by
    match ds, r, po1 with
    | [.int j], ⟨x, _, e, r1, e'⟩, po1 =>
      subst e e'
      simp only [rngD] at po1
      by_cases h : (0 : Int).natAbs ≤ 1000000000 ∧ j.natAbs ≤ 1000000000
      · rw [if_pos h] at po1
        refine ⟨j, by rw [show x = _ from r1], by omega, by omega, po1 _ H1 (.refl a.sa) ?_⟩
        have := itok_range (K := X.K) (U := Ux U e1 σ) (H := H1) (lo := 0) (n := j.toNat)
        show ItOk _ _ _ _ _
        simpa using this
      · rw [if_neg h] at po1
        exact po1.elim
    | [], _, po1 => exact po1.elim
    | .non :: _, _, po1 => exact po1.elim
    | .bl _ :: _, _, po1 => exact po1.elim
    | .str _ :: _, _, po1 => exact po1.elim
    | .tup _ :: _, _, po1 => exact po1.elim
    | .lst _ :: _, _, po1 => exact po1.elim
    | .dct _ _ _ :: _, _, po1 => exact po1.elim
    | .obj _ _ _ :: _, _, po1 => exact po1.elim
    | .fz _ :: _, _, po1 => exact po1.elim
    | .int _ :: _ :: _, _, po1 => exact po1.elim⟩
theorem ei_rng2 {ma : En → Rs (List D)} (hg : Gl X "range") (hm : X.mg "range" = none) (ha : EvN X W [a, b] 2 ma) (hs : starEach [a, b] X.env = [(false, eval a X.env), (false, eval b X.env)] := by rfl) (hs2 : starEach [b] X.env = [(false, eval b X.env)] := by rfl) :
    EvI X W tg (.Call (.Name "range" p) [a, b] [] pos) (xRng2 ma) :=
  PI_imp (pi_range2 hg hm ha.pa hs hs2) fun σ H Q ⟨U, env, sa, po⟩ => ⟨U, env, sa, by
    unfold xRng2 at po
    cases hm : ma env with
    | bad => rw [hm] at po; exact po
    | er x e => rw [hm] at po; exact po
    | ok ds e1 =>
      rw [hm] at po
      intro vs H1 a r
      have r : Reps X.K (Ux U e1 σ) H1 ds vs := r
      have hl := ha.len _ _ _ hm
      match ds, hl, r, po with
      | [d1, d2], _, ⟨x, _, e, r1, y, _, e', r2, e''⟩, po =>
        subst e e' e''
        cases d1 with
        | int i =>
          cases d2 with
          | int j =>
            simp only [Rs.bind_ok, rngD] at po
            by_cases h : i.natAbs ≤ 1000000000 ∧ j.natAbs ≤ 1000000000
            · rw [if_pos h] at po
              exact ⟨i, j, by rw [show x = _ from r1, show y = _ from r2], by omega, po _ H1 a itok_range⟩
            · rw [if_neg h] at po
              exact po.elim
          | _ => exact po.elim
        | _ => exact po.elim⟩
end
/-! ### for -/
def forL (mg : D → En → Option En) (mb : En → Rs Fl) : List D → En → Rs Fl
  | [], e => .ok .nx e
  | d :: r, e => match mg d e with
    | none => .bad
    | some e2 => match mb e2 with
      | .ok .nx e3 => forL mg mb r e3
      | .ok .ct e3 => forL mg mb r e3
      | .ok .bk e3 => .ok .nx e3
      | .ok (.rt d) e3 => .ok (.rt d) e3
      | .er x e3 => .er x e3
      | .bad => .bad
def mFor (mi : En → Rs (List D)) (mg : D → En → Option En) (mb : En → Rs Fl) : En → Rs Fl := fun env => (mi env).bind fun ds e1 => forL mg mb ds e1
section
variable {X : Cx} {W : WX} {tg iter : Expr} {body : List Stmt} {mi : En → Rs (List D)} {is : List Nat} {mg : D → En → Option En} {mb : En → Rs Fl} {pos : Pos}
theorem es_for (hp : PassesOwn (model X.prog X.w) X.A X.env X.xe) (hc : X.calm = true) (hi : EvI X W tg iter mi) (hg : EvG X tg is mg) (hb : EvSs X W body mb) (hs : ∀ x, foldedSetIterable iter X.env x = pure x := by intro _; rfl) :
    EvS X W (.For tg iter body [] pos) (mFor mi mg mb) :=
  PS_imp (ps_for hp hc hi hg hb hs) fun Dn σ H ⟨U, env, sa, po⟩ => ⟨U, env, sa, PoS.step po fun J H1 ds e1 a it po1 => by
    have it : ItOk X.K (Ux U e1 σ) H1 ds J := it
    refine ⟨fun i m σ' H' => m = ds.length - i ∧ i ≤ ds.length ∧ ∃ e, Ste X.K U e1 σ H1 e σ' H' ∧ PoS X.K W U e σ' H' (forL mg mb (ds.drop i) e) Dn, ⟨ds.length, by simp, Nat.zero_le _, e1, .refl a.sa, po1⟩, ?_⟩
    rintro i m σ' H' ⟨rfl, hi, e, st, po2⟩
    have kp : ∀ a o, ¬ Ux U e1 σ a → H1 a = some o → H' a = some o := fun a o n h => st.gr a o (fun c => n (.inr c)) h
    by_cases hlt : i < ds.length
    · refine .inr ⟨it.go i H' hlt kp, fun σ2 H2 => ∃ e2, Ste X.K U e1 σ H1 e2 σ2 H2 ∧ PoS X.K W U e2 σ2 H2 (forL mg mb (ds.drop (i + 1)) e2) Dn, fun σ2 H2 ⟨e2, h1, h2⟩ => ⟨ds.length - (i + 1), by omega, rfl, hlt, e2, h1, h2⟩, fun x H2 y => ?_⟩
      have hd : ds[i]? = some ds[i] := by simp [hlt]
      have ku : ∀ a o, ¬ Ux U e1 σ a → H1 a = some o → ¬ Ux U e σ' a := fun a o n h q => q.elim (fun z => n (.inl z)) fun c => (st.fr a c).elim (fun z => n (.inr z)) fun z => by rw [h] at z; cases z
      obtain ⟨sm, rx⟩ := it.yld i _ H' H2 x (Ux U e σ') hd kp ku st.sa.alU y
      have st2 := st.same sm
      have po3 := PoS.shift ((Ste.refl st.sa).same sm) po2
      rw [List.drop_eq_getElem_cons hlt] at po3
      simp only [forL] at po3
      cases hg : mg ds[i] e with
      | none => simp only [hg] at po3; exact po3.elim
      | some e2 =>
        simp only [hg] at po3
        refine ⟨U, e, ds[i], e2, st2.sa, rx, hg, fun σ3 H3 s3 _ => ⟨U, e2, s3.sa, ?_⟩⟩
        have st3 := st2.trans s3
        cases hb : mb e2 with
        | bad => simp only [hb] at po3; exact po3.elim
        | er x e3 => simp only [hb] at po3; exact PoS.shift s3 po3
        | ok fl e3 =>
          simp only [hb] at po3
          cases fl with
          | nx => exact fun σ4 H4 s4 => ⟨e3, st3.trans s4, PoS.shift (s3.trans s4) po3⟩
          | ct => exact fun σ4 H4 s4 => ⟨e3, st3.trans s4, PoS.shift (s3.trans s4) po3⟩
          | bk => exact PoS.shift s3 po3
          | rt d => exact PoS.shift s3 po3
    · have e : i = ds.length := by omega
      subst e
      refine .inl ⟨it.stop _ H' (Nat.le_refl _) kp rfl, ?_⟩
      rw [List.drop_length] at po2
      exact po2 σ' H' (.refl st.sa)⟩
end
/-! ### while -/
def whileL (mt : En → Rs Bool) (mb : En → Rs Fl) : Nat → En → Rs Fl
  | 0, _ => .bad
  | n + 1, e => (mt e).bind fun b e1 => match b with
    | false => .ok .nx e1
    | true => match mb e1 with
      | .ok .nx e3 => whileL mt mb n e3
      | .ok .ct e3 => whileL mt mb n e3
      | .ok .bk e3 => .ok .nx e3
      | .ok (.rt d) e3 => .ok (.rt d) e3
      | .er x e3 => .er x e3
      | .bad => .bad
/-- n: more turns than are ever taken -/
def mWhile (n : Nat) (mt : En → Rs Bool) (mb : En → Rs Fl) : En → Rs Fl := fun env => whileL mt mb n env
theorem es_while {X : Cx} {W : WX} {c : Expr} {body : List Stmt} {mt : En → Rs Bool} {mb : En → Rs Fl} {n : Nat} {pos : Pos} (hp : PassesOwn (model X.prog X.w) X.A X.env X.xe) (hc : EvT X W c mt) (hb : EvSs X W body mb) :
    EvS X W (.While c body [] pos) (mWhile n mt mb) :=
  PS_imp (ps_while hp hc hb) fun Dn σ H ⟨U, env, sa, po⟩ => by
    refine ⟨fun m σ' H' => ∃ e, Ste X.K U env σ H e σ' H' ∧ PoS X.K W U e σ' H' (whileL mt mb m e) Dn, ⟨n, env, .refl sa, po⟩, ?_⟩
    rintro m σ' H' ⟨e, st, po1⟩
    cases m with
    | zero => exact po1.elim
    | succ m =>
      refine ⟨U, e, st.sa, PoS.step po1 fun v H1 b e1 a r po2 => ?_⟩
      obtain rfl : v = b := r
      have st1 := st.trans a
      cases v with
      | false => exact iteF (po2 σ' H1 (.refl a.sa))
      | true =>
        refine iteT ⟨fun σ2 H2 => ∃ e2, Ste X.K U env σ H e2 σ2 H2 ∧ PoS X.K W U e2 σ2 H2 (whileL mt mb m e2) Dn, fun σ2 H2 h => ⟨m, Nat.lt_succ_self m, h⟩, U, e1, a.sa, ?_⟩
        simp only at po2
        cases hb : mb e1 with
        | bad => simp only [hb] at po2; exact po2.elim
        | er x e3 => simp only [hb] at po2; exact po2
        | ok fl e3 =>
          simp only [hb] at po2
          cases fl with
          | nx => exact fun σ4 H4 s4 => ⟨e3, st1.trans s4, PoS.shift s4 po2⟩
          | ct => exact fun σ4 H4 s4 => ⟨e3, st1.trans s4, PoS.shift s4 po2⟩
          | bk => exact po2
          | rt d => exact po2
end Mi

set_option Elab.async false
set_option linter.all false
set_option maxRecDepth 100000
set_option maxHeartbeats 4000000
/-! Mi11: reading what names hold by themselves; new objects; lists made by comprehensions -/
namespace Mi
open PySem PySem.Spec L2
/-! ### reading without taking -/
def tP (K : PySem.W.Frag) (mp : En → Option D) : TE := fun σ H Q => ∃ U env d, SA K U env σ H ∧ mp env = some d ∧ ∀ v H', Same H H' → Rep K U H' d v → Q v H'
def tPs (K : PySem.W.Frag) (mp : En → Option (List D)) : TA := fun σ H Q => ∃ U env d, SA K U env σ H ∧ mp env = some d ∧ ∀ v H', Same H H' → Reps K U H' d v → Q v H'
abbrev EvP (X : Cx) (e : Expr) (mp : En → Option D) : Prop := PE X e (tP X.K mp)
abbrev EvPs (X : Cx) (es : List Expr) (mp : En → Option (List D)) : Prop := PA X es (tPs X.K mp)
def pVar (i : Nat) : En → Option D := fun env => match env[i]? with
  | some (.v d) => some d
  | some (.ow o) => some o.val
  | some (.io o) => some o.val
  | _ => none
def pC (d : D) : En → Option D := fun _ => some d
def p1 (g : D → Option D) (m : En → Option D) : En → Option D := fun env => (m env).bind g
def p2 (g : D → D → Option D) (m n : En → Option D) : En → Option D := fun env => (m env).bind fun d => (n env).bind fun e => g d e
def psNil : En → Option (List D) := fun _ => some []
def psCons (m : En → Option D) (ms : En → Option (List D)) : En → Option (List D) := fun env => (m env).bind fun d => (ms env).map fun r => d :: r
def pN (g : List D → Option D) (ms : En → Option (List D)) : En → Option D := fun env => (ms env).bind g
/-- its value, when it is flat -/
def xBor (mp : En → Option D) : En → Rs D := fun env => match mp env with
  | some d => if isFlat d = true then .ok d env else .bad
  | none => .bad
theorem flat_any {K : PySem.W.Frag} {U U' : Addr → Prop} {H H' : Hp} {d : D} {v : V} (h : isFlat d = true) (r : Rep K U H d v) : Rep K U' H' d v := by
  cases d <;> simp [isFlat] at h <;> exact r
section
variable {X : Cx} {W : WX} {e a b : Expr} {es : List Expr} {mp m n : En → Option D} {ms : En → Option (List D)} {pos : Pos} {k : Nat}
theorem ev_bor (h : EvP X e mp) : Ev X W e (xBor mp) :=
  PE_imp h fun σ H Q ⟨U, env, sa, po⟩ => by
    unfold xBor at po
    cases hm : mp env with
    | none => rw [hm] at po; exact po.elim
    | some d =>
      simp only [hm] at po
      by_cases hf : isFlat d = true
      · rw [if_pos hf] at po
        exact ⟨U, env, d, sa, hm, fun v H' s r => Po.of_ok (R2 := RD X.K) po sa s (flat_any hf r)⟩
      · rw [if_neg hf] at po; exact po.elim
theorem SA.held {K : PySem.W.Frag} {U : Addr → Prop} {env : En} {σ : St} {H : Hp} {i : Nat} {s : Sl} {o : Ob} (sa : SA K U env σ H) (h1 : env[i]? = some s) (h2 : s.ob = some o) : ∃ p, σ[i]? = some (some (V.ref p)) ∧ Rep K U H o.val (.ref p) := by
  obtain ⟨p, e, r⟩ := sa.ob i s o h1 h2
  have nu := sa.nu p ⟨i, s, o, h1, h2, e⟩
  have r := RepO.to (K := K) (U' := U) (fun _ _ _ q => q) (fun x o n _ q => n (.inl q)) (fun _ q => q) r
  refine ⟨p, e, ?_⟩
  cases o with
  | lst ds => obtain ⟨xs, e, r⟩ := r; exact ⟨p, xs, rfl, ⟨e, nu⟩, r⟩
  | dct t ks ds => obtain ⟨xs, e, r⟩ := r; exact ⟨p, xs, rfl, nu, e, r⟩
  | ins c ns ds => obtain ⟨dx, xs, e, l, r⟩ := r; exact ⟨p, dx, xs, rfl, nu, e, l, r⟩
theorem ep_var {i : Nat} (h : PE X e (tVar i)) : EvP X e (pVar i) :=
  PE_imp h fun σ H Q ⟨U, env, d, sa, hm, q⟩ => by
    unfold pVar at hm
    cases hi : env[i]? with
    | none => rw [hi] at hm; cases hm
    | some s =>
      rw [hi] at hm
      cases s with
      | un => cases hm
      | v d' =>
        cases hm
        obtain ⟨v, e1, r⟩ := sa.val i d hi
        exact ⟨v, e1, q v H (Same.refl H) (Rep.to (fun _ _ _ q => q) (fun x o n _ q => n (.inl q)) d v r)⟩
      | ow o =>
        cases hm
        obtain ⟨p, e1, r⟩ := sa.held hi rfl
        exact ⟨_, e1, q _ H (Same.refl H) r⟩
      | io o =>
        cases hm
        obtain ⟨p, e1, r⟩ := sa.held hi rfl
        exact ⟨_, e1, q _ H (Same.refl H) r⟩
theorem ep_c {d : D} {v : V} (h : PE X e (tC v)) (hd : flatD d = some v) : EvP X e (pC d) :=
  PE_imp h fun σ H Q ⟨U, env, d', sa, hm, q⟩ => by cases hm; exact q v H (Same.refl H) (flat_rep hd)
theorem p2_imp {g : D → D → Option D} {r : R2} (hs : Snd2 X.K g r) {σ : St} {H : Hp} {Q : VK} (h : tP X.K (p2 g m n) σ H Q) : tP X.K m σ H fun x H1 => tP X.K n σ H1 fun y H2 => r x y H2 Q := by
  obtain ⟨U, env, d, sa, hm, q⟩ := h
  obtain ⟨d1, h1, hm⟩ := Option.bind_eq_some_iff.mp hm
  obtain ⟨d2, h2, hm⟩ := Option.bind_eq_some_iff.mp hm
  refine ⟨U, env, d1, sa, h1, fun x H1 s1 r1 => ⟨U, env, d2, sa.same s1, h2, fun y H2 s2 r2 => ?_⟩⟩
  exact hs U H2 x y d1 d2 d Q ((sa.same s1).same s2).al (r1.same s2) r2 hm fun v H' s r => q v H' ((s1.trans s2).trans s) r
theorem ep_op {op : Operator} {g : D → D → Option D} {r : R2} (ho : OpR X (binaryOp op) r) (hs : Snd2 X.K g r) (ha : EvP X a m) (hb : EvP X b n) : EvP X (.BinOp a op b pos) (p2 g m n) :=
  PE_imp (pe_op ho ha hb) fun σ H Q h => p2_imp hs h
theorem ep_cmp {op : CmpOp} {g : D → D → Option D} {r : R2} (ho : OpR X (compareOp op) r) (hs : Snd2 X.K g r) (ha : EvP X a m) (hb : EvP X b n) (hm : behindInMarks op b = false) : EvP X (.Compare a [op] [b] pos) (p2 g m n) :=
  PE_imp (pe_cmpR ho ha hb hm) fun σ H Q h => p2_imp hs h
/-- a truth, without taking -/
def tP1 (mp : En → Option D) : En → Rs Bool := fun env => .of ((mp env).bind isBl) env
theorem et_pcmp {op : CmpOp} {g : D → D → Option D} {r : R2} (ho : OpR X (compareOp op) r) (hs : Snd2 X.K g r) (ha : EvP X a m) (hb : EvP X b n) (hm : behindInMarks op b = false) : EvT X W (.Compare a [op] [b] pos) (tP1 (p2 g m n)) :=
  PT_imp (pt_cmpR ho ha hb hm) fun σ H Q ⟨U, env, sa, po⟩ => p2_imp hs (by
    unfold tP1 at po
    cases hm : p2 g m n env with
    | none => rw [hm] at po; exact po.elim
    | some d =>
      simp only [hm, Option.bind_some] at po
      cases hb : isBl d with
      | none => rw [hb] at po; exact po.elim
      | some b =>
        rw [hb] at po
        exact ⟨U, env, d, sa, hm, fun v H' s r => ⟨b, isBl_rep hb r, Po.of_ok (R2 := RB) po sa s rfl⟩⟩)
theorem ep_un {op : UnaryOp} {g : D → Option D} {r : V → Hp → VK → Prop} (ho : UnR X (unaryOp op) r) (hs : Snd1 X.K g r) (ha : EvP X a m) : EvP X (.UnaryOp op a pos) (p1 g m) :=
  PE_imp (pe_un ho ha) fun σ H Q ⟨U, env, d, sa, hm, q⟩ => by
    obtain ⟨d1, h1, hm⟩ := Option.bind_eq_some_iff.mp hm
    exact ⟨U, env, d1, sa, h1, fun x H1 s1 r1 => hs U H1 x d1 d Q (sa.same s1).al r1 hm fun v H' s r => q v H' (s1.trans s) r⟩
theorem ep_ix (c : Co X k) (ha : EvP X a m) (hb : EvP X b n) (hs : PlainIx b := by exact fun _ _ => rfl) : EvP X (.Subscript a b pos) (p2 gIx m n) :=
  PE_imp (pe_ix (ix_m (hu_of c.hr)) ha hb hs) fun σ H Q h => p2_imp s_ix h
theorem eps_nil : EvPs X [] psNil := PA_imp pa_nil fun σ H Q ⟨U, env, d, sa, hm, q⟩ => by cases hm; exact q [] H (Same.refl H) rfl
theorem eps_cons (h1 : EvP X e m) (h2 : EvPs X es ms) (hs : starEach (e :: es) X.env = (false, eval e X.env) :: starEach es X.env := by rfl) : EvPs X (e :: es) (psCons m ms) :=
  PA_imp (pa_cons h1 h2 hs) fun σ H Q ⟨U, env, d, sa, hm, q⟩ => by
    obtain ⟨d1, e1, hm⟩ := Option.bind_eq_some_iff.mp hm
    obtain ⟨d2, e2, rfl⟩ := Option.map_eq_some_iff.mp hm
    exact ⟨U, env, d1, sa, e1, fun x H1 s1 r1 => ⟨U, env, d2, sa.same s1, e2, fun xs H2 s2 r2 => q _ _ (s1.trans s2) ⟨x, xs, rfl, r1.same s2, r2⟩⟩⟩
theorem ep_n {g : List D → Option D} {r : List V → Hp → VK → Prop} (hs : SndN X.K g r) (h : PE X e (tCB r (tPs X.K ms))) : EvP X e (pN g ms) :=
  PE_imp h fun σ H Q ⟨U, env, d, sa, hm, q⟩ => by
    obtain ⟨d1, e1, hm⟩ := Option.bind_eq_some_iff.mp hm
    exact ⟨U, env, d1, sa, e1, fun xs H1 s1 r1 => hs U H1 xs d1 d Q (sa.same s1).al r1 hm fun v H' s r => q v H' (s1.trans s) r⟩
end
/-! ### new objects -/
def PoN (K : PySem.W.Frag) (W : WX) (U : Addr → Prop) (env : En) (σ : St) (H : Hp) (r : Rs Ob) (Q : VK) : Prop := match r with
  | .ok o env' => ∀ p H', Fre K U env σ H env' H' o p → Q (.ref p) H'
  | .er x env' => ∀ cls dd H', Ste K U env σ H env' σ H' → ExR K (Ux U env' σ) H' x cls dd → W cls dd σ H'
  | .bad => False
def tN (K : PySem.W.Frag) (W : WX) (m : En → Rs Ob) : TE := fun σ H Q => ∃ U env, SA K U env σ H ∧ PoN K W U env σ H (m env) Q
abbrev EvF (X : Cx) (W : WX) (e : Expr) (m : En → Rs Ob) : Prop := PE X e (tN X.K W m)
def xVal (m : En → Rs Ob) : En → Rs D := fun env => (m env).bind fun o e => .ok o.val e
/-- a name holds it -/
def mOw (i : Nat) (m : En → Rs Ob) : En → Rs Fl := fun env => (m env).bind fun o e => match e[i]? with
  | some (.io _) => .bad
  | some _ => .ok .nx (e.set i (.ow o))
  | none => .bad
section
variable {K : PySem.W.Frag} {U : Addr → Prop} {env env1 : En} {σ : St} {H H1 : Hp}
theorem Fre.new {o : Ob} {p : Addr} {ho : HO} (sa : SA K U env σ H) (hp : H p = none) (r : RepO K (Ux (Up U p) env σ) (upd H p ho) o p) : Fre K U env σ H env (upd H p ho) o p where
  nw := .inr hp
  nu := fun h => by obtain ⟨u, e⟩ := sa.al p h; rw [hp] at e; cases e
  sa := by
    have s : Same H (upd H p ho) := same_new hp
    have s1 := sa.same s
    have nc : ∀ a, Chg env σ a → a ≠ p := fun a c e => by
      obtain ⟨u, q⟩ := sa.alx (.inr c)
      rw [e, hp] at q
      cases q
    refine ⟨sa.len, fun a h => ?_, fun a c h => h.elim (sa.nu a c) (nc a c), sa.inj, fun i d h => ?_, fun i t q h1 h2 => ?_⟩
    · rcases h with h | h
      · exact s1.al a h
      · exact ⟨ho, by rw [h]; exact upd_same⟩
    · obtain ⟨v, e, r⟩ := sa.val i d h
      exact ⟨v, e, Rep.to (fun a o _ q => s a o q) (fun x o n hx q => (ux_up.mp q).elim n fun z => by rw [z, hp] at hx; cases hx) d v r⟩
    · obtain ⟨a, e, r⟩ := sa.ob i t q h1 h2
      exact ⟨a, e, RepO.to (fun a o _ q => s a o q) (fun x o n hx q => (ux_up.mp q).elim n fun z => by rw [z, hp] at hx; cases hx) (fun o q => s a o q) r⟩
  gr := .of_same (same_new hp)
  fr := fun a c => .inl c
  io := fun i o h => ⟨o, h⟩
  ob := r
theorem Fre.pre {env2 : En} {H2 : Hp} {o : Ob} {p : Addr} (a : Ste K U env σ H env1 σ H1) (f : Fre K U env1 σ H1 env2 H2 o p) : Fre K U env σ H env2 H2 o p where
  nw := by
    by_cases n : Chg env σ p
    · exact .inl n
    · refine .inr ?_
      rcases f.nw with q | q
      · exact (a.fr p q).elim (fun z => absurd z n) id
      · cases e : H p with
        | none => rfl
        | some u =>
          rw [a.gr p u n e] at q
          cases q
  nu := f.nu
  sa := f.sa
  gr := fun x o n h => f.gr x o (fun c => (a.fr x c).elim n fun z => by rw [h] at z; cases z) (a.gr x o n h)
  fr := fun x c => by
    rcases f.fr x c with q | q
    · exact a.fr x q
    · by_cases n : Chg env σ x
      · exact .inl n
      · refine .inr ?_
        cases e : H x with
        | none => rfl
        | some o =>
          rw [a.gr x o n e] at q
          cases q
  io := fun i o h => by
    obtain ⟨o1, h1, _⟩ := a.io i o h
    exact f.io i o1 h1
  ob := f.ob
theorem PoN.shift {W : WX} {r : Rs Ob} {Q : VK} (a : Ste K U env σ H env1 σ H1) (h : PoN K W U env σ H r Q) : PoN K W U env1 σ H1 r Q := by
  cases r with
  | ok d e => exact fun p H' f => h p H' (f.pre a)
  | er x e => exact fun c d H' b q => h c d H' (a.trans b) q
  | bad => exact h
/-- a value's part, then the new object -/
theorem PoN.step {α β : Type} {W : WX} {R1 : (Addr → Prop) → St → Hp → α → β → Prop} {r : Rs α} {f : α → En → Rs Ob} {Q : VK} {Q1 : β → Hp → Prop} (h : PoN K W U env σ H (r.bind f) Q)
    (k : ∀ v H1 d env1, Ste K U env σ H env1 σ H1 → R1 (Ux U env1 σ) σ H1 d v → PoN K W U env1 σ H1 (f d env1) Q → Q1 v H1) : Po R1 K W U env σ H r Q1 := by
  cases r with
  | ok d e => exact fun v H' a q => k v H' d e a q (PoN.shift a h)
  | er x e => exact h
  | bad => exact h
end
section
variable {X : Cx} {W : WX} {e : Expr} {es : List Expr} {mo : En → Rs Ob} {ma : En → Rs (List D)} {n k : Nat} {pos : Pos}
theorem ev_new (h : EvF X W e mo) : Ev X W e (xVal mo) :=
  PE_imp h fun σ H Q ⟨U, env, sa, po⟩ => ⟨U, env, sa, by
    unfold xVal at po
    cases hm : mo env with
    | bad => rw [hm] at po; exact po
    | er x e => rw [hm] at po; exact po
    | ok o e1 =>
      rw [hm] at po
      intro p H' f
      obtain ⟨s, r⟩ := f.ste sa
      exact po _ _ s r⟩
def fLst (ma : En → Rs (List D)) : En → Rs Ob := fun env => (ma env).bind fun ds e => .ok (.lst ds) e
theorem ef_lst (h : EvN X W es n ma) (hn : n ≤ sizeLine := by decide) : EvF X W (.List es pos) (fLst ma) :=
  PE_imp (pe_lst h.pa) fun σ H Q ⟨U, env, sa, po⟩ => ⟨U, env, sa, by
    unfold fLst at po
    cases hm : ma env with
    | bad => rw [hm] at po; exact po
    | er x e => rw [hm] at po; exact po
    | ok ds e =>
      rw [hm] at po
      intro v H1 a r
      refine ⟨by rw [Reps.len r, h.len _ _ _ hm]; exact hn, fun p hp => ?_⟩
      refine po _ _ ((Fre.new (o := .lst ds) a.sa hp ⟨v, upd_same, ?_⟩).pre a)
      exact Reps.to (fun b o _ q => same_new hp b o q) (fun x o n hx q => (ux_up.mp q).elim n fun z => by rw [z, hp] at hx; cases hx) _ _ r⟩
/-- {}; t: its keys are to be tuples -/
def fDict (t : Bool) : En → Rs Ob := fun env => .ok (.dct t [] []) env
theorem ef_dictK : EvF X W (.Dict [] [] pos) (fDict false) :=
  PE_imp pe_dnewK fun σ H Q ⟨U, env, sa, po⟩ p hp => po _ _ (Fre.new (o := .dct _ [] []) sa hp ⟨[], ⟨[], upd_same, rfl, rfl⟩, rfl⟩)
theorem ef_dictT : EvF X W (.Dict [] [] pos) (fDict true) :=
  PE_imp pe_dnewT fun σ H Q ⟨U, env, sa, po⟩ p hp => po _ _ (Fre.new (o := .dct _ [] []) sa hp ⟨[], ⟨[], upd_same, rfl, rfl⟩, rfl⟩)
/-- name = a new object -/
theorem es_ow {i : Nat} {st : Stmt} (h : ∀ te, PE X e te → PS X st (tAsg te (gName i))) (hf : EvF X W e mo) : EvS X W st (mOw i mo) :=
  PS_imp (h _ hf) fun Dn σ H ⟨U, env, sa, po⟩ => ⟨U, env, sa, by
    unfold mOw at po
    cases hm : mo env with
    | bad => rw [hm] at po; exact po
    | er x e1 => rw [hm] at po; exact fun c d H' a q => po c d σ H' a q
    | ok o e1 =>
      rw [hm] at po
      simp only [Rs.bind_ok] at po
      intro p H' f
      cases hi : e1[i]? with
      | none => simp only [hi] at po; exact po.elim
      | some s =>
        simp only [hi] at po
        have hl := (List.getElem?_eq_some_iff.mp hi).1
        cases s with
        | io o' => exact po.elim
        | un => exact po _ _ (f.own sa hl fun o q => by rw [hi] at q; cases q)
        | v d => exact po _ _ (f.own sa hl fun o q => by rw [hi] at q; cases q)
        | ow d => exact po _ _ (f.own sa hl fun o q => by rw [hi] at q; cases q)⟩
end
end Mi

set_option Elab.async false
set_option linter.all false
set_option maxRecDepth 100000
set_option maxHeartbeats 4000000
/-! Mi12: what a name holds by itself is changed -/
namespace Mi
open PySem PySem.Spec L2
/-- a method on the own object: its result and the object behind it -/
def Mut (K : PySem.W.Frag) (g : Ob → List D → Option (D × Ob)) (r : V → List V → Hp → VK → Prop) : Prop :=
  ∀ (U : Addr → Prop) (H : Hp) (a : Addr) (o : Ob) (ds : List D) (xs : List V) (z : D) (o' : Ob) (Q : VK), Al U H → U a → RepO K U H o a → Reps K U H ds xs → g o ds = some (z, o') →
    (∀ v ho, Rep K U (upd H a ho) z v → RepO K U (upd H a ho) o' a → Q v (upd H a ho)) → r (.ref a) xs H Q
def mutAt (i : Nat) (g : Ob → Option (D × Ob)) (env : En) : Rs D := match env[i]? with
  | some s => match s.ob with
    | some o => match g o with
      | some (z, o') => .ok z (env.set i (s.put o'))
      | none => .bad
    | none => .bad
  | none => .bad
def isLstAt (i : Nat) (env : En) : Bool := match (env[i]?).bind Sl.ob with
  | some (.lst _) => true
  | _ => false
def xMeth (i : Nat) (g : Ob → List D → Option (D × Ob)) (ma : En → Rs (List D)) : En → Rs D := fun env => if isLstAt i env = true then (ma env).bind fun ds e => mutAt i (fun o => g o ds) e else .bad
section
variable {K : PySem.W.Frag} {W : WX} {U : Addr → Prop} {env : En} {σ : St} {H : Hp}
theorem keepU {a : Addr} {ho : HO} (h : Ux U env σ a) : ∀ b u, ¬ Ux U env σ b → H b = some u → upd H a ho b = some u := fun b u n e => by
  rw [upd_ne (fun z => n (by rw [z]; exact h))]
  exact e
theorem Ste.write2 {i : Nat} {s : Sl} {o o' : Ob} {a : Addr} {ho : HO} (sa : SA K U env σ H) (h1 : env[i]? = some s) (h2 : s.ob = some o) (ha : σ[i]? = some (some (V.ref a))) (r : RepO K (Ux U env σ) (upd H a ho) o' a) :
    Ste K U env σ H (env.set i (s.put o')) σ (upd H a ho) ∧ ∀ d v, Rep K (Ux U env σ) (upd H a ho) d v → Rep K (Ux U (env.set i (s.put o')) σ) (upd H a ho) d v := by
  have ca : Ux U env σ a := .inr ⟨i, s, o, h1, h2, ha⟩
  have st : Ste K U env σ H (env.set i (s.put o')) σ (upd H a ho) := Ste.write sa h1 h2 ha fun H' k e => by
    refine RepO.to (fun b u n q => ?_) (fun _ _ n _ => n) (fun u q => ?_) r
    · rw [upd_ne (fun z => n (by rw [z]; exact ca))] at q
      exact k b u n q
    · rw [upd_same] at q
      rw [← q]
      exact e
  refine ⟨st, fun d v r => Rep.to (fun _ _ _ q => q) (fun x u n q z => ?_) d v r⟩
  rcases z with z | z
  · exact n (.inl z)
  · rcases st.fr x z with z | z
    · exact n (.inr z)
    · rw [upd_ne (fun e => n (by rw [e]; exact ca)), z] at q
      cases q
theorem mutAt_ok {i : Nat} {g : Ob → List D → Option (D × Ob)} {r : V → List V → Hp → VK → Prop} {ds : List D} {xs : List V} {Q : VK} {a : Addr} (hg : Mut K g r) (sa : SA K U env σ H) (ra : Reps K (Ux U env σ) H ds xs) (ha : σ[i]? = some (some (.ref a)))
    (po : Po (RD K) K W U env σ H (mutAt i (fun o => g o ds) env) Q) : r (.ref a) xs H Q := by
  unfold mutAt at po
  cases hi : env[i]? with
  | none => rw [hi] at po; exact po.elim
  | some s =>
    simp only [hi] at po
    cases ho : s.ob with
    | none => simp only [ho] at po; exact po.elim
    | some o =>
      simp only [ho] at po
      cases hz : g o ds with
      | none => simp only [hz] at po; exact po.elim
      | some p =>
        obtain ⟨z, o'⟩ := p
        simp only [hz] at po
        obtain ⟨b, e, r⟩ := sa.ob i s o hi ho
        rw [ha] at e
        cases e
        refine hg (Ux U env σ) H a o ds xs z o' Q sa.alU (.inr ⟨i, s, o, hi, ho, ha⟩) r ra hz fun v hob rz ro => ?_
        obtain ⟨st, k⟩ := Ste.write2 sa hi ho ha ro
        exact po v _ st (k _ _ rz)
end
section
variable {X : Cx} {W : WX} {e : Expr} {i : Nat} {ma : En → Rs (List D)} {g : Ob → List D → Option (D × Ob)} {r : V → List V → Hp → VK → Prop}
theorem ev_meth (hg : Mut X.K g r) (h : PE X e (tBM X.K "list" r (tVar i) (tA X.K W ma))) : Ev X W e (xMeth i g ma) :=
  PE_imp h fun σ H Q ⟨U, env, sa, po⟩ => by
    unfold xMeth at po
    by_cases hl : isLstAt i env = true
    · rw [if_pos hl] at po
      unfold isLstAt at hl
      cases hb : (env[i]?).bind Sl.ob with
      | none => rw [hb] at hl; cases hl
      | some ob =>
        obtain ⟨s, h1, h2⟩ := Option.bind_eq_some_iff.mp hb
        obtain ⟨a, ea, ra⟩ := sa.ob i s ob h1 h2
        refine ⟨.ref a, ea, ?_, U, env, sa, Po.step po fun vs H1 ds e1 st rs po1 => mutAt_ok hg st.sa rs ea po1⟩
        rw [hb] at hl
        cases ob with
        | lst ds => obtain ⟨xs, e, _⟩ := ra; exact .inl ⟨rfl, xs, .of e⟩
        | _ => cases hl
    · rw [if_neg hl] at po
      exact po.elim
/-- .. with no argument -/
theorem ev_meth0 (hg : Mut X.K g r) (h : PE X e (tBM0 X.K "list" r (tVar i))) : Ev X W e (xMeth i g xNil) :=
  PE_imp h fun σ H Q ⟨U, env, sa, po⟩ => by
    unfold xMeth at po
    by_cases hl : isLstAt i env = true
    · rw [if_pos hl] at po
      unfold isLstAt at hl
      cases hb : (env[i]?).bind Sl.ob with
      | none => rw [hb] at hl; cases hl
      | some ob =>
        obtain ⟨s, h1, h2⟩ := Option.bind_eq_some_iff.mp hb
        obtain ⟨a, ea, ra⟩ := sa.ob i s ob h1 h2
        refine ⟨.ref a, ea, ?_, mutAt_ok hg sa (show Reps X.K _ _ [] [] from rfl) ea po⟩
        rw [hb] at hl
        cases ob with
        | lst ds => obtain ⟨xs, e, _⟩ := ra; exact .inl ⟨rfl, xs, .of e⟩
        | _ => cases hl
    · rw [if_neg hl] at po
      exact po.elim
end
section
variable {K : PySem.W.Frag}
theorem Reps.updU {U : Addr → Prop} {H : Hp} {a : Addr} {ho : HO} (h : U a) {ds : List D} {xs : List V} (r : Reps K U H ds xs) : Reps K U (upd H a ho) ds xs :=
  Reps.to (fun b u n e => by rw [upd_ne (fun z => n (by rw [z]; exact h))]; exact e) (fun _ _ n _ => n) ds xs r
theorem Rep.updU {U : Addr → Prop} {H : Hp} {a : Addr} {ho : HO} (h : U a) {d : D} {x : V} (r : Rep K U H d x) : Rep K U (upd H a ho) d x :=
  Rep.to (fun b u n e => by rw [upd_ne (fun z => n (by rw [z]; exact h))]; exact e) (fun _ _ n _ => n) d x r
def gApp : Ob → List D → Option (D × Ob)
  | .lst ds, [d] => if ds.length < sizeLine then some (.non, .lst (ds ++ [d])) else none
  | _, _ => none
theorem mu_app : Mut K gApp rAppend := by
  intro U H a o ds xs z o' Q al ua ro rs hg q
  cases o with
  | lst es =>
    match ds, hg, rs with
    | [d], hg, ⟨x, _, e, r1, e'⟩ =>
      subst e e'
      simp only [gApp, Option.ite_none_right_eq_some] at hg
      obtain ⟨hl, e⟩ := hg
      cases e
      obtain ⟨vs, e, r⟩ := ro
      exact ⟨a, vs, x, rfl, rfl, e, by rw [r.len]; exact hl, q _ _ rfl ⟨_, upd_same, (r.append (show Reps K U H [d] [x] from ⟨x, [], rfl, r1, rfl⟩)).updU ua⟩⟩
    | [], hg, _ => simp [gApp] at hg
    | _ :: _ :: _, hg, _ => simp [gApp] at hg
  | _ => simp [gApp] at hg
def gExt : Ob → List D → Option (D × Ob)
  | .lst ds, [.lst es] => if ds.length + es.length ≤ sizeLine then some (.non, .lst (ds ++ es)) else none
  | _, _ => none
theorem mu_ext : Mut K gExt rExtend := by
  intro U H a o ds xs z o' Q al ua ro rs hg q
  cases o with
  | lst es =>
    match ds, hg, rs with
    | [.lst fs], hg, ⟨x, _, e, r1, e'⟩ =>
      subst e e'
      simp only [gExt, Option.ite_none_right_eq_some] at hg
      obtain ⟨hl, e⟩ := hg
      cases e
      obtain ⟨vs, e, r⟩ := ro
      obtain ⟨b, ws, rfl, h2, _, r2⟩ := r1.lst_sq
      exact ⟨a, b, vs, ws, rfl, rfl, e, h2, by rw [r.len, r2.len]; exact hl, q _ _ rfl ⟨_, upd_same, (r.append r2).updU ua⟩⟩
    | [], hg, _ => simp [gExt] at hg
    | _ :: _ :: _, hg, _ => simp [gExt] at hg
    | [.non], hg, _ => simp [gExt] at hg
    | [.bl _], hg, _ => simp [gExt] at hg
    | [.int _], hg, _ => simp [gExt] at hg
    | [.str _], hg, _ => simp [gExt] at hg
    | [.tup _], hg, _ => simp [gExt] at hg
    | [.dct _ _ _], hg, _ => simp [gExt] at hg
    | [.obj _ _ _], hg, _ => simp [gExt] at hg
    | [.fz _], hg, _ => simp [gExt] at hg
  | _ => simp [gExt] at hg
theorem Reps.eraseIdx {U : Addr → Prop} {H : Hp} : ∀ {ds : List D} {xs : List V} (n : Nat), Reps K U H ds xs → Reps K U H (ds.eraseIdx n) (xs.eraseIdx n)
  | [], _, n, h => by rw [show _ = _ from h]; simp; rfl
  | _ :: _, _, 0, ⟨x, r, e, h1, h2⟩ => by rw [e]; simpa using h2
  | _ :: _, _, n + 1, ⟨x, r, e, h1, h2⟩ => ⟨x, r.eraseIdx n, by rw [e]; rfl, h1, Reps.eraseIdx n h2⟩
theorem Reps.set {U : Addr → Prop} {H : Hp} {d : D} {v : V} (rv : Rep K U H d v) : ∀ {ds : List D} {xs : List V} (n : Nat), Reps K U H ds xs → Reps K U H (ds.set n d) (xs.set n v)
  | [], _, n, h => by rw [show _ = _ from h]; rfl
  | _ :: _, _, 0, ⟨x, r, e, h1, h2⟩ => ⟨v, r, by rw [e]; rfl, rv, h2⟩
  | _ :: _, _, n + 1, ⟨x, r, e, h1, h2⟩ => ⟨x, r.set n v, by rw [e]; rfl, h1, Reps.set rv n h2⟩
theorem seqIx_fits {i : Int} {n k : Nat} (h : seqIndex? i n = some k) (hn : n ≤ 1000000) : -(2 ^ 63) ≤ i ∧ i < 2 ^ 63 := by
  unfold seqIndex? at h
  simp only [Option.ite_none_right_eq_some, Bool.and_eq_true, decide_eq_true_eq] at h
  have h := h.1
  by_cases q : i < 0
  · rw [if_pos q] at h; omega
  · rw [if_neg q] at h; omega
def gPopAt : Ob → List D → Option (D × Ob)
  | .lst ds, [.int i] => if ds.length ≤ 1000000 then (seqIndex? i ds.length).bind fun k => (ds[k]?).map fun d => (d, .lst (ds.eraseIdx k)) else none
  | _, _ => none
theorem mu_popAt : Mut K gPopAt rPopAt := by
  intro U H a o ds xs z o' Q al ua ro rs hg q
  cases o with
  | lst es =>
    match ds, hg, rs with
    | [.int i], hg, ⟨x, _, e, r1, e'⟩ =>
      subst e e'
      simp only [gPopAt, Option.ite_none_right_eq_some] at hg
      obtain ⟨l0, hg⟩ := hg
      obtain ⟨k, hk, hg⟩ := Option.bind_eq_some_iff.mp hg
      obtain ⟨l1, l2⟩ := seqIx_fits hk l0
      obtain ⟨d, hd, e⟩ := Option.map_eq_some_iff.mp hg
      cases e
      obtain ⟨vs, e, r⟩ := ro
      obtain ⟨y, hy, ry⟩ := r.get hd
      exact ⟨a, vs, i, k, y, rfl, by rw [show x = _ from r1], e, l1, l2, by rw [r.len]; exact hk, hy, q _ _ (ry.updU ua) ⟨_, upd_same, (r.eraseIdx k).updU ua⟩⟩
    | [], hg, _ => simp [gPopAt] at hg
    | _ :: _ :: _, hg, _ => simp [gPopAt] at hg
    | [.non], hg, _ => simp [gPopAt] at hg
    | [.bl _], hg, _ => simp [gPopAt] at hg
    | [.lst _], hg, _ => simp [gPopAt] at hg
    | [.str _], hg, _ => simp [gPopAt] at hg
    | [.tup _], hg, _ => simp [gPopAt] at hg
    | [.dct _ _ _], hg, _ => simp [gPopAt] at hg
    | [.obj _ _ _], hg, _ => simp [gPopAt] at hg
    | [.fz _], hg, _ => simp [gPopAt] at hg
  | _ => simp [gPopAt] at hg
def gPop : Ob → List D → Option (D × Ob)
  | .lst ds, [] => (ds[ds.length - 1]?).map fun d => (d, .lst ds.dropLast)
  | _, _ => none
theorem mu_pop : Mut K gPop rPop := by
  intro U H a o ds xs z o' Q al ua ro rs hg q
  cases o with
  | lst es =>
    cases ds with
    | cons d t => simp [gPop] at hg
    | nil =>
      obtain ⟨d, hd, e⟩ := Option.map_eq_some_iff.mp (show (es[es.length - 1]?).map _ = _ from hg)
      cases e
      have e : xs = [] := rs
      subst e
      obtain ⟨vs, e, r⟩ := ro
      obtain ⟨y, hy, ry⟩ := r.get hd
      refine ⟨a, vs, y, rfl, rfl, e, by rw [r.len]; exact hy, q _ _ (ry.updU ua) ⟨_, upd_same, Reps.updU ua ?_⟩⟩
      rw [List.dropLast_eq_take, List.dropLast_eq_take, r.len]
      exact r.take _
  | _ => simp [gPop] at hg
/-! ### stores -/
def Sto (K : PySem.W.Frag) (g : Ob → D → D → Option Ob) (t : TSet) : Prop :=
  ∀ (U : Addr → Prop) (H : Hp) (a : Addr) (o : Ob) (kd d : D) (kv v : V) (o' : Ob) (Q : Hp → Prop), Al U H → U a → RepO K U H o a → Rep K U H kd kv → Rep K U H d v → g o kd d = some o' →
    (∀ ho, RepO K U (upd H a ho) o' a → Q (upd H a ho)) → t (.ref a) kv v H Q
def putKy (k : Ky) (d : D) : List Ky → List D → List Ky × List D
  | l :: ks, v :: vs => if l = k then (l :: ks, d :: vs) else let r := putKy k d ks vs; (l :: r.1, v :: r.2)
  | ks, vs => (ks ++ [k], vs ++ [d])
def gSto : Ob → D → D → Option Ob
  | .lst ds, .int i, d => (ixN ds.length i).map fun j => .lst (ds.set j d)
  | .dct false ks vs, k, d => if ks.length < sizeLine ∧ ks.Nodup then (keyOf k).map fun k => let r := putKy (kyOf k) d ks vs; .dct false r.1 r.2 else none
  | .dct true ks vs, .tup xs, d => if ks.length < sizeLine ∧ ks.Nodup then (keysOf xs).map fun k => let r := putKy (.tup k) d ks vs; .dct true r.1 r.2 else none
  | _, _, _ => none
theorem putKy_rep {U : Addr → Prop} {H : Hp} {κ : Type} [DecidableEq κ] (f : Ky → Option κ) (g : κ → Ky) (fg : ∀ k, f (g k) = some k) (gf : ∀ l k, f l = some k → l = g k) (k : κ) {d : D} {v : V} (rv : Rep K U H d v) : ∀ (ks : List Ky) (vs : List D) (kvs : List (κ × V)), ks.Nodup → ks.map f = kvs.map (fun p => some p.1) →
    Reps K U H vs (kvs.map (·.2)) → (putKy (g k) d ks vs).1.map f = (putK kvs k v).map (fun p => some p.1) ∧ Reps K U H (putKy (g k) d ks vs).2 ((putK kvs k v).map (·.2))
  | [], vs, kvs, _, h, r => by
    cases kvs with
    | cons p kvs => simp at h
    | nil =>
      have hv : vs = [] := by cases vs with
        | nil => rfl
        | cons d t => obtain ⟨x, t, e, _⟩ := r; simp at e
      subst hv
      simp [putKy, putK, fg, Reps]
      exact rv
  | l :: ks, vs, [], _, h, r => by simp at h
  | l :: ks, [], p :: kvs, _, h, r => by
    have r := Reps.len r
    simp at r
  | l :: ks, w :: vs, p :: kvs, nd, h, ⟨x, t, e, r1, r2⟩ => by
    simp only [List.map_cons, List.cons.injEq] at h e
    obtain ⟨h1, h2⟩ := h
    obtain ⟨rfl, rfl⟩ := e
    have hl : l = g p.1 := gf _ _ h1
    have nd2 := List.nodup_cons.mp nd
    by_cases hk : p.1 = k
    · have e1 : putKy (g k) d (l :: ks) (w :: vs) = (l :: ks, d :: vs) := by unfold putKy; rw [if_pos (by rw [hl, hk])]
      have nk : ∀ q ∈ kvs, q.1 ≠ k := fun q hq e => nd2.1 (by
        have : some q.1 ∈ ks.map f := by rw [h2]; exact List.mem_map_of_mem hq
        obtain ⟨l', hl', e'⟩ := List.mem_map.mp this
        rw [gf _ _ e', e, ← hk, ← hl] at hl'
        exact hl')
      have em : (kvs.map fun kv => if kv.1 = k then (kv.1, v) else kv) = kvs := by
        have : ∀ q ∈ kvs, (if q.1 = k then (q.1, v) else q) = q := fun q hq => by rw [if_neg (nk q hq)]
        calc _ = kvs.map id := List.map_congr_left this
          _ = kvs := List.map_id kvs
      have e2 : putK (p :: kvs) k v = (p.1, v) :: kvs := by
        unfold putK
        rw [if_pos (by simp [hk]), List.map_cons, if_pos hk, em]
      rw [e1, e2]
      exact ⟨by simp [h1, h2], v, _, rfl, rv, r2⟩
    · have e1 : putKy (g k) d (l :: ks) (w :: vs) = (l :: (putKy (g k) d ks vs).1, w :: (putKy (g k) d ks vs).2) := by
        rw [putKy, if_neg]
        rintro q
        apply hk
        have := fg p.1
        rw [← hl, q, fg] at this
        exact (Option.some.inj this).symm
      have e2 : putK (p :: kvs) k v = p :: putK kvs k v := by
        unfold putK
        by_cases h : (kvs.any fun kv => decide (kv.1 = k)) = true
        · rw [if_pos (by rw [List.any_cons, h, Bool.or_true]), if_pos h, List.map_cons, if_neg hk]
        · rw [if_neg (by rw [List.any_cons, decide_eq_false hk, Bool.false_or]; exact h), if_neg h]; rfl
      obtain ⟨a1, a2⟩ := putKy_rep f g fg gf k rv ks vs kvs nd2.2 h2 r2
      rw [e1, e2]
      exact ⟨by simp [h1, a1], p.2, _, rfl, r1, a2⟩
def rSetM : TSet := fun o i v H Q => rSetL o i v H Q ∨ rSetD o i v H Q
theorem PSet.or {X : Cx} {t t' : TSet} (h : PSet X t) (h' : PSet X t') : PSet X fun o i v H Q => t o i v H Q ∨ t' o i v H Q :=
  fun pins s σ H o i v ov iv u Q I a b c q => q.elim (h pins s σ H o i v ov iv u Q I a b c) (h' pins s σ H o i v ov iv u Q I a b c)
theorem set_m {X : Cx} (hu : X.A.units + 1 < cLine) : PSet X rSetM := PSet.or set_list (set_dict hu)
theorem kyK_inv {l : Ky} {k : Key} (h : kyK l = some k) : l = kyOf k := by cases l <;> simp [kyK] at h <;> subst h <;> rfl
theorem kyT_inv {l : Ky} {k : List Key} (h : kyT l = some k) : l = .tup k := by cases l <;> simp [kyT] at h; subst h; rfl
theorem st_m : Sto K gSto rSetM := by
  intro U H a o kd d kv v o' Q al ua ro rk rd hg q
  cases o with
  | lst ds =>
    cases kd <;> simp only [gSto, reduceCtorEq] at hg
    obtain ⟨j, hj, e⟩ := Option.map_eq_some_iff.mp hg
    subst e
    obtain ⟨xs, e, r⟩ := ro
    exact .inl ⟨a, xs, _, j, rfl, rk, e, by rw [r.len]; exact hj, q _ ⟨_, upd_same, (r.set rd j).updU ua⟩⟩
  | dct t ks vs =>
    cases t with
    | false =>
      have hg : (if ks.length < sizeLine ∧ ks.Nodup then (keyOf kd).map fun k => let r := putKy (kyOf k) d ks vs; Ob.dct false r.1 r.2 else none) = some o' := by cases kd <;> exact hg
      simp only [Option.ite_none_right_eq_some] at hg
      obtain ⟨⟨hl, nd⟩, hg⟩ := hg
      obtain ⟨k, hk, e⟩ := Option.map_eq_some_iff.mp hg
      subst e
      obtain ⟨xs, ⟨kvs, h1, h2, rfl⟩, r⟩ := ro
      have len : kvs.length = ks.length := by simpa using (congrArg List.length h2).symm
      obtain ⟨p1, p2⟩ := putKy_rep kyK kyOf (fun k => by cases k <;> rfl) (fun l k => kyK_inv) k rd ks vs kvs nd h2 r
      exact .inr ⟨a, _, rfl, .inl ⟨kvs, k, h1, keyOf_v hk rk, by rw [len]; exact hl, rfl⟩, q _ ⟨_, ⟨_, upd_same, p1, rfl⟩, p2.updU ua⟩⟩
    | true =>
      cases kd with
      | tup ds =>
        simp only [gSto, Option.ite_none_right_eq_some] at hg
        obtain ⟨⟨hl, nd⟩, hg⟩ := hg
        obtain ⟨k, hk, e⟩ := Option.map_eq_some_iff.mp hg
        subst e
        obtain ⟨xs, ⟨kvs, h1, h2, rfl⟩, r⟩ := ro
        have len : kvs.length = ks.length := by simpa using (congrArg List.length h2).symm
        obtain ⟨p1, p2⟩ := putKy_rep kyT .tup (fun k => rfl) (fun l k => kyT_inv) k rd ks vs kvs nd h2 r
        obtain ⟨b, ys, rfl, hb, _, rb⟩ := rk.tup_sq
        refine .inr ⟨a, _, rfl, .inr ⟨kvs, k, b, h1, rfl, by rw [hb, keysOf_v hk rb], by rw [len]; exact hl, rfl⟩, q _ ⟨_, ⟨_, upd_same, p1, rfl⟩, p2.updU ua⟩⟩
      | _ => simp [gSto] at hg
  | ins c ns ds => simp [gSto] at hg
end
def stoAt (i : Nat) (g : Ob → Option Ob) (env : En) : Rs Fl := match env[i]? with
  | some s => match s.ob with
    | some o => match g o with
      | some o' => .ok .nx (env.set i (s.put o'))
      | none => .bad
    | none => .bad
  | none => .bad
/-- x[k] = e -/
def mSto (i : Nat) (g : Ob → D → D → Option Ob) (m mk : En → Rs D) : En → Rs Fl := fun env => (m env).bind fun d e1 => if isObAt i e1 = true then (mk e1).bind fun kd e2 => stoAt i (fun o => g o kd d) e2 else .bad
where isObAt (i : Nat) (env : En) : Bool := ((env[i]?).bind Sl.ob).isSome
section
variable {X : Cx} {W : WX} {st : Stmt} {o ki : Expr} {i : Nat} {g : Ob → D → D → Option Ob} {t : TSet} {m mk : En → Rs D}
theorem es_sto (hg : Sto X.K g t) (h : PS X st (tAsg (tE X.K W m) (L2.gSub (tVar i) (tE X.K W mk) t))) : EvS X W st (mSto i g m mk) :=
  PS_imp h fun Dn σ H ⟨U, env, sa, po⟩ => ⟨U, env, sa, PoS.step po fun v H1 d e1 a r po1 => by
    by_cases hb : mSto.isObAt i e1 = true
    · rw [if_pos hb] at po1
      unfold mSto.isObAt at hb
      obtain ⟨ob, hb⟩ := Option.isSome_iff_exists.mp hb
      obtain ⟨s, h1, h2⟩ := Option.bind_eq_some_iff.mp hb
      obtain ⟨p, ep, _⟩ := a.sa.ob i s ob h1 h2
      refine ⟨.ref p, ep, U, e1, a.sa, PoS.step po1 fun kv H2 kd e2 a2 rk po2 => ?_⟩
      unfold stoAt at po2
      cases hi : e2[i]? with
      | none => rw [hi] at po2; exact po2.elim
      | some s2 =>
        simp only [hi] at po2
        cases ho : s2.ob with
        | none => simp only [ho] at po2; exact po2.elim
        | some o2 =>
          simp only [ho] at po2
          cases hz : g o2 kd d with
          | none => simp only [hz] at po2; exact po2.elim
          | some o' =>
            simp only [hz] at po2
            obtain ⟨b, e, ro⟩ := a2.sa.ob i s2 o2 hi ho
            rw [ep] at e
            cases e
            refine hg _ H2 p o2 kd d kv v o' _ a2.sa.alU (.inr ⟨i, s2, o2, hi, ho, ep⟩) ro rk (a2.rep a.sa r) hz fun hob ro' => ?_
            obtain ⟨st, _⟩ := Ste.write2 a2.sa hi ho ep ro'
            exact po2 σ _ st
    · rw [if_neg hb] at po1
      exact po1.elim⟩
end
end Mi

set_option Elab.async false
set_option linter.all false
set_option maxRecDepth 100000
set_option maxHeartbeats 4000000
/-! Mi13: lists by comprehension -/
namespace Mi
open PySem PySem.Spec L2
def wipeE (e : En) : List Nat → En
  | [] => e
  | v :: vs => (wipeE e vs).set v .un
/-- the slots vs as they were -/
def backE (e0 e : En) : List Nat → En
  | [] => e
  | v :: vs => match e0[v]? with
    | some s => (backE e0 e vs).set v s
    | none => backE e0 e vs
def okVs (e : En) (vs : List Nat) : Bool := vs.all fun v => match e[v]? with
  | some .un => true
  | some (.v _) => true
  | _ => false
section
variable {K : PySem.W.Frag} {U : Addr → Prop} {env : En} {σ : St} {H : Hp}
theorem wipeE_len (e : En) : ∀ vs : List Nat, (wipeE e vs).length = e.length
  | [] => rfl
  | v :: vs => by rw [wipeE, List.length_set, wipeE_len e vs]
theorem wipeE_get {e : En} {i : Nat} {s : Sl} : ∀ {vs : List Nat}, (wipeE e vs)[i]? = some s → s = .un ∨ (e[i]? = some s ∧ i ∉ vs)
  | [], h => .inr ⟨h, by simp⟩
  | v :: vs, h => by
    rw [wipeE] at h
    by_cases hv : v = i
    · subst hv
      by_cases hl : v < (wipeE e vs).length
      · rw [List.getElem?_set_self hl] at h
        cases h
        exact .inl rfl
      · rw [List.getElem?_eq_none (by rw [List.length_set]; omega)] at h
        cases h
    · rw [List.getElem?_set_ne hv] at h
      rcases wipeE_get h with h | ⟨h, n⟩
      · exact .inl h
      · exact .inr ⟨h, by simp [n, Ne.symm hv]⟩
theorem wipeE_out {e : En} {i : Nat} : ∀ {vs : List Nat}, i ∉ vs → (wipeE e vs)[i]? = e[i]?
  | [], _ => rfl
  | v :: vs, h => by
    rw [wipeE, List.getElem?_set_ne (fun z => h (by rw [z]; exact List.mem_cons_self))]
    exact wipeE_out fun z => h (List.mem_cons_of_mem _ z)
theorem chg_wipe {vs : List Nat} {a : Addr} (h : Chg (wipeE env vs) (wipe σ vs) a) : Chg env σ a := by
  obtain ⟨i, s, o, h1, h2, h3⟩ := h
  rcases wipeE_get h1 with e | ⟨h1, n⟩
  · subst e; cases h2
  · exact ⟨i, s, o, h1, h2, (wipe_some h3).1⟩
theorem SA.wipe (sa : SA K U env σ H) (vs : List Nat) : SA K U (wipeE env vs) (wipe σ vs) H := by
  have sub : ∀ x, Ux U (wipeE env vs) (L2.wipe σ vs) x → Ux U env σ x := fun x h => h.imp id chg_wipe
  refine ⟨by rw [wipeE_len, wipe_length]; exact sa.len, sa.al, fun a c => sa.nu a (chg_wipe c), fun i j s t o p a h1 h2 h3 h4 h5 h6 => ?_, fun i d h => ?_, fun i s o h1 h2 => ?_⟩
  · rcases wipeE_get h1 with e | ⟨h1, _⟩
    · subst e; cases h2
    · rcases wipeE_get h3 with e | ⟨h3, _⟩
      · subst e; cases h4
      · exact sa.inj i j s t o p a h1 h2 h3 h4 (wipe_some h5).1 (wipe_some h6).1
  · rcases wipeE_get h with e | ⟨h, n⟩
    · cases e
    · obtain ⟨v, e, r⟩ := sa.val i d h
      exact ⟨v, by rw [wipe_out n]; exact e, Rep.to (fun _ _ _ q => q) (fun x o n _ q => n (sub x q)) d v r⟩
  · rcases wipeE_get h1 with e | ⟨h1, n⟩
    · subst e; cases h2
    · obtain ⟨a, e, r⟩ := sa.ob i s o h1 h2
      exact ⟨a, by rw [wipe_out n]; exact e, RepO.to (fun _ _ _ q => q) (fun x o n _ q => n (sub x q)) (fun _ q => q) r⟩
theorem wipe_btw {σ σ' : St} : ∀ {vs is : List Nat}, Btw is σ σ' → (∀ i ∈ is, i ∈ vs) → wipe σ' vs = wipe σ vs := fun {vs is} b hs => by
  apply List.ext_getElem?
  intro j
  by_cases hj : j ∈ vs
  · have key : ∀ (τ : St) (ws : List Nat), j ∈ ws → (wipe τ ws)[j]? = if j < τ.length then some none else none := by
      intro τ ws
      induction ws with
      | nil => intro h; simp at h
      | cons w ws ih =>
        intro h
        rw [wipe]
        by_cases e : w = j
        · subst e
          by_cases hl : w < τ.length
          · rw [List.getElem?_set_self (by rw [wipe_length]; exact hl), if_pos hl]
          · rw [List.getElem?_eq_none (by rw [List.length_set, wipe_length]; omega), if_neg hl]
        · rw [List.getElem?_set_ne e]
          exact ih ((List.mem_cons.mp h).resolve_left (Ne.symm e))
    rw [key σ' vs hj, key σ vs hj, b.1]
  · rw [wipe_out hj, wipe_out hj]
    exact b.2 j fun h => hj (hs j h)
theorem btw_wipe (σ : St) (vs : List Nat) : Btw vs σ (wipe σ vs) := ⟨wipe_length σ vs, fun j h => wipe_out h⟩
/-- in the loop: D the new list -/
structure LcI (K : PySem.W.Frag) (U : Addr → Prop) (env : En) (σ : St) (H : Hp) (p : Addr) (e : En) (σ' : St) (H' : Hp) (acc : List D) : Prop where
  sa : SA K (Up U p) e σ' H'
  gr : Gr (Chg env σ) H H'
  fr : ∀ a, Chg e σ' a → Chg env σ a ∨ H a = none
  io : ∀ (i : Nat) (o : Ob), env[i]? = some (.io o) → ∃ o' : Ob, e[i]? = some (.io o') ∧ σ'[i]? = σ[i]?
  ob : ∃ xs, H' p = some (.lst xs) ∧ Reps K (Ux (Up U p) e σ') H' acc xs
  nw : H p = none
variable {p : Addr} {e e2 : En} {σ' σ2 : St} {H' H2 : Hp} {acc : List D}
theorem LcI.step (l : LcI K U env σ H p e σ' H' acc) (st : Ste K (Up U p) e σ' H' e2 σ2 H2) : LcI K U env σ H p e2 σ2 H2 acc where
  sa := st.sa
  gr := fun a o n h => st.gr a o (fun c => (l.fr a c).elim n fun z => by rw [h] at z; cases z) (l.gr a o n h)
  fr := fun a c => by
    rcases st.fr a c with q | q
    · exact l.fr a q
    · by_cases n : Chg env σ a
      · exact .inl n
      · refine .inr ?_
        cases z : H a with
        | none => rfl
        | some o =>
          rw [l.gr a o n z] at q
          cases q
  io := fun i o h => by
    obtain ⟨o1, h1, e1⟩ := l.io i o h
    obtain ⟨o2, h2, e2⟩ := st.io i o1 h1
    exact ⟨o2, h2, e2.trans e1⟩
  ob := by
    obtain ⟨xs, h1, r⟩ := l.ob
    exact ⟨xs, st.gr p _ (fun c => l.sa.nu p c (.inr rfl)) h1, st.reps l.sa r⟩
  nw := l.nw
theorem SA.updU (sa : SA K U env σ H) {a : Addr} {ho : HO} (h : U a) : SA K U env σ (upd H a ho) where
  len := sa.len
  al := fun x q => by
    by_cases e : x = a
    · exact ⟨ho, by rw [e]; exact upd_same⟩
    · obtain ⟨o, z⟩ := sa.al x q
      exact ⟨o, by rw [upd_ne e]; exact z⟩
  nu := sa.nu
  inj := sa.inj
  val := fun i d q => by
    obtain ⟨v, e, r⟩ := sa.val i d q
    exact ⟨v, e, r.updU (.inl h)⟩
  ob := fun i s o h1 h2 => by
    obtain ⟨b, e, r⟩ := sa.ob i s o h1 h2
    refine ⟨b, e, RepO.to (fun b u n e => by rw [upd_ne (fun z => n (by rw [z]; exact .inl h))]; exact e) (fun _ _ n _ => n) (fun u q => ?_) r⟩
    rw [upd_ne (fun z => ?_)]
    · exact q
    · subst z
      exact sa.nu _ ⟨i, s, o, h1, h2, e⟩ h
theorem LcI.push {d : D} {v : V} (l : LcI K U env σ H p e σ' H' acc) (r : Rep K (Ux (Up U p) e σ') H' d v) : ∃ xs, H' p = some (.lst xs) ∧ xs.length = acc.length ∧ LcI K U env σ H p e σ' (upd H' p (.lst (xs ++ [v]))) (acc ++ [d]) := by
  obtain ⟨xs, h1, rs⟩ := l.ob
  have up : Up U p p := .inr rfl
  refine ⟨xs, h1, rs.len, l.sa.updU up, fun a o n h => ?_, l.fr, l.io, ⟨_, upd_same, ((rs.append (show Reps K _ H' [d] [v] from ⟨v, [], rfl, r, rfl⟩)).updU (.inl up))⟩, l.nw⟩
  rw [upd_ne (fun z => by rw [z, l.nw] at h; cases h)]
  exact l.gr a o n h
theorem LcI.wipe (l : LcI K U env σ H p e σ' H' acc) (vs : List Nat) (ok : okVs env vs = true) : LcI K U env σ H p (wipeE e vs) (wipe σ' vs) H' acc where
  sa := l.sa.wipe vs
  gr := l.gr
  fr := fun a c => l.fr a (chg_wipe c)
  io := fun i o h => by
    have n : i ∉ vs := fun m => by
      have := List.all_eq_true.mp ok i m
      rw [h] at this
      cases this
    obtain ⟨o', h1, h2⟩ := l.io i o h
    exact ⟨o', by rw [wipeE_out n]; exact h1, by rw [wipe_out n]; exact h2⟩
  ob := by
    obtain ⟨xs, h1, r⟩ := l.ob
    exact ⟨xs, h1, Reps.to (fun _ _ _ q => q) (fun x o n _ q => n (q.imp id chg_wipe)) _ _ r⟩
  nw := l.nw
theorem backE_len (e0 e : En) : ∀ vs : List Nat, (backE e0 e vs).length = e.length
  | [] => rfl
  | v :: vs => by
    rw [backE]
    cases e0[v]? with
    | none => exact backE_len e0 e vs
    | some s => rw [List.length_set]; exact backE_len e0 e vs
theorem backE_get {e0 e : En} {i : Nat} {s : Sl} : ∀ {vs : List Nat}, (backE e0 e vs)[i]? = some s → (e[i]? = some s ∧ (i ∉ vs ∨ e0[i]? = none)) ∨ (e0[i]? = some s ∧ i ∈ vs)
  | [], h => .inl ⟨h, .inl (by simp)⟩
  | v :: vs, h => by
    rw [backE] at h
    cases hv : e0[v]? with
    | none =>
      rw [hv] at h
      rcases backE_get h with ⟨a, b⟩ | ⟨a, b⟩
      · refine .inl ⟨a, ?_⟩
        by_cases e1 : i = v
        · subst e1; exact .inr hv
        · exact b.imp (fun n => by simp [n, e1]) id
      · exact .inr ⟨a, List.mem_cons_of_mem _ b⟩
    | some t =>
      rw [hv] at h
      simp only at h
      by_cases e1 : v = i
      · subst e1
        by_cases hl : v < (backE e0 e vs).length
        · rw [List.getElem?_set_self hl] at h
          cases h
          exact .inr ⟨hv, List.mem_cons_self⟩
        · rw [List.getElem?_eq_none (by rw [List.length_set]; omega)] at h
          cases h
      · rw [List.getElem?_set_ne e1] at h
        rcases backE_get h with ⟨a, b⟩ | ⟨a, b⟩
        · exact .inl ⟨a, b.imp (fun n => by simp [n, Ne.symm e1]) id⟩
        · exact .inr ⟨a, List.mem_cons_of_mem _ b⟩
theorem backE_out {e0 e : En} {i : Nat} : ∀ {vs : List Nat}, i ∉ vs → (backE e0 e vs)[i]? = e[i]?
  | [], _ => rfl
  | v :: vs, h => by
    have h1 : v ≠ i := fun z => h (by rw [z]; exact List.mem_cons_self)
    have h2 : i ∉ vs := fun z => h (List.mem_cons_of_mem _ z)
    rw [backE]
    cases e0[v]? with
    | none => exact backE_out h2
    | some s => simp only; rw [List.getElem?_set_ne h1]; exact backE_out h2
/-- behind the loop -/
theorem LcI.fin {vs : List Nat} (sa : SA K U env σ H) (ok : okVs env vs = true) (l : LcI K U env σ H p e (L2.wipe σ vs) H' acc) : Fre K U env σ H (backE env e vs) H' (.lst acc) p := by
  have notob : ∀ {i : Nat} {s : Sl} {o : Ob}, env[i]? = some s → i ∈ vs → s.ob = some o → False := fun {i s o} h1 h2 h3 => by
    have := List.all_eq_true.mp ok i h2
    rw [h1] at this
    cases s <;> first | (cases h3; done) | (simp at this; done)
  -- an object's slot is outside vs
  have obs : ∀ {i : Nat} {s : Sl} {o : Ob}, (backE env e vs)[i]? = some s → s.ob = some o → e[i]? = some s ∧ (i ∉ vs ∨ env[i]? = none) := fun {i s o} h1 h2 => by
    rcases backE_get h1 with q | ⟨q, m⟩
    · exact q
    · exact (notob q m h2).elim
  have le : e.length = env.length := by rw [l.sa.len, wipe_length, sa.len]
  have none_lt : ∀ {i : Nat} {s : Sl}, e[i]? = some s → env[i]? = none → False := fun {i s} h1 h2 => by
    have a := (List.getElem?_eq_some_iff.mp h1).1
    have b := List.getElem?_eq_none_iff.mp h2
    omega
  have obs2 : ∀ {i : Nat} {s : Sl} {o : Ob}, (backE env e vs)[i]? = some s → s.ob = some o → e[i]? = some s ∧ i ∉ vs := fun {i s o} h1 h2 => by
    obtain ⟨a, b⟩ := obs h1 h2
    exact ⟨a, b.resolve_right fun n => none_lt a n⟩
  have ch : ∀ a, Chg (backE env e vs) σ a → Chg e (L2.wipe σ vs) a := fun a ⟨i, s, o, h1, h2, h3⟩ => by
    obtain ⟨q, n⟩ := obs2 h1 h2
    exact ⟨i, s, o, q, h2, by rw [wipe_out n]; exact h3⟩
  have sub : ∀ {V : Addr → Prop} x, Ux V (backE env e vs) σ x → Ux V e (L2.wipe σ vs) x := fun x h => h.imp id (ch x)
  have kp : ∀ a o, ¬ Ux U env σ a → H a = some o → H' a = some o := fun a o n h => l.gr a o (fun c => n (.inr c)) h
  have ku : ∀ a o, ¬ Ux U env σ a → H a = some o → ¬ Ux (Up U p) (backE env e vs) σ a := fun a o n h q => by
    rcases ux_up.mp (sub a q) with q | q
    · rcases q with q | q
      · exact n (.inl q)
      · exact (l.fr a q).elim (fun c => n (.inr c)) fun z => by rw [h] at z; cases z
    · rw [q, l.nw] at h
      cases h
  refine ⟨.inr l.nw, fun h => ?_, ⟨by rw [backE_len, le, sa.len], l.sa.al, fun a c => l.sa.nu a (ch a c), fun i j s t o q a h1 h2 h3 h4 h5 h6 => ?_, fun i d h => ?_, fun i s o h1 h2 => ?_⟩, l.gr, fun a c => l.fr a (ch a c), fun i o h => ?_, ?_⟩
  · obtain ⟨o, z⟩ := sa.al p h
    rw [l.nw] at z
    cases z
  · obtain ⟨q1, n1⟩ := obs2 h1 h2
    obtain ⟨q2, n2⟩ := obs2 h3 h4
    exact l.sa.inj i j s t o q a q1 h2 q2 h4 (by rw [wipe_out n1]; exact h5) (by rw [wipe_out n2]; exact h6)
  · rcases backE_get h with ⟨q, n⟩ | ⟨q, m⟩
    · have n := n.resolve_right fun z => none_lt q z
      obtain ⟨v, e1, r⟩ := l.sa.val i d q
      rw [wipe_out n] at e1
      exact ⟨v, e1, Rep.to (fun _ _ _ q => q) (fun x o n _ q => n (sub x q)) d v r⟩
    · obtain ⟨v, e1, r⟩ := sa.val i d q
      exact ⟨v, e1, Rep.to kp ku d v r⟩
  · obtain ⟨q, n⟩ := obs2 h1 h2
    obtain ⟨a, e1, r⟩ := l.sa.ob i s o q h2
    rw [wipe_out n] at e1
    exact ⟨a, e1, RepO.to (fun _ _ _ q => q) (fun x o n _ q => n (sub x q)) (fun _ q => q) r⟩
  · obtain ⟨o', h1, _⟩ := l.io i o h
    refine ⟨o', ?_⟩
    rw [backE_out (fun m => notob h m rfl)]
    exact h1
  · obtain ⟨xs, h1, r⟩ := l.ob
    exact ⟨xs, h1, Reps.to (fun _ _ _ q => q) (fun x o n _ q => n (sub x q)) _ _ r⟩
theorem LcI.start (sa : SA K U env σ H) (hp : H p = none) (vs : List Nat) (ok : okVs env vs = true) : LcI K U env σ H p (wipeE env vs) (L2.wipe σ vs) (upd H p (.lst [])) [] := by
  have f := Fre.new (o := .lst []) (ho := .lst []) sa hp ⟨[], upd_same, rfl⟩
  have l : LcI K U env σ H p env σ (upd H p (.lst [])) [] := ⟨f.sa, f.gr, f.fr, fun i o h => ⟨o, h, rfl⟩, ⟨[], upd_same, rfl⟩, hp⟩
  exact l.wipe vs ok
end
/-! ### the loop's mirror -/
def lcStep (vs : List Nat) (mg : D → En → Option En) (mt : En → Rs Bool) (me : List D → En → Rs (List D)) (d : D) (acc : List D) (e : En) : Rs (List D) := match mg d e with
  | none => .bad
  | some e2 => match mt e2 with
    | .ok false e3 => .ok acc (wipeE e3 vs)
    | .ok true e3 => match me acc e3 with
      | .ok acc' e4 => .ok acc' (wipeE e4 vs)
      | _ => .bad
    | _ => .bad
def lcL (vs : List Nat) (mg : D → En → Option En) (mt : En → Rs Bool) (me : List D → En → Rs (List D)) : List D → List D → En → Rs (List D)
  | [], acc, e => .ok acc e
  | d :: r, acc, e => match lcStep vs mg mt me d acc e with
    | .ok acc' e' => lcL vs mg mt me r acc' e'
    | _ => .bad
/-- one more -/
def lcPush (me : En → Rs D) : List D → En → Rs (List D) := fun acc e => match me e with
  | .ok z e4 => if acc.length < sizeLine then .ok (acc ++ [z]) e4 else .bad
  | _ => .bad
/-- a second clause -/
def lcIn (vs1 : List Nat) (mi : En → Rs (List D)) (mg : D → En → Option En) (mt : En → Rs Bool) (me : List D → En → Rs (List D)) : List D → En → Rs (List D) := fun acc e => match mi e with
  | .ok ds e1 => lcL vs1 mg mt me ds acc (wipeE e1 vs1)
  | _ => .bad
def mLc (vs : List Nat) (mi : En → Rs (List D)) (mg : D → En → Option En) (mt : En → Rs Bool) (me : List D → En → Rs (List D)) : En → Rs Ob := fun env => (mi env).bind fun ds e1 => if okVs e1 vs = true then (match lcL vs mg mt me ds [] (wipeE e1 vs) with
  | .ok acc e2 => .ok (.lst acc) (backE e1 e2 vs)
  | _ => .bad) else .bad
/-- no exception within -/
abbrev W0 : WX := fun _ _ _ _ => False
theorem takes0 (X : Cx) : Takes X W0 := fun u s' ⟨_, _, _, _, _, _, _, _, _, _, _, _, _, _, _, _, h⟩ => h.elim
abbrev EvTs (X : Cx) (ifs : List Expr) (m : En → Rs Bool) : Prop := PTs X ifs (tT X.K W0 m)
def ttYes : En → Rs Bool := fun env => .ok true env
theorem ets_nil {X : Cx} : EvTs X [] ttYes := ⟨fun pins s σ H Q I ⟨U, env, sa, po⟩ => pts_nil.run pins s σ H Q I (po true H (.refl sa) rfl)⟩
theorem ets_one {X : Cx} {c : Expr} {m : En → Rs Bool} (h : EvT X W0 c m) : EvTs X [c] m := pts_one h
section
variable {X : Cx} {W : WX} {elt tg iter tg1 iter1 : Expr} {ifs ifs1 : List Expr} {scope : Scope} {own : List (Str × Nat)} {vs1 : List Nat} {pos : Pos} {mi mi1 : En → Rs (List D)} {is is1 : List Nat} {mg mg1 : D → En → Option En} {mt mt1 : En → Rs Bool} {me : En → Rs D}
/-- what a turn gives back -/
def LcN (K : PySem.W.Frag) (U : Addr → Prop) (env : En) (σ : St) (H : Hp) (p : Addr) (τ : St) (k : List D → En → Rs (List D)) (ok : List D → En → Prop) (H' : Hp) : Prop := ∃ e acc acc' e', LcI K U env σ H p e τ H' acc ∧ k acc e = .ok acc' e' ∧ ok acc' e'
theorem lc_turn {K : PySem.W.Frag} {U : Addr → Prop} {e1 e : En} {σ τ : St} {H1 H' : Hp} {p : Addr} {acc : List D} {ds : List D} {J : It} {i : Nat} {x : V} {H2 : Hp} {d : D} (it : ItOk K (Ux U e1 σ) H1 ds J) (l : LcI K U e1 σ H1 p e τ H' acc) (hd : ds[i]? = some d) (y : J.yld i H' x H2) :
    LcI K U e1 σ H1 p e τ H2 acc ∧ Rep K (Ux (Up U p) e τ) H2 d x := by
  have kp : ∀ a o, ¬ Ux U e1 σ a → H1 a = some o → H' a = some o := fun a o n h => l.gr a o (fun c => n (.inr c)) h
  have ku : ∀ a o, ¬ Ux U e1 σ a → H1 a = some o → ¬ Ux (Up U p) e τ a := fun a o n h q => by
    rcases ux_up.mp q with (q | q) | q
    · exact n (.inl q)
    · exact (l.fr a q).elim (fun c => n (.inr c)) fun z => by rw [h] at z; cases z
    · rw [q, l.nw] at h; cases h
  obtain ⟨sm, rx⟩ := it.yld i _ H' H2 x _ hd kp ku l.sa.alU y
  exact ⟨l.step ((Ste.refl l.sa).same sm), rx⟩
theorem lc_kp {K : PySem.W.Frag} {U : Addr → Prop} {e1 e : En} {σ τ : St} {H1 H' : Hp} {p : Addr} {acc : List D} (l : LcI K U e1 σ H1 p e τ H' acc) : ∀ a o, ¬ Ux U e1 σ a → H1 a = some o → H' a = some o := fun a o n h => l.gr a o (fun c => n (.inr c)) h
theorem lc_imp {K : PySem.W.Frag} {σ : St} {H : Hp} {Q : VK} (sub : ∀ i ∈ is, i ∈ own.map (·.2)) (h : tN K W (mLc (own.map (·.2)) mi mg mt (lcPush me)) σ H Q) : tLc (tM (RI K) K W mi) (tGt K is mg) (tT K W0 mt) (tE K W0 me) (own.map (·.2)) σ H Q := by
  obtain ⟨U, env, sa, po⟩ := h
  refine ⟨U, env, sa, ?_⟩
  refine PoN.step po fun J H1 ds e1 a it po1 => fun p hp => ?_
  have it : ItOk K (Ux U e1 σ) H1 ds J := it
  generalize own.map (·.2) = vs at sub po1 ⊢
  by_cases okv : okVs e1 vs = true
  · rw [if_pos okv] at po1
    cases hr : lcL vs mg mt (lcPush me) ds [] (wipeE e1 vs) with
    | bad => simp only [hr] at po1; exact po1.elim
    | er x e => simp only [hr] at po1; exact po1.elim
    | ok acc0 e0 =>
      simp only [hr] at po1
      refine ⟨fun i m H' => m = ds.length - i ∧ i ≤ ds.length ∧ LcN K U e1 σ H1 p (L2.wipe σ vs) (lcL vs mg mt (lcPush me) (ds.drop i)) (fun b f => b = acc0 ∧ f = e0) H', ⟨ds.length, by simp, Nat.zero_le _, _, _, acc0, e0, LcI.start a.sa hp vs okv, hr, rfl, rfl⟩, ?_⟩
      rintro i m H' ⟨rfl, hi, e, acc, _, _, l, hk, rfl, rfl⟩
      by_cases hlt : i < ds.length
      · refine .inr ⟨it.go i H' hlt (lc_kp l), fun H2 => LcN K U e1 σ H1 p (L2.wipe σ vs) (lcL vs mg mt (lcPush me) (ds.drop (i + 1))) (fun b f => b = _ ∧ f = _) H2, fun H2 h => ⟨ds.length - (i + 1), by omega, rfl, hlt, h⟩, fun x H2 y => ?_⟩
        have hd : ds[i]? = some ds[i] := by simp [hlt]
        obtain ⟨l, rx⟩ := lc_turn it l hd y
        rw [List.drop_eq_getElem_cons hlt] at hk
        unfold lcL lcStep at hk
        cases hg : mg ds[i] e with
        | none => simp only [hg] at hk; cases hk
        | some e2 =>
          simp only [hg] at hk
          refine ⟨Up U p, e, ds[i], e2, l.sa, rx, hg, fun σ2 H3 st bt => ?_⟩
          have ew : L2.wipe σ2 vs = L2.wipe σ vs := (wipe_btw bt sub).trans (wipe_btw (btw_wipe σ vs) fun i h => h)
          have l2 := l.step st
          refine ⟨ew, Up U p, e2, st.sa, ?_⟩
          cases hb : mt e2 with
          | bad => simp only [hb] at hk; cases hk
          | er x e3 => simp only [hb] at hk; cases hk
          | ok b e3 =>
            simp only [hb] at hk
            intro b' H4 st2 rb
            obtain rfl : b' = b := rb
            have l3 := l2.step st2
            cases b' with
            | false =>
              refine iteF ⟨_, _, _, _, ?_, hk, rfl, rfl⟩
              rw [← ew]
              exact l3.wipe vs okv
            | true =>
              refine iteT ⟨Up U p, e3, l3.sa, ?_⟩
              simp only [lcPush] at hk
              cases hz : me e3 with
              | bad => simp only [hz] at hk; cases hk
              | er x e4 => simp only [hz] at hk; cases hk
              | ok z e4 =>
                simp only [hz] at hk
                by_cases hl : acc.length < sizeLine
                · rw [if_pos hl] at hk
                  intro v H5 st3 rz
                  have l4 := l3.step st3
                  obtain ⟨xs, h1, h2, l5⟩ := l4.push rz
                  refine ⟨xs, h1, by rw [h2]; exact hl, _, _, _, _, ?_, hk, rfl, rfl⟩
                  rw [← ew]
                  exact l5.wipe vs okv
                · rw [if_neg hl] at hk; cases hk
      · have e : i = ds.length := by omega
        subst e
        rw [List.drop_length] at hk
        cases hk
        exact .inl ⟨it.stop _ H' (Nat.le_refl _) (lc_kp l) rfl, po1 p H' ((l.fin a.sa okv).pre (.refl a.sa))⟩
  · rw [if_neg okv] at po1
    exact po1.elim
theorem ef_lc (hc : X.calm = true) (hN : X.N.Nodup) (hi : EvI X W tg iter mi) (ok : BlkOk X.N X.env.scope scope own)
    (hg : ∀ (s : Shared) (H : Hp) (C : Addr) (cl : List (Str × Addr)) (fp : List Addr), EvG (X.blk s H scope (compEnvC scope cl C X.env) fp) tg is mg) (ht : ∀ (s : Shared) (H : Hp) (C : Addr) (cl : List (Str × Addr)) (fp : List Addr), EvTs (X.blk s H scope (compEnvC scope cl C X.env) fp) ifs mt)
    (he : ∀ (s : Shared) (H : Hp) (C : Addr) (cl : List (Str × Addr)) (fp : List Addr), Ev (X.blk s H scope (compEnvC scope cl C X.env) fp) W0 elt me) (sub : ∀ i ∈ is, i ∈ own.map (·.2)) (hs : ∀ x, foldedSetIterable iter X.env x = pure x := by intro _; rfl) :
    EvF X W (.ListComp elt [⟨tg, iter, ifs, 0⟩] scope pos) (mLc (own.map (·.2)) mi mg mt (lcPush me)) :=
  PE_imp (pe_lc (g := tGt X.K is mg) (tt := tT X.K W0 mt) (te := tE X.K W0 me) hc hN hi ok hg ht he hs) fun σ H Q h => lc_imp sub h
/-- what an assignment of a new object asks -/
theorem own_imp {K : PySem.W.Frag} {i : Nat} {mo : En → Rs Ob} {Dn : Ends} {σ : St} {H : Hp} (h : tS K W (mOw i mo) Dn σ H) : tN K W mo σ H fun x H1 => Dn.nx (σ.set i (some x)) H1 := by
  obtain ⟨U, env, sa, po⟩ := h
  refine ⟨U, env, sa, ?_⟩
  unfold mOw at po
  cases hm : mo env with
  | bad => rw [hm] at po; exact po
  | er x e1 => rw [hm] at po; exact fun c d H' a q => po c d σ H' a q
  | ok o e1 =>
    rw [hm] at po
    simp only [Rs.bind_ok] at po
    intro p H' f
    cases hi : e1[i]? with
    | none => simp only [hi] at po; exact po.elim
    | some s =>
      simp only [hi] at po
      have hl := (List.getElem?_eq_some_iff.mp hi).1
      cases s with
      | io o' => exact po.elim
      | un => exact po _ _ (f.own sa hl fun o q => by rw [hi] at q; cases q)
      | v d => exact po _ _ (f.own sa hl fun o q => by rw [hi] at q; cases q)
      | ow d => exact po _ _ (f.own sa hl fun o q => by rw [hi] at q; cases q)
theorem val_imp {K : PySem.W.Frag} {i : Nat} {mo : En → Rs Ob} {Dn : Ends} {σ : St} {H : Hp} (h : tS K W (mAsg (gSet i) (xVal mo)) Dn σ H) : tN K W mo σ H fun x H1 => Dn.nx (σ.set i (some x)) H1 := by
  obtain ⟨U, env, sa, po⟩ := h
  refine ⟨U, env, sa, ?_⟩
  unfold mAsg xVal at po
  cases hm : mo env with
  | bad => rw [hm] at po; exact po
  | er x e1 => rw [hm] at po; exact fun c d H' a q => po c d σ H' a q
  | ok o e1 =>
    rw [hm] at po
    simp only [Rs.bind_ok] at po
    intro p H' f
    obtain ⟨st, r⟩ := f.ste sa
    cases hg : gSet i o.val e1 with
    | none => rw [hg] at po; exact po.elim
    | some e2 =>
      rw [hg] at po
      exact po _ _ (st.trans (gSet_ok st.sa r hg))
section
variable {i : Nat} {y : Str} {py spos : Pos}
theorem es_setLcO (hc : X.calm = true) (hN : X.N.Nodup) (hy : X.N[i]? = some y) (hyl : X.env.scope.names.lookup y = some .local) (hsw : swapsWith (.ListComp elt [⟨tg, iter, ifs, 0⟩] scope pos) (some (.Name y py)) spos.line X.env = pure true) (hi : EvI X W tg iter mi) (ok : BlkOk X.N X.env.scope scope own)
    (hg : ∀ (s : Shared) (H : Hp) (C : Addr) (cl : List (Str × Addr)) (fp : List Addr), EvG (X.blk s H scope (compEnvC scope cl C X.env) fp) tg is mg) (ht : ∀ (s : Shared) (H : Hp) (C : Addr) (cl : List (Str × Addr)) (fp : List Addr), EvTs (X.blk s H scope (compEnvC scope cl C X.env) fp) ifs mt)
    (he : ∀ (s : Shared) (H : Hp) (C : Addr) (cl : List (Str × Addr)) (fp : List Addr), Ev (X.blk s H scope (compEnvC scope cl C X.env) fp) W0 elt me) (sub : ∀ i ∈ is, i ∈ own.map (·.2)) (hs : ∀ x, foldedSetIterable iter X.env x = pure x := by intro _; rfl) :
    EvS X W (.Assign [.Name y py] (.ListComp elt [⟨tg, iter, ifs, 0⟩] scope pos) spos) (mOw i (mLc (own.map (·.2)) mi mg mt (lcPush me))) :=
  PS_imp (ps_setLc (g := tGt X.K is mg) (tt := tT X.K W0 mt) (te := tE X.K W0 me) hc hN hy hyl hsw hi ok hg ht he hs) fun Dn σ H h => lc_imp sub (own_imp h)
theorem es_setLcV (hc : X.calm = true) (hN : X.N.Nodup) (hy : X.N[i]? = some y) (hyl : X.env.scope.names.lookup y = some .local) (hsw : swapsWith (.ListComp elt [⟨tg, iter, ifs, 0⟩] scope pos) (some (.Name y py)) spos.line X.env = pure true) (hi : EvI X W tg iter mi) (ok : BlkOk X.N X.env.scope scope own)
    (hg : ∀ (s : Shared) (H : Hp) (C : Addr) (cl : List (Str × Addr)) (fp : List Addr), EvG (X.blk s H scope (compEnvC scope cl C X.env) fp) tg is mg) (ht : ∀ (s : Shared) (H : Hp) (C : Addr) (cl : List (Str × Addr)) (fp : List Addr), EvTs (X.blk s H scope (compEnvC scope cl C X.env) fp) ifs mt)
    (he : ∀ (s : Shared) (H : Hp) (C : Addr) (cl : List (Str × Addr)) (fp : List Addr), Ev (X.blk s H scope (compEnvC scope cl C X.env) fp) W0 elt me) (sub : ∀ i ∈ is, i ∈ own.map (·.2)) (hs : ∀ x, foldedSetIterable iter X.env x = pure x := by intro _; rfl) :
    EvS X W (.Assign [.Name y py] (.ListComp elt [⟨tg, iter, ifs, 0⟩] scope pos) spos) (mAsg (gSet i) (xVal (mLc (own.map (·.2)) mi mg mt (lcPush me)))) :=
  PS_imp (ps_setLc (g := tGt X.K is mg) (tt := tT X.K W0 mt) (te := tE X.K W0 me) hc hN hy hyl hsw hi ok hg ht he hs) fun Dn σ H h => lc_imp sub (val_imp h)
end
end
end Mi

set_option Elab.async false
set_option linter.all false
set_option maxRecDepth 100000
set_option maxHeartbeats 4000000
/-! Mi14: comprehensions of two clauses -/
namespace Mi
open PySem PySem.Spec L2
section
/-- in the second clause's loop, from its start at H4 -/
structure LcJ (U : Addr → Prop) (e4 : En) (σ4 : St) (H4 : Hp) (e : En) (τ : St) (H' : Hp) : Prop where
  gr : ∀ a o, ¬ Ux U e4 σ4 a → H4 a = some o → H' a = some o
  fr : ∀ a, Chg e τ a → Chg e4 σ4 a ∨ H4 a = none
variable {K : PySem.W.Frag} {U : Addr → Prop} {e4 e e2 : En} {σ4 τ τ2 : St} {H4 H' H2 : Hp}
theorem LcJ.start {vs : List Nat} : LcJ U e4 σ4 H4 (wipeE e4 vs) (wipe σ4 vs) H4 := ⟨fun _ _ _ h => h, fun _ c => .inl (chg_wipe c)⟩
theorem LcJ.step (l : LcJ U e4 σ4 H4 e τ H') (st : Ste K U e τ H' e2 τ2 H2) : LcJ U e4 σ4 H4 e2 τ2 H2 where
  gr := fun a o n h => st.gr a o (fun c => (l.fr a c).elim (fun c => n (.inr c)) fun z => by rw [h] at z; cases z) (l.gr a o n h)
  fr := fun a c => by
    rcases st.fr a c with q | q
    · exact l.fr a q
    · by_cases n : Chg e4 σ4 a
      · exact .inl n
      · refine .inr ?_
        cases z : H4 a with
        | none => rfl
        | some o =>
          by_cases u : U a
          · exact (st.sa.nu a c u).elim
          · rw [l.gr a o (fun h => h.elim u n) z] at q
            cases q
theorem LcJ.push {p : Addr} {ho : HO} (l : LcJ U e4 σ4 H4 e τ H') (up : U p) : LcJ U e4 σ4 H4 e τ (upd H' p ho) where
  gr := fun a o n h => by rw [upd_ne (fun z => n (by rw [z]; exact .inl up))]; exact l.gr a o n h
  fr := l.fr
theorem LcJ.wipe (l : LcJ U e4 σ4 H4 e τ H') (vs : List Nat) : LcJ U e4 σ4 H4 (wipeE e vs) (wipe τ vs) H' := ⟨l.gr, fun a c => l.fr a (chg_wipe c)⟩
end
section
variable {X : Cx} {W : WX} {elt tg iter tg1 iter1 : Expr} {ifs ifs1 : List Expr} {scope : Scope} {own : List (Str × Nat)} {vs1 : List Nat} {pos : Pos} {mi mi1 : En → Rs (List D)} {is is1 : List Nat} {mg mg1 : D → En → Option En} {mt mt1 : En → Rs Bool} {me : En → Rs D}
theorem lc2_imp {K : PySem.W.Frag} {σ : St} {H : Hp} {Q : VK} (hv : ∀ i ∈ vs1, i ∈ own.map (·.2)) (sub : ∀ i ∈ is, i ∈ own.map (·.2)) (sub1 : ∀ i ∈ is1, i ∈ vs1) (h : tN K W (mLc (own.map (·.2)) mi mg mt (lcIn vs1 mi1 mg1 mt1 (lcPush me))) σ H Q) :
    tLc2 (tM (RI K) K W mi) (tGt K is mg) (tT K W0 mt) (tM (RI K) K W0 mi1) (tGt K is1 mg1) (tT K W0 mt1) (tE K W0 me) (own.map (·.2)) vs1 σ H Q := by
  obtain ⟨U, env, sa, po⟩ := h
  refine ⟨U, env, sa, ?_⟩
  refine PoN.step po fun J H1 ds e1 a it po1 => fun p hp => ?_
  have it : ItOk K (Ux U e1 σ) H1 ds J := it
  generalize own.map (·.2) = vs at sub hv po1 ⊢
  by_cases okv : okVs e1 vs = true
  · have okv1 : okVs e1 vs1 = true := List.all_eq_true.mpr fun i hi => List.all_eq_true.mp okv i (hv i hi)
    rw [if_pos okv] at po1
    generalize hin : lcIn vs1 mi1 mg1 mt1 (lcPush me) = inn at po1
    cases hr : lcL vs mg mt inn ds [] (wipeE e1 vs) with
    | bad => simp only [hr] at po1; exact po1.elim
    | er x e => simp only [hr] at po1; exact po1.elim
    | ok acc0 e0 =>
      simp only [hr] at po1
      refine ⟨fun i m H' => m = ds.length - i ∧ i ≤ ds.length ∧ LcN K U e1 σ H1 p (L2.wipe σ vs) (lcL vs mg mt inn (ds.drop i)) (fun b f => b = acc0 ∧ f = e0) H', ⟨ds.length, by simp, Nat.zero_le _, _, _, acc0, e0, LcI.start a.sa hp vs okv, hr, rfl, rfl⟩, ?_⟩
      rintro i m H' ⟨rfl, hi, e, acc, _, _, l, hk, rfl, rfl⟩
      by_cases hlt : i < ds.length
      · refine .inr ⟨it.go i H' hlt (lc_kp l), fun H2 => LcN K U e1 σ H1 p (L2.wipe σ vs) (lcL vs mg mt inn (ds.drop (i + 1))) (fun b f => b = _ ∧ f = _) H2, fun H2 h => ⟨ds.length - (i + 1), by omega, rfl, hlt, h⟩, fun x H2 y => ?_⟩
        have hd : ds[i]? = some ds[i] := by simp [hlt]
        obtain ⟨l, rx⟩ := lc_turn it l hd y
        rw [List.drop_eq_getElem_cons hlt] at hk
        unfold lcL lcStep at hk
        cases hg : mg ds[i] e with
        | none => simp only [hg] at hk; cases hk
        | some e2 =>
          simp only [hg] at hk
          refine ⟨Up U p, e, ds[i], e2, l.sa, rx, hg, fun σ2 H3 st bt => ?_⟩
          have ew : L2.wipe σ2 vs = L2.wipe σ vs := (wipe_btw bt sub).trans (wipe_btw (btw_wipe σ vs) fun i h => h)
          have l2 := l.step st
          refine ⟨ew, Up U p, e2, st.sa, ?_⟩
          cases hb : mt e2 with
          | bad => simp only [hb] at hk; cases hk
          | er x e3 => simp only [hb] at hk; cases hk
          | ok b e3 =>
            simp only [hb] at hk
            intro b' H4 st2 rb
            obtain rfl : b' = b := rb
            have l3 := l2.step st2
            cases b' with
            | false =>
              refine iteF ⟨_, _, _, _, ?_, hk, rfl, rfl⟩
              rw [← ew]
              exact l3.wipe vs okv
            | true =>
              refine iteT ⟨Up U p, e3, l3.sa, ?_⟩
              simp only at hk
              subst hin
              generalize hin : lcIn vs1 mi1 mg1 mt1 (lcPush me) = inn at hk
              cases hz : inn acc e3 with
              | bad => simp only [hz] at hk; cases hk
              | er x e4 => simp only [hz] at hk; cases hk
              | ok acc1 e9 =>
                simp only [hz] at hk
                subst hin
                generalize hin : lcIn vs1 mi1 mg1 mt1 (lcPush me) = inn at hk ⊢
                unfold lcIn at hz
                cases hm : mi1 e3 with
                | bad => simp only [hm] at hz; cases hz
                | er x e4 => simp only [hm] at hz; cases hz
                | ok ds1 e4 =>
                  simp only [hm] at hz
                  intro J1 H5 st3 it1
                  have it1 : ItOk K (Ux (Up U p) e4 σ2) H5 ds1 J1 := it1
                  have l4 := l3.step st3
                  refine ⟨fun j k H' => k = ds1.length - j ∧ j ≤ ds1.length ∧ ∃ e acc, LcI K U e1 σ H1 p e (L2.wipe σ2 vs1) H' acc ∧ LcJ (Up U p) e4 σ2 H5 e (L2.wipe σ2 vs1) H' ∧ lcL vs1 mg1 mt1 (lcPush me) (ds1.drop j) acc e = .ok acc1 e9, ⟨ds1.length, by simp, Nat.zero_le _, _, _, l4.wipe vs1 okv1, LcJ.start, hz⟩, ?_⟩
                  rintro j k H' ⟨rfl, hj, f, acc2, k1, k2, hq⟩
                  by_cases hlt1 : j < ds1.length
                  · refine .inr ⟨it1.go j H' hlt1 k2.gr, fun H6 => ∃ e acc, LcI K U e1 σ H1 p e (L2.wipe σ2 vs1) H6 acc ∧ LcJ (Up U p) e4 σ2 H5 e (L2.wipe σ2 vs1) H6 ∧ lcL vs1 mg1 mt1 (lcPush me) (ds1.drop (j + 1)) acc e = .ok acc1 e9, fun H6 h => ⟨ds1.length - (j + 1), by omega, rfl, hlt1, h⟩, fun x1 H6 y1 => ?_⟩
                    have hd1 : ds1[j]? = some ds1[j] := by simp [hlt1]
                    have ku : ∀ a o, ¬ Ux (Up U p) e4 σ2 a → H5 a = some o → ¬ Ux (Up U p) f (L2.wipe σ2 vs1) a := fun a o n h q => by
                      rcases q with q | q
                      · exact n (.inl q)
                      · exact (k2.fr a q).elim (fun c => n (.inr c)) fun z => by rw [h] at z; cases z
                    obtain ⟨sm, rx1⟩ := it1.yld j _ H' H6 x1 _ hd1 k2.gr ku k1.sa.alU y1
                    have k1 := k1.step ((Ste.refl k1.sa).same sm)
                    have k2 : LcJ (Up U p) e4 σ2 H5 f (L2.wipe σ2 vs1) H6 := ⟨fun a o n h => sm a o (k2.gr a o n h), k2.fr⟩
                    rw [List.drop_eq_getElem_cons hlt1] at hq
                    unfold lcL lcStep at hq
                    cases hg1 : mg1 ds1[j] f with
                    | none => simp only [hg1] at hq; cases hq
                    | some f2 =>
                      simp only [hg1] at hq
                      refine ⟨Up U p, f, ds1[j], f2, k1.sa, rx1, hg1, fun σ3 H7 st4 bt1 => ?_⟩
                      have ew1 : L2.wipe σ3 vs1 = L2.wipe σ2 vs1 := (wipe_btw bt1 sub1).trans (wipe_btw (btw_wipe σ2 vs1) fun i h => h)
                      have k3 := k1.step st4
                      have j3 := k2.step st4
                      refine ⟨ew1, Up U p, f2, st4.sa, ?_⟩
                      cases hb1 : mt1 f2 with
                      | bad => simp only [hb1] at hq; cases hq
                      | er x e3 => simp only [hb1] at hq; cases hq
                      | ok b f3 =>
                        simp only [hb1] at hq
                        intro b' H8 st5 rb
                        obtain rfl : b' = b := rb
                        have k4 := k3.step st5
                        have j4 := j3.step st5
                        cases b' with
                        | false =>
                          refine iteF ⟨_, _, ?_, ?_, hq⟩
                          · rw [← ew1]; exact k4.wipe vs1 okv1
                          · rw [← ew1]; exact j4.wipe vs1
                        | true =>
                          refine iteT ⟨Up U p, f3, k4.sa, ?_⟩
                          simp only [lcPush] at hq
                          cases hw : me f3 with
                          | bad => simp only [hw] at hq; cases hq
                          | er x e4 => simp only [hw] at hq; cases hq
                          | ok z f4 =>
                            simp only [hw] at hq
                            by_cases hl : acc2.length < sizeLine
                            · rw [if_pos hl] at hq
                              intro v H9 st6 rz
                              have k5 := k4.step st6
                              have j5 := j4.step st6
                              obtain ⟨xs, h1, h2, k6⟩ := k5.push rz
                              refine ⟨xs, h1, by rw [h2]; exact hl, _, _, ?_, ?_, hq⟩
                              · rw [← ew1]; exact k6.wipe vs1 okv1
                              · rw [← ew1]; exact (j5.push (.inr rfl)).wipe vs1
                            · rw [if_neg hl] at hq; cases hq
                  · have e : j = ds1.length := by omega
                    subst e
                    rw [List.drop_length] at hq
                    cases hq
                    refine .inl ⟨it1.stop _ H' (Nat.le_refl _) k2.gr rfl, _, _, _, _, ?_, hk, rfl, rfl⟩
                    have e2 : L2.wipe (L2.wipe σ2 vs1) vs = L2.wipe σ vs := (wipe_btw (btw_wipe σ2 vs1) hv).trans ew
                    rw [← e2]
                    exact k1.wipe vs okv
      · have e : i = ds.length := by omega
        subst e
        rw [List.drop_length] at hk
        cases hk
        exact .inl ⟨it.stop _ H' (Nat.le_refl _) (lc_kp l) rfl, po1 p H' ((l.fin a.sa okv).pre (.refl a.sa))⟩
  · rw [if_neg okv] at po1
    exact po1.elim
theorem ef_lc2 (hc : X.calm = true) (hN : X.N.Nodup) (hi : EvI X W tg iter mi) (ok : BlkOk X.N X.env.scope scope own) (hv : ∀ i ∈ vs1, i ∈ own.map (·.2))
    (hg : ∀ (s : Shared) (H : Hp) (C : Addr) (cl : List (Str × Addr)) (fp : List Addr), EvG (X.blk s H scope (compEnvC scope cl C X.env) fp) tg is mg) (ht : ∀ (s : Shared) (H : Hp) (C : Addr) (cl : List (Str × Addr)) (fp : List Addr), EvTs (X.blk s H scope (compEnvC scope cl C X.env) fp) ifs mt)
    (hi1 : ∀ (s : Shared) (H : Hp) (C : Addr) (cl : List (Str × Addr)) (fp : List Addr), EvI (X.blk s H scope (compEnvC scope cl C X.env) fp) W0 tg1 iter1 mi1)
    (hg1 : ∀ (s : Shared) (H : Hp) (C : Addr) (cl : List (Str × Addr)) (fp : List Addr), EvG (X.blk s H scope (compEnvC scope cl C X.env) fp) tg1 is1 mg1) (ht1 : ∀ (s : Shared) (H : Hp) (C : Addr) (cl : List (Str × Addr)) (fp : List Addr), EvTs (X.blk s H scope (compEnvC scope cl C X.env) fp) ifs1 mt1)
    (he : ∀ (s : Shared) (H : Hp) (C : Addr) (cl : List (Str × Addr)) (fp : List Addr), Ev (X.blk s H scope (compEnvC scope cl C X.env) fp) W0 elt me) (sub : ∀ i ∈ is, i ∈ own.map (·.2)) (sub1 : ∀ i ∈ is1, i ∈ vs1)
    (hs : ∀ x, foldedSetIterable iter X.env x = pure x := by intro _; rfl) (hs1 : ∀ env x, foldedSetIterable iter1 env x = pure x := by intro _ _; rfl) :
    EvF X W (.ListComp elt [⟨tg, iter, ifs, 0⟩, ⟨tg1, iter1, ifs1, 0⟩] scope pos) (mLc (own.map (·.2)) mi mg mt (lcIn vs1 mi1 mg1 mt1 (lcPush me))) :=
  PE_imp (pe_lc2 (g := tGt X.K is mg) (tt := tT X.K W0 mt) (wi1 := tM (RI X.K) X.K W0 mi1) (g1 := tGt X.K is1 mg1) (tt1 := tT X.K W0 mt1) (te := tE X.K W0 me) hc hN hi ok hv hg ht hi1 hg1 ht1 he hs hs1) fun σ H Q h => lc2_imp hv sub sub1 h
section
variable {i : Nat} {y : Str} {py spos : Pos}
theorem es_setLc2O (hc : X.calm = true) (hN : X.N.Nodup) (hy : X.N[i]? = some y) (hyl : X.env.scope.names.lookup y = some .local) (hsw : swapsWith (.ListComp elt [⟨tg, iter, ifs, 0⟩, ⟨tg1, iter1, ifs1, 0⟩] scope pos) (some (.Name y py)) spos.line X.env = pure true) (hi : EvI X W tg iter mi) (ok : BlkOk X.N X.env.scope scope own) (hv : ∀ i ∈ vs1, i ∈ own.map (·.2))
    (hg : ∀ (s : Shared) (H : Hp) (C : Addr) (cl : List (Str × Addr)) (fp : List Addr), EvG (X.blk s H scope (compEnvC scope cl C X.env) fp) tg is mg) (ht : ∀ (s : Shared) (H : Hp) (C : Addr) (cl : List (Str × Addr)) (fp : List Addr), EvTs (X.blk s H scope (compEnvC scope cl C X.env) fp) ifs mt)
    (hi1 : ∀ (s : Shared) (H : Hp) (C : Addr) (cl : List (Str × Addr)) (fp : List Addr), EvI (X.blk s H scope (compEnvC scope cl C X.env) fp) W0 tg1 iter1 mi1)
    (hg1 : ∀ (s : Shared) (H : Hp) (C : Addr) (cl : List (Str × Addr)) (fp : List Addr), EvG (X.blk s H scope (compEnvC scope cl C X.env) fp) tg1 is1 mg1) (ht1 : ∀ (s : Shared) (H : Hp) (C : Addr) (cl : List (Str × Addr)) (fp : List Addr), EvTs (X.blk s H scope (compEnvC scope cl C X.env) fp) ifs1 mt1)
    (he : ∀ (s : Shared) (H : Hp) (C : Addr) (cl : List (Str × Addr)) (fp : List Addr), Ev (X.blk s H scope (compEnvC scope cl C X.env) fp) W0 elt me) (sub : ∀ i ∈ is, i ∈ own.map (·.2)) (sub1 : ∀ i ∈ is1, i ∈ vs1)
    (hs : ∀ x, foldedSetIterable iter X.env x = pure x := by intro _; rfl) (hs1 : ∀ env x, foldedSetIterable iter1 env x = pure x := by intro _ _; rfl) :
    EvS X W (.Assign [.Name y py] (.ListComp elt [⟨tg, iter, ifs, 0⟩, ⟨tg1, iter1, ifs1, 0⟩] scope pos) spos) (mOw i (mLc (own.map (·.2)) mi mg mt (lcIn vs1 mi1 mg1 mt1 (lcPush me)))) :=
  PS_imp (ps_setLc2 (g := tGt X.K is mg) (tt := tT X.K W0 mt) (wi1 := tM (RI X.K) X.K W0 mi1) (g1 := tGt X.K is1 mg1) (tt1 := tT X.K W0 mt1) (te := tE X.K W0 me) hc hN hy hyl hsw hi ok hv hg ht hi1 hg1 ht1 he hs hs1) fun Dn σ H h => lc2_imp hv sub sub1 (own_imp h)
theorem es_setLc2V (hc : X.calm = true) (hN : X.N.Nodup) (hy : X.N[i]? = some y) (hyl : X.env.scope.names.lookup y = some .local) (hsw : swapsWith (.ListComp elt [⟨tg, iter, ifs, 0⟩, ⟨tg1, iter1, ifs1, 0⟩] scope pos) (some (.Name y py)) spos.line X.env = pure true) (hi : EvI X W tg iter mi) (ok : BlkOk X.N X.env.scope scope own) (hv : ∀ i ∈ vs1, i ∈ own.map (·.2))
    (hg : ∀ (s : Shared) (H : Hp) (C : Addr) (cl : List (Str × Addr)) (fp : List Addr), EvG (X.blk s H scope (compEnvC scope cl C X.env) fp) tg is mg) (ht : ∀ (s : Shared) (H : Hp) (C : Addr) (cl : List (Str × Addr)) (fp : List Addr), EvTs (X.blk s H scope (compEnvC scope cl C X.env) fp) ifs mt)
    (hi1 : ∀ (s : Shared) (H : Hp) (C : Addr) (cl : List (Str × Addr)) (fp : List Addr), EvI (X.blk s H scope (compEnvC scope cl C X.env) fp) W0 tg1 iter1 mi1)
    (hg1 : ∀ (s : Shared) (H : Hp) (C : Addr) (cl : List (Str × Addr)) (fp : List Addr), EvG (X.blk s H scope (compEnvC scope cl C X.env) fp) tg1 is1 mg1) (ht1 : ∀ (s : Shared) (H : Hp) (C : Addr) (cl : List (Str × Addr)) (fp : List Addr), EvTs (X.blk s H scope (compEnvC scope cl C X.env) fp) ifs1 mt1)
    (he : ∀ (s : Shared) (H : Hp) (C : Addr) (cl : List (Str × Addr)) (fp : List Addr), Ev (X.blk s H scope (compEnvC scope cl C X.env) fp) W0 elt me) (sub : ∀ i ∈ is, i ∈ own.map (·.2)) (sub1 : ∀ i ∈ is1, i ∈ vs1)
    (hs : ∀ x, foldedSetIterable iter X.env x = pure x := by intro _; rfl) (hs1 : ∀ env x, foldedSetIterable iter1 env x = pure x := by intro _ _; rfl) :
    EvS X W (.Assign [.Name y py] (.ListComp elt [⟨tg, iter, ifs, 0⟩, ⟨tg1, iter1, ifs1, 0⟩] scope pos) spos) (mAsg (gSet i) (xVal (mLc (own.map (·.2)) mi mg mt (lcIn vs1 mi1 mg1 mt1 (lcPush me))))) :=
  PS_imp (ps_setLc2 (g := tGt X.K is mg) (tt := tT X.K W0 mt) (wi1 := tM (RI X.K) X.K W0 mi1) (g1 := tGt X.K is1 mg1) (tt1 := tT X.K W0 mt1) (te := tE X.K W0 me) hc hN hy hyl hsw hi ok hv hg ht hi1 hg1 ht1 he hs hs1) fun Dn σ H h => lc2_imp hv sub sub1 (val_imp h)
end
end
end Mi

set_option Elab.async false
set_option linter.all false
set_option maxRecDepth 100000
set_option maxHeartbeats 4000000
/-! Mi15: the built-in functions on trees -/
namespace Mi
open PySem PySem.Spec L2
section
variable {K : PySem.W.Frag} {U : Addr → Prop} {H : Hp}
theorem Reps.one {d : D} {xs : List V} (r : Reps K U H [d] xs) : ∃ x, xs = [x] ∧ Rep K U H d x := by
  obtain ⟨x, t, e, r, e'⟩ := r
  exact ⟨x, by rw [e, show t = _ from e'], r⟩
theorem Reps.two {d e : D} {xs : List V} (r : Reps K U H [d, e] xs) : ∃ x y, xs = [x, y] ∧ Rep K U H d x ∧ Rep K U H e y := by
  obtain ⟨x, t, e, r, y, t', e', r', e''⟩ := r
  exact ⟨x, y, by rw [e, e', show t' = _ from e''], r, r'⟩
/-- a list of ints -/
def intsD : List D → Option (List Int)
  | [] => some []
  | .int i :: ds => (intsD ds).map fun r => i :: r
  | _ :: _ => none
def blsD : List D → Option (List Bool)
  | [] => some []
  | .bl i :: ds => (blsD ds).map fun r => i :: r
  | _ :: _ => none
def strsD : List D → Option (List Str)
  | [] => some []
  | .str i :: ds => (strsD ds).map fun r => i :: r
  | _ :: _ => none
theorem intsD_v : ∀ {ds : List D} {ns : List Int} {xs : List V}, intsD ds = some ns → Reps K U H ds xs → xs = ns.map V.int
  | [], ns, xs, h, r => by simp [intsD] at h; subst h; exact r
  | d :: ds, ns, xs, h, ⟨x, t, e, r1, r2⟩ => by
    cases d <;> simp only [intsD, reduceCtorEq] at h
    obtain ⟨r, h1, rfl⟩ := Option.map_eq_some_iff.mp h
    rw [e, show x = _ from r1, intsD_v h1 r2]; rfl
theorem blsD_v : ∀ {ds : List D} {ns : List Bool} {xs : List V}, blsD ds = some ns → Reps K U H ds xs → xs = ns.map V.bl
  | [], ns, xs, h, r => by simp [blsD] at h; subst h; exact r
  | d :: ds, ns, xs, h, ⟨x, t, e, r1, r2⟩ => by
    cases d <;> simp only [blsD, reduceCtorEq] at h
    obtain ⟨r, h1, rfl⟩ := Option.map_eq_some_iff.mp h
    rw [e, show x = _ from r1, blsD_v h1 r2]; rfl
theorem strsD_v : ∀ {ds : List D} {ns : List Str} {xs : List V}, strsD ds = some ns → Reps K U H ds xs → xs = ns.map V.str
  | [], ns, xs, h, r => by simp [strsD] at h; subst h; exact r
  | d :: ds, ns, xs, h, ⟨x, t, e, r1, r2⟩ => by
    cases d <;> simp only [strsD, reduceCtorEq] at h
    obtain ⟨r, h1, rfl⟩ := Option.map_eq_some_iff.mp h
    rw [e, show x = _ from r1, strsD_v h1 r2]; rfl
/-! ### len -/
def gLen : List D → Option D
  | [.tup ds] => some (.int ds.length)
  | [.lst ds] => some (.int ds.length)
  | [.fz ds] => some (.int ds.length)
  | [.str x] => if x.length ≤ sizeLine then some (.int x.length) else none
  | [.dct _ ks _] => some (.int ks.length)
  | _ => none
def rLenM (K : PySem.W.Frag) : List V → Hp → VK → Prop := fun xs H Q => (∃ x n, xs = [x] ∧ LenV K x H n ∧ Q (.int n) H) ∨ ((∃ a kvs, xs = [V.ref a] ∧ H a = some (.dK kvs) ∧ Q (.int kvs.length) H) ∨ rLenT xs H Q)
theorem cr_len {X : Cx} : CallR X (.builtin "len") (rLenM X.K) := CallR.or call_len (CallR.or call_lenD call_len_dT)
theorem n_len : SndN K gLen (rLenM K) := by
  intro U H xs ds z Q al r hz q
  match ds, hz, r with
  | [], hz, _ => cases hz
  | _ :: _ :: _, hz, _ => simp [gLen] at hz
  | [d], hz, r =>
    obtain ⟨x, rfl, rx⟩ := r.one
    cases d with
    | tup ds =>
      cases hz
      obtain ⟨a, vs, rfl, h, _, rs⟩ := rx.tup_sq
      exact .inl ⟨_, ds.length, rfl, .inr ⟨vs, .of h, rs.len.symm⟩, q _ H (Same.refl H) rfl⟩
    | lst ds =>
      cases hz
      obtain ⟨a, vs, rfl, h, _, rs⟩ := rx.lst_sq
      exact .inl ⟨_, ds.length, rfl, .inl ⟨vs, .of h, rs.len.symm⟩, q _ H (Same.refl H) rfl⟩
    | fz ds =>
      cases hz
      obtain ⟨a, vs, rfl, h, rs⟩ := rx
      exact .inl ⟨_, ds.length, rfl, .inl ⟨vs, h.sq, rs.len.symm⟩, q _ H (Same.refl H) rfl⟩
    | str w =>
      simp only [gLen, Option.ite_none_right_eq_some] at hz
      obtain ⟨h, e⟩ := hz
      cases e
      have rx : x = .str w := rx
      subst rx
      exact .inl ⟨_, w.length, rfl, ⟨h, rfl⟩, q _ H (Same.refl H) rfl⟩
    | dct t ks vs =>
      cases hz
      obtain ⟨a, xs, rfl, _, h, rs⟩ := rx
      cases t with
      | false =>
        obtain ⟨kvs, h1, h2, _⟩ := h
        have : kvs.length = ks.length := by simpa using (congrArg List.length h2).symm
        refine .inr (.inl ⟨a, kvs, rfl, h1, ?_⟩)
        rw [this]
        exact q _ H (Same.refl H) rfl
      | true =>
        obtain ⟨kvs, h1, h2, _⟩ := h
        have : kvs.length = ks.length := by simpa using (congrArg List.length h2).symm
        refine .inr (.inr ⟨a, kvs, rfl, h1, ?_⟩)
        rw [this]
        exact q _ H (Same.refl H) rfl
    | _ => simp [gLen] at hz
/-! ### int, str, abs, max, min -/
def gInt : List D → Option D
  | [.int i] => some (.int i)
  | [.bl b] => some (.int (if b then 1 else 0))
  | [.str x] => if x.length ≤ 640 then (PySem.intText? x).map .int else none
  | _ => none
def rIntM : List V → Hp → VK → Prop := fun xs H Q => ((∃ i, xs = [.int i] ∧ Q (.int i) H) ∨ ∃ k, xs = [.bl k] ∧ Q (.int (if k then 1 else 0)) H) ∨ (∃ a n, xs = [.str a] ∧ PySem.intText? a = some n ∧ a.length ≤ 640 ∧ Q (.int n) H)
theorem cr_int {X : Cx} : CallR X (.type "int") rIntM := CallR.or call_int1 call_int_str
theorem n_int : SndN K gInt rIntM := by
  intro U H xs ds z Q al r hz q
  match ds, hz, r with
  | [], hz, _ => cases hz
  | _ :: _ :: _, hz, _ => simp [gInt] at hz
  | [d], hz, r =>
    obtain ⟨x, rfl, rx⟩ := r.one
    cases d with
    | int i => cases hz; exact .inl (.inl ⟨i, by rw [show x = _ from rx], q _ H (Same.refl H) rfl⟩)
    | bl i => cases hz; exact .inl (.inr ⟨i, by rw [show x = _ from rx], q _ H (Same.refl H) rfl⟩)
    | str w =>
      simp only [gInt, Option.ite_none_right_eq_some] at hz
      obtain ⟨h, e⟩ := hz
      obtain ⟨n, hn, rfl⟩ := Option.map_eq_some_iff.mp e
      exact .inr ⟨w, n, by rw [show x = _ from rx], hn, h, q _ H (Same.refl H) rfl⟩
    | _ => simp [gInt] at hz
def gStr : List D → Option D
  | [.int i] => if i.natAbs.log2 < 1920 then some (.str (toString i : String)) else none
  | _ => none
theorem n_str : SndN K gStr (fun xs H Q => ∃ i : Int, xs = [.int i] ∧ i.natAbs.log2 < 1920 ∧ Q (.str (toString i : String)) H) := by
  intro U H xs ds z Q al r hz q
  match ds, hz, r with
  | [], hz, _ => cases hz
  | _ :: _ :: _, hz, _ => simp [gStr] at hz
  | [d], hz, r =>
    obtain ⟨x, rfl, rx⟩ := r.one
    cases d with
    | int i =>
      simp only [gStr, Option.ite_none_right_eq_some] at hz
      obtain ⟨h, e⟩ := hz
      cases e
      exact ⟨i, by rw [show x = _ from rx], h, q _ H (Same.refl H) rfl⟩
    | _ => simp [gStr] at hz
def gAbs : List D → Option D
  | [.int i] => some (.int (if i < 0 then -i else i))
  | _ => none
theorem n_abs : SndN K gAbs (fun xs H Q => ∃ i, xs = [.int i] ∧ Q (.int (if i < 0 then -i else i)) H) := by
  intro U H xs ds z Q al r hz q
  match ds, hz, r with
  | [], hz, _ => cases hz
  | _ :: _ :: _, hz, _ => simp [gAbs] at hz
  | [d], hz, r =>
    obtain ⟨x, rfl, rx⟩ := r.one
    cases d with
    | int i => cases hz; exact ⟨i, by rw [show x = _ from rx], q _ H (Same.refl H) rfl⟩
    | _ => simp [gAbs] at hz
/-- of two ints -/
def gII (f : Int → Int → Int) : List D → Option D
  | [.int i, .int j] => some (.int (f i j))
  | _ => none
theorem n_ii {f : Int → Int → Int} : SndN K (gII f) (fun xs H Q => ∃ i j, xs = [.int i, .int j] ∧ Q (.int (f i j)) H) := by
  intro U H xs ds z Q al r hz q
  match ds, hz, r with
  | [], hz, _ => cases hz
  | [_], hz, _ => simp [gII] at hz
  | _ :: _ :: _ :: _, hz, _ => simp [gII] at hz
  | [d, e], hz, r =>
    obtain ⟨x, y, rfl, rx, ry⟩ := r.two
    cases d <;> cases e <;> simp [gII] at hz
    subst hz
    exact ⟨_, _, by rw [show x = _ from rx, show y = _ from ry], q _ H (Same.refl H) rfl⟩
abbrev gMax2 : List D → Option D := gII fun i j => if j > i then j else i
abbrev gMin2 : List D → Option D := gII fun i j => if j < i then j else i
/-! ### all, any, sum, of lists -/
def gAll : List D → Option D
  | [.lst ds] => (blsD ds).map fun bs => .bl (bs.all id)
  | _ => none
def gAny : List D → Option D
  | [.lst ds] => (blsD ds).map fun bs => .bl (bs.any id)
  | _ => none
theorem lst1 {g : List D → Option D} (h0 : g [] = none) (h2 : ∀ a b c, g (a :: b :: c) = none) (h1 : ∀ d, (∀ ds, d ≠ .lst ds) → g [d] = none) {ds : List D} {z : D} (hz : g ds = some z) : ∃ es, ds = [.lst es] := by
  match ds, hz with
  | [], hz => rw [h0] at hz; cases hz
  | a :: b :: c, hz => rw [h2] at hz; cases hz
  | [d], hz =>
    by_cases h : ∃ es, d = .lst es
    · obtain ⟨es, rfl⟩ := h; exact ⟨es, rfl⟩
    · rw [h1 d fun ds e => h ⟨ds, e⟩] at hz; cases hz
theorem n_all : SndN K gAll (rAll K) := by
  intro U H xs ds z Q al r hz q
  obtain ⟨es, rfl⟩ := lst1 (g := gAll) rfl (fun _ _ _ => by simp [gAll]) (fun d h => by cases d <;> first | rfl | exact absurd rfl (h _)) hz
  obtain ⟨bs, hb, rfl⟩ := Option.map_eq_some_iff.mp hz
  obtain ⟨x, rfl, rx⟩ := r.one
  obtain ⟨a, vs, rfl, h, _, rs⟩ := rx.lst_sq
  exact ⟨a, bs, rfl, .of (by rw [h, blsD_v hb rs]), q _ H (Same.refl H) rfl⟩
theorem n_any : SndN K gAny (rAny K) := by
  intro U H xs ds z Q al r hz q
  obtain ⟨es, rfl⟩ := lst1 (g := gAny) rfl (fun _ _ _ => by simp [gAny]) (fun d h => by cases d <;> first | rfl | exact absurd rfl (h _)) hz
  obtain ⟨bs, hb, rfl⟩ := Option.map_eq_some_iff.mp hz
  obtain ⟨x, rfl, rx⟩ := r.one
  obtain ⟨a, vs, rfl, h, _, rs⟩ := rx.lst_sq
  exact ⟨a, bs, rfl, .of (by rw [h, blsD_v hb rs]), q _ H (Same.refl H) rfl⟩
/-! ### tuple, list -/
def gTuple : List D → Option D
  | [.lst ds] => some (.tup ds)
  | [.tup ds] => some (.tup ds)
  | _ => none
def rTupleM (K : PySem.W.Frag) : List V → Hp → VK → Prop := fun xs H Q => ∃ p ys, xs = [.ref p] ∧ ((SqL K H p ys ∧ ∀ l, H l = none → Q (.ref l) (upd H l (.tup ys))) ∨ (SqT K H p ys ∧ Q (.ref p) H))
theorem n_tuple : SndN K gTuple (rTupleM K) := by
  intro U H xs ds z Q al r hz q
  match ds, hz, r with
  | [], hz, _ => cases hz
  | _ :: _ :: _, hz, _ => simp [gTuple] at hz
  | [d], hz, r =>
    obtain ⟨x, rfl, rx⟩ := r.one
    cases d with
    | lst ds =>
      cases hz
      obtain ⟨a, vs, rfl, h, _, rs⟩ := rx.lst_sq
      exact ⟨a, vs, rfl, .inl ⟨.of h, fun p hp => q _ _ (same_new hp) (rep_tup_new al hp rs)⟩⟩
    | tup ds =>
      cases hz
      have rx' := rx
      obtain ⟨a, vs, rfl, h, _, rs⟩ := rx.tup_sq
      exact ⟨a, vs, rfl, .inr ⟨.of h, q _ _ (Same.refl H) rx'⟩⟩
    | _ => simp [gTuple] at hz
def gList : List D → Option D
  | [.lst ds] => some (.lst ds)
  | [.tup ds] => some (.lst ds)
  | _ => none
theorem n_list : SndN K gList (fun xs H Q => ∃ p ys, xs = [.ref p] ∧ (SqL K H p ys ∨ SqT K H p ys) ∧ ∀ l, H l = none → Q (.ref l) (upd H l (.lst ys))) := by
  intro U H xs ds z Q al r hz q
  match ds, hz, r with
  | [], hz, _ => cases hz
  | _ :: _ :: _, hz, _ => simp [gList] at hz
  | [d], hz, r =>
    obtain ⟨x, rfl, rx⟩ := r.one
    cases d with
    | lst ds =>
      cases hz
      obtain ⟨a, vs, rfl, h, _, rs⟩ := rx.lst_sq
      exact ⟨a, vs, rfl, .inl (.of h), fun p hp => q _ _ (same_new hp) (rep_lst_new al hp rs)⟩
    | tup ds =>
      cases hz
      obtain ⟨a, vs, rfl, h, _, rs⟩ := rx.tup_sq
      exact ⟨a, vs, rfl, .inr (.of h), fun p hp => q _ _ (same_new hp) (rep_lst_new al hp rs)⟩
    | _ => simp [gList] at hz
end
/-! ### isinstance -/
/-- the type of what is no object of an own class -/
def tyD : D → Option String
  | .non => some "NoneType"
  | .bl _ => some "bool"
  | .int _ => some "int"
  | .str _ => some "str"
  | .tup _ => some "tuple"
  | .lst _ => some "list"
  | .dct _ _ _ => some "dict"
  | .obj _ _ _ => none
  | .fz _ => none
theorem tyD_v {K : PySem.W.Frag} {U : Addr → Prop} {H : Hp} {d : D} {x : V} {t : String} (h : tyD d = some t) (r : Rep K U H d x) : TyX K H x (.type t) := by
  cases d with
  | non => cases h; rw [show x = _ from r]; exact .base .non
  | bl b => cases h; rw [show x = _ from r]; exact .base (.bl b)
  | int b => cases h; rw [show x = _ from r]; exact .base (.int b)
  | str b => cases h; rw [show x = _ from r]; exact .base (.str b)
  | tup ds => cases h; obtain ⟨a, vs, rfl, h, _, rs⟩ := r.tup_sq; exact .base (.tup h)
  | lst ds => cases h; obtain ⟨a, vs, rfl, h, _, rs⟩ := r.lst_sq; exact .base (.lst h)
  | dct t ks vs =>
    cases h
    obtain ⟨a, xs, rfl, _, h, rs⟩ := r
    cases t with
    | false => obtain ⟨kvs, h1, _⟩ := h; exact .base (.dK h1)
    | true => obtain ⟨kvs, h1, _⟩ := h; exact .base (.dT h1)
  | obj c ns vs => cases h
  | fz vs => cases h
/-- isinstance(e, T), T a built-in type -/
def IsT (f : D → Option Bool) (T : String) : Prop := ∀ d b, f d = some b → ∃ t, tyD d = some t ∧ kitB t T = some b
def isStrD : D → Option Bool
  | .str _ => some true
  | .obj _ _ _ => none
  | .fz _ => none
  | _ => some false
def isIntD : D → Option Bool
  | .int _ => some true
  | .bl _ => some true
  | .obj _ _ _ => none
  | .fz _ => none
  | _ => some false
def isBoolD : D → Option Bool
  | .bl _ => some true
  | .obj _ _ _ => none
  | .fz _ => none
  | _ => some false
def isTupD : D → Option Bool
  | .tup _ => some true
  | .obj _ _ _ => none
  | .fz _ => none
  | _ => some false
def isLstD : D → Option Bool
  | .lst _ => some true
  | .obj _ _ _ => none
  | .fz _ => none
  | _ => some false
def isDctD : D → Option Bool
  | .dct _ _ _ => some true
  | .obj _ _ _ => none
  | .fz _ => none
  | _ => some false
theorem is_str : IsT isStrD "str" := fun d b h => by cases d <;> cases h <;> exact ⟨_, rfl, by decide +kernel⟩
theorem is_int : IsT isIntD "int" := fun d b h => by cases d <;> cases h <;> exact ⟨_, rfl, by decide +kernel⟩
theorem is_bool : IsT isBoolD "bool" := fun d b h => by cases d <;> cases h <;> exact ⟨_, rfl, by decide +kernel⟩
theorem is_tup : IsT isTupD "tuple" := fun d b h => by cases d <;> cases h <;> exact ⟨_, rfl, by decide +kernel⟩
theorem is_lst : IsT isLstD "list" := fun d b h => by cases d <;> cases h <;> exact ⟨_, rfl, by decide +kernel⟩
theorem is_dct : IsT isDctD "dict" := fun d b h => by cases d <;> cases h <;> exact ⟨_, rfl, by decide +kernel⟩
def xIsi (f : D → Option Bool) (m : En → Rs D) : En → Rs D := fun env => (m env).bind fun d e => .of ((f d).map .bl) e
section
variable {X : Cx} {W : WX} {a c : Expr} {m : En → Rs D} {f : D → Option Bool} {T : String} {p pos : Pos}
theorem ev_isi (hf : IsT f T) (ha : Ev X W a m) (hc : PE X c (tC (.ty T))) (hg : Gl X "isinstance") (hm : X.mg "isinstance" = none) (hs1 : starEach [a, c] X.env = (false, eval a X.env) :: starEach [c] X.env := by rfl) (hs2 : starEach [c] X.env = (false, eval c X.env) :: starEach [] X.env := by rfl)
    (hpl : (backTo pos (starEach [c] X.env)).any (·.1) = false := by rfl) : Ev X W (.Call (.Name "isinstance" p) [a, c] [] pos) (xIsi f m) :=
  PE_imp (pe_callB call_isi hg hm (by decide +kernel) (pa_cons ha (pa_cons hc pa_nil hs2) hs1) (he := hs1) (hpl := hpl)) fun σ H Q ⟨U, env, sa, po⟩ => ⟨U, env, sa, Po.step po fun v H1 d e1 a r po1 => by
    obtain ⟨z, hz, q⟩ := Po.of_some a.sa po1
    obtain ⟨b, hb, rfl⟩ := Option.map_eq_some_iff.mp hz
    obtain ⟨t, ht, hk⟩ := hf d b hb
    exact ⟨v, .ty T, .type t, .type T, b, rfl, .ty T, tyD_v ht r, kit_ty hk, q _ H1 (Same.refl H1) rfl⟩⟩
end
end Mi

set_option Elab.async false
set_option linter.all false
set_option maxRecDepth 100000
set_option maxHeartbeats 4000000
/-! Mi16: zip and enumerate over lists, tuples and texts -/
namespace Mi
open PySem PySem.Spec L2
/-- a list, a tuple, a text -/
inductive Sc where
  | lst (a : Addr) | tup (a : Addr) | txt (x : Str) (t : Tok)
def Sc.ad : Sc → Addr → Prop
  | .lst a, b => b = a
  | .tup a, b => b = a
  | .txt _ _, _ => False
def Sc.val : Sc → Value
  | .lst a => .ref a
  | .tup a => .ref a
  | .txt x t => .str x t
def Sc.obj : Sc → Obj
  | .lst a => { cls := .type "list_iterator", data := .fields #[.ref a, .int 0 0] }
  | .tup a => { cls := .type "tuple_iterator", data := .fields #[.ref a, .int 0 0] }
  | .txt x t => { cls := .type (strIterType x), data := .fields #[.str x t, .int 0 0] }
def Sc.has (K : PySem.W.Frag) (H : Hp) (xs : List V) : Sc → Prop
  | .lst a => SqL K H a xs
  | .tup a => SqT K H a xs
  | .txt x _ => xs = x.cps.toList.map fun c => V.str ⟨#[c]⟩
def Sc.tn (it : Addr) (i : Nat) (h : Heap) : Sc → Prop
  | .lst a => h.IsListIter it a i
  | .tup a => h.IsTupleIter it a i
  | .txt x t => h.IsStrIter it (strIterType x) x t i
/-- what an iterator over it gives, in a state -/
structure ScD (P : Program) (w : World) (A : Around) (c : Sc) (it : Addr) (xs : List V) (fp : List Addr) (n : Nat) (Pv : Nat → Value → Prop) (St : Nat → Heap → Prop) (h : Heap) : Prop where
  dr : Draws P w A it fp n Pv St
  hn : n = xs.length
  hv : ∀ i v, Pv i v → ∃ x, xs[i]? = some x ∧ RelV x v
  into : ∀ i, c.tn it i h → St i h
  out : ∀ i h', St i h' → c.tn it i h'
  mem : it ∈ fp
  few : ∀ b ∈ fp, b = it ∨ c.ad b
section
variable {X : Cx} {pins : List (Addr × Obj)} {σ : St} {H : Hp} {s : Shared} {c : Sc} {it : Addr} {xs : List V}
theorem sc_draws (I : Inv X pins σ H s) (A : Around) (hh : A.handled = none) (h : c.has X.K H xs) (hne : ∀ b, c.ad b → b ≠ it) : ∃ fp n Pv St, ScD X.prog X.w A c it xs fp n Pv St s.heap := by
  cases c with
  | lst a =>
    obtain ⟨its, rv, p, hz⟩ := I.list h
    refine ⟨_, _, _, _, Draws.list hh it a (hne a rfl) its.toArray, ?_, fun i v h => ?_, fun i h => ⟨h, p.isList⟩, fun i h' st => st.1, by simp, fun b hb => by simpa [Sc.ad] using hb⟩
    · rw [List.size_toArray, rv.length]
    · have h : its[i]? = some v := by simpa using h
      have hl : i < xs.length := by rw [rv.length]; exact (List.getElem?_eq_some_iff.mp h).1
      obtain ⟨u, e, r⟩ := rv.get (List.getElem?_eq_getElem hl)
      rw [h] at e
      cases e
      exact ⟨_, List.getElem?_eq_getElem hl, r⟩
  | tup a =>
    obtain ⟨its, rv, p, hz⟩ := I.tuple h
    refine ⟨_, _, _, _, Draws.tuple hh it a (hne a rfl) its.toArray, ?_, fun i v h => ?_, fun i h => ⟨h, p⟩, fun i h' st => st.1, by simp, fun b hb => by simpa [Sc.ad] using hb⟩
    · rw [List.size_toArray, rv.length]
    · have h : its[i]? = some v := by simpa using h
      have hl : i < xs.length := by rw [rv.length]; exact (List.getElem?_eq_some_iff.mp h).1
      obtain ⟨u, e, r⟩ := rv.get (List.getElem?_eq_getElem hl)
      rw [h] at e
      cases e
      exact ⟨_, List.getElem?_eq_getElem hl, r⟩
  | txt x t =>
    have h : xs = x.cps.toList.map fun c => V.str ⟨#[c]⟩ := h
    subst h
    refine ⟨_, _, _, _, Draws.text hh it x t, by simp, fun i v ⟨c, u, hc, e⟩ => ⟨.str ⟨#[c]⟩, ?_, by rw [e]; exact ⟨u, rfl⟩⟩, fun i h => h, fun i h' st => st, by simp, fun b hb => .inl (by simpa using hb)⟩
    rw [List.getElem?_map, Array.getElem?_toList, hc]
    rfl
theorem sc_inj (I : Inv X pins σ H s) {ys : List V} (h : c.has X.K H xs) (h' : c.has X.K H ys) : xs = ys := by
  cases c with
  | lst a => exact I.list_inj h h'
  | tup a => exact I.tuple_inj h h'
  | txt x t => exact (show xs = _ from h).trans (show ys = _ from h').symm
theorem sc_begins (I : Inv X pins σ H s) (h : c.has X.K H xs) : ∃ Hb : Heap → Prop, Begins c.val c.obj Hb ∧ Hb s.heap ∧ ∀ h' it, h'.get? it = some c.obj → c.tn it 0 h' := by
  cases c with
  | lst a =>
    obtain ⟨its, rv, p, hz⟩ := I.list h
    exact ⟨_, begins_list a its.toArray, p.isList, fun h' it e => ⟨_, e, rfl, rfl⟩⟩
  | tup a =>
    obtain ⟨its, rv, p, hz⟩ := I.tuple h
    exact ⟨_, begins_tuple a its.toArray, p, fun h' it e => ⟨_, e, rfl, rfl⟩⟩
  | txt x t => exact ⟨_, begins_text x t, trivial, fun h' it e => ⟨_, e, rfl, rfl⟩⟩
theorem sc_old (I : Inv X pins σ H s) (h : c.has X.K H xs) {b : Addr} (hb : c.ad b) : b < s.heap.objs.size := by
  cases c with
  | lst a => obtain ⟨its, rv, p, hz⟩ := I.list h; rw [show b = a from hb]; exact p.lt
  | tup a => obtain ⟨its, rv, p, hz⟩ := I.tuple h; rw [show b = a from hb]; obtain ⟨o, e, _⟩ := p; exact Heap.lt_size e
  | txt x t => exact (show False from hb).elim
theorem tn_obj {c : Sc} {it : Addr} {i : Nat} {h : Heap} (t : c.tn it i h) : ∃ o vs, h.get? it = some o ∧ o.data = .fields vs ∧ ∀ h', h'.get? it = some o → c.tn it i h' := by
  cases c with
  | lst a => obtain ⟨o, e, c, d⟩ := t; exact ⟨o, _, e, d, fun h' e' => ⟨o, e', c, d⟩⟩
  | tup a => obtain ⟨o, e, c, d⟩ := t; exact ⟨o, _, e, d, fun h' e' => ⟨o, e', c, d⟩⟩
  | txt x t => obtain ⟨o, e, c, d⟩ := t; exact ⟨o, _, e, d, fun h' e' => ⟨o, e', c, d⟩⟩
end
/-! ### zip -/
structure ZAp (z TI TO i1 i2 : Addr) (c d : Sc) : Prop where
  nd : [z, TI, TO, i1, i2].Nodup
  ap : ∀ b, c.ad b ∨ d.ad b → b ∉ [z, TI, TO, i1, i2]
theorem ZAp.sep {z TI TO i1 i2 : Addr} {c d : Sc} (a : ZAp z TI TO i1 i2 c d) {fp1 fp2 : List Addr} (m1 : i1 ∈ fp1) (m2 : i2 ∈ fp2) (f1 : ∀ b ∈ fp1, b = i1 ∨ c.ad b) (f2 : ∀ b ∈ fp2, b = i2 ∨ d.ad b) : ZipSep2 z TI TO i1 i2 fp1 fp2 := by
  have nd := a.nd
  simp only [List.nodup_cons, List.mem_cons, List.mem_nil_iff, or_false, not_or] at nd
  obtain ⟨⟨a1, a2, a3, a4⟩, ⟨b1, b2, b3⟩, ⟨c1, c2⟩, d1, _⟩ := nd
  have no1 : ∀ {b}, b ∈ [z, TI, TO, i2] → b ∉ fp1 := fun {b} hb hm => by
    rcases f1 b hm with e | e
    · subst e
      simp only [List.mem_cons, List.mem_nil_iff, or_false] at hb
      rcases hb with q | q | q | q
      · exact a3 q.symm
      · exact b2 q.symm
      · exact c1 q.symm
      · exact d1 q
    · refine a.ap b (.inl e) ?_
      simp only [List.mem_cons, List.mem_nil_iff, or_false] at hb ⊢
      rcases hb with q | q | q | q <;> simp [q]
  have no2 : ∀ {b}, b ∈ [z, TI, TO, i1] → b ∉ fp2 := fun {b} hb hm => by
    rcases f2 b hm with e | e
    · subst e
      simp only [List.mem_cons, List.mem_nil_iff, or_false] at hb
      rcases hb with q | q | q | q
      · exact a4 q.symm
      · exact b3 q.symm
      · exact c2 q.symm
      · exact d1 q.symm
    · refine a.ap b (.inr e) ?_
      simp only [List.mem_cons, List.mem_nil_iff, or_false] at hb ⊢
      rcases hb with q | q | q | q <;> simp [q]
  exact ⟨Ne.symm a1, Ne.symm a2, b1, b2, m1, no1 (by simp), no1 (by simp), b3, m2, no2 (by simp), no2 (by simp), no2 (by simp), no1 (by simp)⟩
def ItZ (K : PySem.W.Frag) (c d : Sc) : It :=
  ⟨fun i H => ∃ (xs ys : List V), c.has K H xs ∧ d.has K H ys ∧ i < xs.length ∧ i < ys.length,
    fun i H v H' => ∃ T x y, v = .ref T ∧ H T = none ∧ H' = upd H T (.tup [x, y]) ∧ (∀ xs, c.has K H xs → xs[i]? = some x) ∧ ∀ ys, d.has K H ys → ys[i]? = some y,
    fun i H => ∃ xs ys : List V, c.has K H xs ∧ d.has K H ys ∧ i ≤ xs.length ∧ i ≤ ys.length ∧ (i = xs.length ∨ i = ys.length)⟩
theorem turn_zipM {P : Program} {w : World} {K : PySem.W.Frag} {elts : List Expr} {kk : Nat} {tpos : Pos} {c d : Sc} {z TI TO i1 i2 : Addr} (D : ZAp z TI TO i1 i2 c d) :
    Turn P w K (.Tuple elts kk tpos) (ItZ K c d) [z, TI, TO, i1, i2] z (fun i h => IsZip h z TI TO .none ∧ IsTupOf2 h TI (.ref i1) (.ref i2) ∧ (∃ x y, IsTupOf2 h TO x y) ∧ c.tn i1 i h ∧ d.tn i2 i h) where
  mem := by simp
  obj := fun i h st b hb => by
    obtain ⟨hz, hTI, ⟨x, y, hTO⟩, h1, h2⟩ := st
    obtain ⟨o1, v1, e1, d1, _⟩ := tn_obj h1
    obtain ⟨o2, v2, e2, d2, _⟩ := tn_obj h2
    have e' : b = z ∨ b = TI ∨ b = TO ∨ b = i1 ∨ b = i2 := by simpa using hb
    rcases e' with q | q | q | q | q
    · rw [q]; exact ⟨_, hz, fun v q => nomatch q⟩
    · rw [q]; exact ⟨_, hTI, fun v q => nomatch q⟩
    · rw [q]; exact ⟨_, hTO, fun v q => nomatch q⟩
    · rw [q]; exact ⟨o1, e1, fun v q => by rw [d1] at q; cases q⟩
    · rw [q]; exact ⟨o2, e2, fun v q => by rw [d2] at q; cases q⟩
  keep := fun i h h' st k => by
    obtain ⟨hz, hTI, ⟨x, y, hTO⟩, h1, h2⟩ := st
    obtain ⟨o1, v1, e1, d1, k1⟩ := tn_obj h1
    obtain ⟨o2, v2, e2, d2, k2⟩ := tn_obj h2
    exact ⟨k z (by simp) _ hz, k TI (by simp) _ hTI, ⟨x, y, k TO (by simp) _ hTO⟩, k1 _ (k i1 (by simp) _ e1), k2 _ (k i2 (by simp) _ e2)⟩
  item := by
    intro X hP hw hK hc i pins s σ H E I hf st hg
    subst hP hw hK
    obtain ⟨hz, hTI, ⟨x0, y0, hTO⟩, h1, h2⟩ := st
    obtain ⟨xs, ys, hx, hy, lx, ly⟩ := hg
    have hd := I.ok.hd hc
    obtain ⟨fp1, n1, P1, St1, D1⟩ := sc_draws (it := i1) I X.A.in1 hd hx fun b hb e => D.ap b (.inl hb) (by simp [e])
    obtain ⟨fp2, n2, P2, St2, D2⟩ := sc_draws (it := i2) I X.A.in1 hd hy fun b hb e => D.ap b (.inr hb) (by simp [e])
    have S := D.sep D1.mem D2.mem D1.few D2.few
    have hzl : z < s.heap.objs.size := Heap.lt_size hz
    have nd := D.nd
    simp only [List.nodup_cons, List.mem_cons, List.mem_nil_iff, or_false, not_or] at nd
    obtain ⟨⟨a1, a2, a3, a4⟩, ⟨b1, b2, b3⟩, ⟨c1, c2⟩, d1, _⟩ := nd
    refine wpAny_pyNext_zipD2_item S D1.dr D2.dr hz hTI hTO (D1.into i h1) (D2.into i h2) (by rw [D1.hn]; exact lx) (by rw [D2.hn]; exact ly) fun u u2 h' tk p1 p2 z' TO' s1 s2 hT hsz hk => ?_
    obtain ⟨x, ex, rx⟩ := D1.hv i u p1
    obtain ⟨y, ey, ry⟩ := D2.hv i u2 p2
    refine ⟨_, rfl, wpAny_letOwnedTupleGo_zip (s := { s with heap := h', toks := tk }) z' fun h'' z'' sb => ?_⟩
    have hT2 : h''.get? s.heap.objs.size = some { cls := .type "tuple", data := .seq #[u, u2] } := (sb.2 _ (Nat.ne_of_gt hzl)).trans hT
    have new : ObjOk X.prog X.w (upd H s.heap.objs.size (.tup [x, y])) h'' s.heap.objs.size (.tup [x, y]) :=
      ⟨by show 2 ≤ sizeLine; decide, [u, u2], .cons rx (.cons ry .nil), ⟨_, hT2, rfl, _, rfl⟩⟩
    have I1 : Inv X pins σ (upd H s.heap.objs.size (.tup [x, y])) { s with heap := h'', toks := tk } :=
      I.turnedNew (t' := tk) (ch := [z, TI, TO, i1, i2]) (fun c o hb q => (sb.2 c (fun q' => hb (by simp [q']))).trans (hk c o (fun q' => hb (by simp [q'])) (fun q' => hb (by simp [q'])) (fun q' => hb (by simp [q'])) (fun q' => hb (by simp [q'])) q)) hf (Nat.le_refl _) new
    obtain ⟨_, _, e1, _, k1⟩ := tn_obj (D1.out _ _ s1)
    obtain ⟨_, _, e2, _, k2⟩ := tn_obj (D2.out _ _ s2)
    refine ⟨.ref s.heap.objs.size, _, I1, rfl, ⟨_, x, y, rfl, I.hok.fresh (Nat.le_refl _), rfl, fun l hl => by rw [sc_inj I hl hx]; exact ex, fun l hl => by rw [sc_inj I hl hy]; exact ey⟩, ⟨z'', ?_, ⟨u, u2, ?_⟩, ?_, ?_⟩, fun c hcm => ?_⟩
    · exact (sb.2 _ (Ne.symm a1)).trans (hk _ _ (Ne.symm a1) b1 b2 b3 hTI)
    · exact (sb.2 _ (Ne.symm a2)).trans TO'
    · exact k1 _ ((sb.2 _ (Ne.symm a3)).trans e1)
    · exact k2 _ ((sb.2 _ (Ne.symm a4)).trans e2)
    · have hlt : c < s.heap.objs.size := by
        obtain ⟨_, _, e1, _, _⟩ := tn_obj h1
        obtain ⟨_, _, e2, _, _⟩ := tn_obj h2
        have e' : c = z ∨ c = TI ∨ c = TO ∨ c = i1 ∨ c = i2 := by simpa using hcm
        rcases e' with q | q | q | q | q
        · rw [q]; exact hzl
        · rw [q]; exact Heap.lt_size hTI
        · rw [q]; exact Heap.lt_size hTO
        · rw [q]; exact Heap.lt_size e1
        · rw [q]; exact Heap.lt_size e2
      rw [upd_ne (Nat.ne_of_lt hlt)]
      exact (hf c hcm).1
  done := by
    intro X hP hw hK hc i pins s σ H E I hf st hg
    subst hP hw hK
    obtain ⟨hz, hTI, ⟨x0, y0, hTO⟩, h1, h2⟩ := st
    obtain ⟨xs, ys, hx, hy, lx, ly, hend⟩ := hg
    have hd := I.ok.hd hc
    obtain ⟨fp1, n1, P1, St1, D1⟩ := sc_draws (it := i1) I X.A.in1 hd hx fun b hb e => D.ap b (.inl hb) (by simp [e])
    obtain ⟨fp2, n2, P2, St2, D2⟩ := sc_draws (it := i2) I X.A.in1 hd hy fun b hb e => D.ap b (.inr hb) (by simp [e])
    have S := D.sep D1.mem D2.mem D1.few D2.few
    refine wpAny_pyNext_zipD2_end S D1.dr D2.dr hz hTI hTO (D1.into i h1) (D2.into i h2) (by rw [D1.hn]; exact lx) (by rw [D2.hn]; exact ly) (by rw [D1.hn, D2.hn]; exact hend) fun h' tk hk => ⟨rfl, I.turnedL (t' := tk) (ch := [z, TI, TO, i1, i2]) (fun c o hb q =>
      hk c o (fun q' => hb (by simp [q'])) (fun q' => hb (by simp [q'])) (fun q' => hb (by simp [q'])) (fun q' => hb (by simp [q'])) q) hf⟩
  self := fun A i s Q E st h => wpAny_pyIter_zip st.1 h
end Mi

set_option Elab.async false
set_option linter.all false
set_option maxRecDepth 100000
set_option maxHeartbeats 4000000
/-! Mi17: enumerate; the rules of both -/
namespace Mi
open PySem PySem.Spec L2
def ItE (K : PySem.W.Frag) (c : Sc) : It :=
  ⟨fun i H => ∃ (xs : List V), c.has K H xs ∧ i < xs.length, fun i H v H' => ∃ T x, v = .ref T ∧ H T = none ∧ H' = upd H T (.tup [.int (i : Nat), x]) ∧ ∀ xs, c.has K H xs → xs[i]? = some x, fun i H => ∃ xs : List V, c.has K H xs ∧ i = xs.length⟩
theorem turn_enumM {P : Program} {w : World} {K : PySem.W.Frag} {elts : List Expr} {kk : Nat} {tpos : Pos} {c : Sc} (e it : Addr) (hne : e ≠ it) (hap : ∀ b, c.ad b → b ≠ e ∧ b ≠ it) :
    Turn P w K (.Tuple elts kk tpos) (ItE K c) [e, it] e (fun i h => (∃ old, IsEnum h e it ((i : Nat) : Int) old) ∧ c.tn it i h) where
  mem := by simp
  obj := fun i h st b hb => by
    obtain ⟨⟨old, he⟩, h1⟩ := st
    obtain ⟨o1, v1, e1, d1, _⟩ := tn_obj h1
    have e' : b = e ∨ b = it := by simpa using hb
    rcases e' with z | z
    · rw [z]; exact ⟨_, he, fun v q => nomatch q⟩
    · rw [z]; exact ⟨o1, e1, fun v q => by rw [d1] at q; cases q⟩
  keep := fun i h h' st k => by
    obtain ⟨⟨old, he⟩, h1⟩ := st
    obtain ⟨o1, v1, e1, d1, k1⟩ := tn_obj h1
    exact ⟨⟨old, k e (by simp) _ he⟩, k1 _ (k it (by simp) _ e1)⟩
  item := by
    intro X hP hw hK hc i pins s σ H E I hf st hg
    subst hP hw hK
    obtain ⟨⟨old, he⟩, hit⟩ := st
    obtain ⟨xs, hx, lx⟩ := hg
    have hd := I.ok.hd hc
    obtain ⟨fp1, n1, P1, St1, D1⟩ := sc_draws (it := it) I X.A.in1 hd hx fun b hb => (hap b hb).2
    have hel : e < s.heap.objs.size := Heap.lt_size he
    have hef : e ∉ fp1 := fun m => (D1.few e m).elim hne fun a => (hap e a).1 rfl
    refine wpAny_pyNext_enum_itemC D1.dr he (D1.into i hit) (by rw [D1.hn]; exact lx) hne hef fun u h' tk p1 ho s1 hT hsz hk => ?_
    obtain ⟨x, ex, rx⟩ := D1.hv i u p1
    refine ⟨_, rfl, wpAny_letOwnedTupleGo_enum (s := { s with heap := h', toks := tk + 1 }) ho fun h'' he' sb => ?_⟩
    have hT2 : h''.get? s.heap.objs.size = some { cls := .type "tuple", data := .seq #[.int i tk, u] } := (sb.2 _ (Nat.ne_of_gt hel)).trans hT
    have new : ObjOk X.prog X.w (upd H s.heap.objs.size (.tup [.int (i : Nat), x])) h'' s.heap.objs.size (.tup [.int (i : Nat), x]) :=
      ⟨by show 2 ≤ sizeLine; decide, [.int i tk, u], .cons ⟨_, rfl⟩ (.cons rx .nil), ⟨_, hT2, rfl, _, rfl⟩⟩
    have I1 : Inv X pins σ (upd H s.heap.objs.size (.tup [.int (i : Nat), x])) { s with heap := h'', toks := tk + 1 } :=
      I.turnedNew (ch := [e, it]) (fun b ob hb q => (sb.2 b (fun z => hb (by simp [z]))).trans (hk b ob (fun z => hb (by simp [z])) (fun z => hb (by simp [z])) q)) hf (Nat.le_refl _) new
    obtain ⟨_, _, e1, _, k1⟩ := tn_obj (D1.out _ _ s1)
    refine ⟨.ref s.heap.objs.size, _, I1, rfl, ⟨_, x, rfl, I.hok.fresh (Nat.le_refl _), rfl, fun ys hy => by rw [sc_inj I hy hx]; exact ex⟩, ⟨⟨u, ?_⟩, k1 _ ((sb.2 it (Ne.symm hne)).trans e1)⟩, fun b hb => ?_⟩
    · have e1 : ((i + 1 : Nat) : Int) = (i : Int) + 1 := by omega
      rw [e1]; exact he'
    · have hb' : b < s.heap.objs.size := by
        obtain ⟨_, _, e2, _, _⟩ := tn_obj hit
        have e' : b = e ∨ b = it := by simpa using hb
        rcases e' with z | z
        · rw [z]; exact hel
        · rw [z]; exact Heap.lt_size e2
      rw [upd_ne (Nat.ne_of_lt hb')]
      exact (hf b hb).1
  done := by
    intro X hP hw hK hc i pins s σ H E I hf st hg
    subst hP hw hK
    obtain ⟨⟨old, he⟩, hit⟩ := st
    obtain ⟨xs, hx, lx⟩ := hg
    have hd := I.ok.hd hc
    obtain ⟨fp1, n1, P1, St1, D1⟩ := sc_draws (it := it) I X.A.in1 hd hx fun b hb => (hap b hb).2
    have en : i = n1 := by rw [D1.hn]; exact lx
    subst en
    exact wpAny_pyNext_enum_endD D1.dr he (D1.into i hit) fun h' hk => ⟨rfl, I.turnedL (t' := s.toks) (ch := [e, it]) (fun c o hb q => hk c o (fun q1 => hb (by simp [q1])) q) hf⟩
  self := fun A i s Q E st h => let ⟨⟨_, he⟩, _⟩ := st; wpAny_pyIter_enum he h
theorem meets_enum1 {v : Value} {o : Obj} {H : Heap → Prop} (B : Begins v o H) :
    Meets (Builtin.«enumerate.__new__» ⟨[.type "enumerate", v], []⟩) (fun _ R s => H s.heap ∧
      R (.ok (.ret (.ref (s.heap.push o).objs.size))) { s with heap := (s.heap.push o).push { cls := .type "enumerate", data := .fields #[.none, .bool false, .ref s.heap.objs.size, rawInt 0, .none, .none] } }) :=
  .of_wp fun prog w A R s h => by
    obtain ⟨hp, g, d, tk, os⟩ := s; obtain ⟨h1, h⟩ := h
    have hsub := sub_enumerate
    have q1 : ∀ {A' : Around} {E : Value → Shared → Prop} {Q : Value → Shared → Prop}, Q (.ref hp.objs.size) ⟨hp.push o, g, d, tk, os⟩ → wpAny (model prog w) A' (pyIter v) Q E ⟨hp, g, d, tk, os⟩ :=
      fun q => B.iter prog w _ _ ⟨hp, g, d, tk, os⟩ _ h1 q
    wp_walk using q1
    refine wpAny_stack_any fun st => wpAny_pure ?_
    split
    · rename_i c _ _ _ _ _
      cases (c == Value.type "enumerate")
      · wp_walk using q1
        exact ⟨_, rfl, h⟩
      · wp_walk using q1
        exact ⟨_, rfl, h⟩
    · wp_walk using q1
      exact ⟨_, rfl, h⟩
theorem enum1_begins {prog : Program} {w : World} {A : Around} {E : Value → Shared → Prop} {s : Shared} {v : Value} {o : Obj} {H : Heap → Prop} {Q : Value → Shared → Prop} (B : Begins v o H) (h1 : H s.heap)
    (h : ∀ h', IsEnum h' (s.heap.objs.size + 1) s.heap.objs.size 0 .none → h'.get? s.heap.objs.size = some o → (∀ b o, s.heap.get? b = some o → h'.get? b = some o) → Q (.ref (s.heap.objs.size + 1)) { s with heap := h' }) :
    wpAny (model prog w) A (call (.type "enumerate") [v]) Q E s := by
  refine callType_new F.called_enumerate (by decide) (F.typeCall_enumerate_1 _) (F.newCall_enumerate_1 _) (fun obj => F.args_object_init_2 obj _) F.entry_enumerate_new (meets_enum1 B) ⟨h1, ?_⟩
  have hz : (s.heap.push o).objs.size = s.heap.objs.size + 1 := Heap.size_push ..
  show _ ∧ _
  rw [hz]
  have he : IsEnum ((s.heap.push o).push { cls := .type "enumerate", data := .fields #[.none, .bool false, .ref s.heap.objs.size, rawInt 0, .none, .none] }) (s.heap.objs.size + 1) s.heap.objs.size 0 .none := by
    have := Heap.get?_push_size (s.heap.push o) (o := { cls := .type "enumerate", data := .fields #[.none, .bool false, .ref s.heap.objs.size, rawInt 0, .none, .none] }) rfl
    rw [hz] at this; exact this
  exact ⟨⟨_, he, rfl⟩, h _ he (Heap.get?_push_of_some _ (Heap.get?_push_size _ B.free)) fun b o x => Heap.get?_push_of_some _ (Heap.get?_push_of_some _ x)⟩
def Sc.is (x : V) : Sc → Prop
  | .lst a => x = .ref a
  | .tup a => x = .ref a
  | .txt z _ => x = .str z
theorem sc_is {x : V} {u : Value} {c : Sc} (h : c.is x) (r : RelV x u) : ∃ c' : Sc, c'.val = u ∧ (∀ K H xs, c'.has K H xs = c.has K H xs) := by
  cases c with
  | lst a => rw [show x = _ from h] at r; cases r; exact ⟨.lst a, rfl, fun _ _ _ => rfl⟩
  | tup a => rw [show x = _ from h] at r; cases r; exact ⟨.tup a, rfl, fun _ _ _ => rfl⟩
  | txt z t => rw [show x = _ from h] at r; obtain ⟨t', rfl⟩ := r; exact ⟨.txt z t', rfl, fun _ _ _ => rfl⟩
theorem ItE_has {K : PySem.W.Frag} {c c' : Sc} (h : ∀ K H xs, c'.has K H xs = c.has K H xs) : ItE K c' = ItE K c := by unfold ItE; simp only [h]
theorem ItZ_has {K : PySem.W.Frag} {c c' d d' : Sc} (h : ∀ K H xs, c'.has K H xs = c.has K H xs) (h2 : ∀ K H xs, d'.has K H xs = d.has K H xs) : ItZ K c' d' = ItZ K c d := by unfold ItZ; simp only [h, h2]
def iEnumM (K : PySem.W.Frag) (ta : TA) : TI := fun σ H R => ta σ H fun vs H1 => ∃ x c xs, vs = [x] ∧ c.is x ∧ Sc.has K H1 xs c ∧ R (ItE K c) H1
def iZipM (K : PySem.W.Frag) (ta : TA) : TI := fun σ H R => ta σ H fun vs H1 => ∃ x y c d xs ys, vs = [x, y] ∧ Sc.is x c ∧ Sc.is y d ∧ Sc.has K H1 xs c ∧ Sc.has K H1 ys d ∧ R (ItZ K c d) H1
section
variable {X : Cx} {W : WX} {e e2 : Expr} {ta : TA} {p pos tpos : Pos} {elts : List Expr} {kk : Nat}
theorem pi_enumM (hg : Gl X "enumerate") (hm : X.mg "enumerate" = none) (ha : PA X [e] ta) (hs : starEach [e] X.env = [(false, eval e X.env)]) : PI X (.Tuple elts kk tpos) (.Call (.Name "enumerate" p) [e] [] pos) (iEnumM X.K ta) := by
  refine ⟨fun pins s σ H R I h => ?_⟩
  refine PyProof.Rows.Call_ (ld_blt I hg hm PyProof.Rows.boot_enumerate (PyProof.Rows.callWith_type1 (thn (ha.run pos pins s σ H _ I h) fun us s1 ⟨vs, H1, I1, r1, q1⟩ => ?_) hs rfl))
  obtain ⟨x, c, xs, ex, hi, hx, q⟩ := q1
  subst ex
  obtain ⟨u, rfl, rx⟩ := Vals.one r1
  obtain ⟨c', rfl, hh⟩ := sc_is hi rx
  rw [← ItE_has hh] at q
  rw [← hh] at hx
  obtain ⟨Hb, B, hb, ht⟩ := sc_begins I1 hx
  refine enum1_begins B hb fun h' he hit hk => wpAny_pyIter_enum he ?_
  have I2 : Inv X pins σ H1 { s1 with heap := h' } := I1.kept (t' := s1.toks) hk
  refine ⟨s1.heap.objs.size + 1, [s1.heap.objs.size + 1, s1.heap.objs.size], _, _, H1, rfl, I2, turn_enumM (c := c') (s1.heap.objs.size + 1) s1.heap.objs.size (Nat.succ_ne_self _) (fun b hb => ?_), ⟨⟨.none, he⟩, ht _ _ hit⟩, fun b hb => ?_, q⟩
  · have := sc_old I1 hx hb
    exact ⟨fun e => absurd this (by rw [e]; exact Nat.not_lt.mpr (Nat.le_add_right _ _)), fun e => absurd this (by rw [e]; exact Nat.lt_irrefl _)⟩
  · have e' : b = s1.heap.objs.size + 1 ∨ b = s1.heap.objs.size := by simpa using hb
    have hle : s1.heap.objs.size ≤ b := by
      rcases e' with z | z
      · rw [z]; exact Nat.le_add_right _ _
      · rw [z]; exact Nat.le_refl _
    exact I1.fpOk hle (I1.hok.fresh hle)
theorem pi_zipM (hg : Gl X "zip") (hm : X.mg "zip" = none) (ha : PA X [e, e2] ta) (hs : starEach [e, e2] X.env = (false, eval e X.env) :: starEach [e2] X.env) (hpl : (backTo pos (starEach [e2] X.env)).any (·.1) = false) :
    PI X (.Tuple elts kk tpos) (.Call (.Name "zip" p) [e, e2] [] pos) (iZipM X.K ta) := by
  refine ⟨fun pins s σ H R I h => ?_⟩
  refine PyProof.Rows.Call_ (ld_blt I hg hm PyProof.Rows.boot_zip (PyProof.Rows.callWith_type1 (thn (ha.run pos pins s σ H _ I h) fun us s1 ⟨vs, H1, I1, r1, q1⟩ => ?_) hs hpl))
  obtain ⟨x, y, c, d, xs, ys, ex, hi, hj, hx, hy, q⟩ := q1
  subst ex
  obtain ⟨u1, u2, rfl, rx, ry⟩ := vals2 r1
  obtain ⟨c', rfl, hh⟩ := sc_is hi rx
  obtain ⟨d', rfl, hh2⟩ := sc_is hj ry
  rw [← ItZ_has hh hh2] at q
  rw [← hh] at hx
  rw [← hh2] at hy
  obtain ⟨Hb, B, hb, ht⟩ := sc_begins I1 hx
  obtain ⟨Hb2, B2, hb2, ht2⟩ := sc_begins I1 hy
  refine zip_begins2 B B2 hb hb2 fun h' hz hTI hTO h1 h2 hsz hk => wpAny_pyIter_zip hz ?_
  have I2 : Inv X pins σ H1 { s1 with heap := h' } := I1.kept (t' := s1.toks) hk
  have ap : ZAp (s1.heap.objs.size + 4) (s1.heap.objs.size + 2) (s1.heap.objs.size + 3) s1.heap.objs.size (s1.heap.objs.size + 1) c' d' := by
    refine ⟨?_, fun b hb hm => ?_⟩
    · simp only [List.nodup_cons, List.mem_cons, List.mem_nil_iff, or_false, not_or]
      refine ⟨⟨?_, ?_, ?_, ?_⟩, ⟨?_, ?_, ?_⟩, ⟨?_, ?_⟩, ?_, ?_⟩ <;> first | omega | simp
    · have hl : b < s1.heap.objs.size := hb.elim (sc_old I1 hx) (sc_old I1 hy)
      simp only [List.mem_cons, List.mem_nil_iff, or_false] at hm
      have hle : s1.heap.objs.size ≤ b := by
        rcases hm with q | q | q | q | q <;> rw [q] <;> first | exact Nat.le_add_right _ _ | exact Nat.le_refl _
      exact absurd hl (Nat.not_lt.mpr hle)
  refine ⟨s1.heap.objs.size + 4, [s1.heap.objs.size + 4, s1.heap.objs.size + 2, s1.heap.objs.size + 3, s1.heap.objs.size, s1.heap.objs.size + 1], _, _, H1, rfl, I2, turn_zipM ap, ⟨hz, hTI, ⟨_, _, hTO⟩, ht _ _ h1, ht2 _ _ h2⟩, fun c hcm => ?_, q⟩
  have hle : s1.heap.objs.size ≤ c := by
    simp only [List.mem_cons, List.mem_nil_iff, or_false] at hcm
    rcases hcm with q | q | q | q | q <;> rw [q] <;> first | exact Nat.le_add_right _ _ | exact Nat.le_refl _
  exact I1.fpOk hle (I1.hok.fresh hle)
end
/-! ### their mirrors -/
def enumD (l : List D) : List D := l.zipIdx.map fun p => .tup [.int (p.2 : Nat), p.1]
def zipD (a b : List D) : List D := (a.zip b).map fun p => .tup [p.1, p.2]
def xEnum (ma : En → Rs (List D)) : En → Rs (List D) := fun env => (ma env).bind fun ds e => match ds with
  | [d] => .of ((iterD d).map enumD) e
  | _ => .bad
def xZip (ma : En → Rs (List D)) : En → Rs (List D) := fun env => (ma env).bind fun ds e => match ds with
  | [c, d] => .of ((iterD c).bind fun a => (iterD d).map fun b => zipD a b) e
  | _ => .bad
section
variable {K : PySem.W.Frag} {U : Addr → Prop} {H : Hp}
theorem reps_chars : ∀ l : List Nat, Reps K U H (l.map fun c => D.str ⟨#[c]⟩) (l.map fun c => V.str ⟨#[c]⟩)
  | [] => rfl
  | c :: l => ⟨_, _, rfl, rfl, reps_chars l⟩
theorem src_of {d : D} {x : V} {l : List D} (r : Rep K U H d x) (h : iterD d = some l) : ∃ c xs, Sc.is x c ∧ Sc.has K H xs c ∧ Reps K U H l xs ∧ ∀ H', (∀ a o, ¬ U a → H a = some o → H' a = some o) → Sc.has K H' xs c := by
  cases d with
  | lst ds =>
    cases h
    obtain ⟨a, vs, rfl, h, n, rs⟩ := r.lst_sq
    exact ⟨.lst a, vs, rfl, .of h, rs, fun H' k => .of (k a _ n h)⟩
  | tup ds =>
    cases h
    obtain ⟨a, vs, rfl, h, n, rs⟩ := r.tup_sq
    exact ⟨.tup a, vs, rfl, .of h, rs, fun H' k => .of (k a _ n h)⟩
  | str z =>
    cases h
    exact ⟨.txt z 0, _, r, rfl, reps_chars _, fun H' k => rfl⟩
  | _ => simp [iterD] at h
theorem itok_enum {c : Sc} {l : List D} {xs : List V} (h : Sc.has K H xs c) (rs : Reps K U H l xs) (k : ∀ H', (∀ a o, ¬ U a → H a = some o → H' a = some o) → Sc.has K H' xs c) : ItOk K U H (enumD l) (ItE K c) where
  stop := fun i H2 hi kp e => ⟨xs, k H2 kp, by rw [e, rs.len]; simp [enumD]⟩
  go := fun i H2 hi kp => ⟨xs, k H2 kp, by rw [rs.len]; simpa [enumD] using hi⟩
  yld := fun i d H2 H3 x U' hd kp ku al ⟨T, y, e1, e2, e3, e4⟩ => by
    subst e1 e3
    have hd : ∃ b, l[i]? = some b ∧ d = .tup [.int (i : Nat), b] := by
      simp only [enumD, List.getElem?_map, List.getElem?_zipIdx, Option.map_map, Option.map_eq_some_iff] at hd
      obtain ⟨b, hb, rfl⟩ := hd
      exact ⟨b, hb, by simp⟩
    obtain ⟨b, hb, rfl⟩ := hd
    have ry := Rep.to kp ku b y (rs.at2 hb (e4 xs (k H2 kp)))
    exact ⟨same_new e2, rep_tup_new al e2 ⟨_, _, rfl, rfl, _, _, rfl, ry, rfl⟩⟩
theorem itok_zip {c c2 : Sc} {l l2 : List D} {xs ys : List V} (h : Sc.has K H xs c) (rs : Reps K U H l xs) (k : ∀ H', (∀ a o, ¬ U a → H a = some o → H' a = some o) → Sc.has K H' xs c)
    (h2 : Sc.has K H ys c2) (rs2 : Reps K U H l2 ys) (k2 : ∀ H', (∀ a o, ¬ U a → H a = some o → H' a = some o) → Sc.has K H' ys c2) : ItOk K U H (zipD l l2) (ItZ K c c2) where
  stop := fun i H2 hi kp e => ⟨xs, ys, k H2 kp, k2 H2 kp, by
    have l1 := rs.len
    have l2 := rs2.len
    simp only [zipD, List.length_map, List.length_zip] at hi e
    omega⟩
  go := fun i H2 hi kp => ⟨xs, ys, k H2 kp, k2 H2 kp, by
    have l1 := rs.len
    have l2 := rs2.len
    simp only [zipD, List.length_map, List.length_zip] at hi
    omega⟩
  yld := fun i d H2 H3 x U' hd kp ku al ⟨T, y, z, e1, e2, e3, e4, e5⟩ => by
    subst e1 e3
    have hd : ∃ a b, l[i]? = some a ∧ l2[i]? = some b ∧ d = .tup [a, b] := by
      simp only [zipD, List.getElem?_map, Option.map_eq_some_iff] at hd
      obtain ⟨⟨a, b⟩, hp, rfl⟩ := hd
      rw [List.getElem?_zip_eq_some] at hp
      exact ⟨a, b, hp.1, hp.2, rfl⟩
    obtain ⟨a, b, ha, hb, rfl⟩ := hd
    have ry := Rep.to kp ku a y (rs.at2 ha (e4 xs (k H2 kp)))
    have rz := Rep.to kp ku b z (rs2.at2 hb (e5 ys (k2 H2 kp)))
    exact ⟨same_new e2, rep_tup_new al e2 ⟨_, _, rfl, ry, _, _, rfl, rz, rfl⟩⟩
end
section
variable {X : Cx} {W : WX} {e e2 : Expr} {ma : En → Rs (List D)} {p pos tpos : Pos} {elts : List Expr} {kk : Nat}
theorem ei_enum (hg : Gl X "enumerate") (hm : X.mg "enumerate" = none) (ha : EvN X W [e] 1 ma) (hs : starEach [e] X.env = [(false, eval e X.env)] := by rfl) : EvI X W (.Tuple elts kk tpos) (.Call (.Name "enumerate" p) [e] [] pos) (xEnum ma) :=
  PI_imp (pi_enumM hg hm ha.pa hs) fun σ H Q ⟨U, env, sa, po⟩ => ⟨U, env, sa, Po.step po fun vs H1 ds e1 a r po1 => by
    have r : Reps X.K (Ux U e1 σ) H1 ds vs := r
    match ds, r, po1 with
    | [d], r, po1 =>
      obtain ⟨x, rfl, rx⟩ := r.one
      cases hi : iterD d with
      | none => simp only [hi] at po1; exact po1.elim
      | some l =>
        simp only [hi] at po1
        obtain ⟨c, xs, h1, h2, h3, h4⟩ := src_of rx hi
        exact ⟨x, c, xs, rfl, h1, h2, po1 _ H1 (.refl a.sa) (itok_enum h2 h3 h4)⟩
    | [], _, po1 => exact po1.elim
    | _ :: _ :: _, _, po1 => exact po1.elim⟩
theorem ei_zip (hg : Gl X "zip") (hm : X.mg "zip" = none) (ha : EvN X W [e, e2] 2 ma) (hs : starEach [e, e2] X.env = (false, eval e X.env) :: starEach [e2] X.env := by rfl) (hpl : (backTo pos (starEach [e2] X.env)).any (·.1) = false := by rfl) :
    EvI X W (.Tuple elts kk tpos) (.Call (.Name "zip" p) [e, e2] [] pos) (xZip ma) :=
  PI_imp (pi_zipM hg hm ha.pa hs hpl) fun σ H Q ⟨U, env, sa, po⟩ => ⟨U, env, sa, Po.step po fun vs H1 ds e1 a r po1 => by
    have r : Reps X.K (Ux U e1 σ) H1 ds vs := r
    match ds, r, po1 with
    | [d, d2], r, po1 =>
      obtain ⟨x, y, rfl, rx, ry⟩ := r.two
      cases hi : iterD d with
      | none => simp only [hi] at po1; exact po1.elim
      | some l =>
        cases hj : iterD d2 with
        | none => simp only [hi, hj] at po1; exact po1.elim
        | some l2 =>
          simp only [hi, hj] at po1
          obtain ⟨c, xs, h1, h2, h3, h4⟩ := src_of rx hi
          obtain ⟨c2, ys, g1, g2, g3, g4⟩ := src_of ry hj
          exact ⟨x, y, c, c2, xs, ys, rfl, h1, g1, h2, g2, po1 _ H1 (.refl a.sa) (itok_zip h2 h3 h4 g2 g3 g4)⟩
    | [], _, po1 => exact po1.elim
    | [_], _, po1 => exact po1.elim
    | _ :: _ :: _ :: _, _, po1 => exact po1.elim⟩
end
end Mi

set_option Elab.async false
set_option linter.all false
set_option maxRecDepth 100000
set_option maxHeartbeats 4000000
/-! Mi18: repr; calls by keywords; defs that return what they made -/
namespace Mi
open PySem PySem.Spec L2
/-! ### repr -/
mutual
theorem py_noDict : ∀ (d : D) (p : PyData), d.py = some p → p.hasDict = false
  | .non, p, h => by cases h; rfl
  | .bl _, p, h => by cases h; rfl
  | .int _, p, h => by cases h; rfl
  | .str _, p, h => by cases h; rfl
  | .tup xs, p, h => by
    simp only [D.py, Option.map_eq_some_iff] at h
    obtain ⟨ps, h, rfl⟩ := h
    exact pys_noDict xs ps h
  | .lst xs, p, h => by
    simp only [D.py, Option.map_eq_some_iff] at h
    obtain ⟨ps, h, rfl⟩ := h
    exact pys_noDict xs ps h
  | .dct _ _ _, p, h => by simp [D.py] at h
  | .obj _ _ _, p, h => by simp [D.py] at h
  | .fz _, p, h => by simp [D.py] at h
theorem pys_noDict : ∀ (ds : List D) (ps : List PyData), D.py.pys ds = some ps → PyData.hasDictAll ps = false
  | [], ps, h => by simp [D.py.pys] at h; subst h; rfl
  | d :: ds, ps, h => by
    simp only [D.py.pys, Option.bind_eq_some_iff, Option.map_eq_some_iff] at h
    obtain ⟨p, h1, qs, h2, rfl⟩ := h
    show (p.hasDict || PyData.hasDictAll qs) = false
    rw [py_noDict d p h1, pys_noDict ds qs h2]; rfl
end
def canRepr (p : PyData) : Bool := p.showable && (p.leavesShort 2000 && (decide (p.weight ≤ 8000) && decide (p.depth ≤ 60)))
def gRepr : List D → Option D
  | [d] => d.py.bind fun p => if canRepr p = true then some (.str p.shown) else none
  | _ => none
def rReprM (K : PySem.W.Frag) : List V → Hp → VK → Prop := fun xs H Q => ∃ v p, xs = [v] ∧ Dp K H v p ∧ p.hasDict = false ∧ canRepr p = true ∧ Q (.str p.shown) H
theorem cr_repr {X : Cx} {k : Nat} (c : Co X k) : CallR X (.builtin "repr") (rReprM X.K) := by
  intro pins s σ H xs us Q I r h
  obtain ⟨v, p, rfl, hd, nd, cr, q⟩ := h
  obtain ⟨u, rfl, ru⟩ := Vals.one r
  unfold canRepr at cr
  simp only [Bool.and_eq_true, decide_eq_true_eq] at cr
  obtain ⟨c1, c2, c3, c4⟩ := cr
  have hsz : p.shown.length ≤ sizeLine := by
    have := PyData.shown_le 2000 (by decide) p c2
    rw [sizeLine_eq]
    have : (2000 + 2) * p.weight ≤ 2002 * 8000 := Nat.mul_le_mul (Nat.le_refl _) c3
    omega
  obtain ⟨as, rd⟩ := Dp.reads I p v u hd ru
  have hun : X.A.units + 200 < cLine := by have := c.hr.un; omega
  cases hd with
  | lst sq _ =>
    cases ru
    exact PySem.repr_of_reads' rd c1 (PyData.noDict_hsm nd) c.hg (by omega) (fun _ _ e => e) (fun h' u tk hk => ⟨.str _, H, I.kept (t' := tk) hk, ⟨_, rfl⟩, q⟩) hsz
  | tup sq _ =>
    cases ru
    exact PySem.repr_of_reads' rd c1 (PyData.noDict_hsm nd) c.hg (by omega) (fun _ _ e => e) (fun h' u tk hk => ⟨.str _, H, I.kept (t' := tk) hk, ⟨_, rfl⟩, q⟩) hsz
  | non => cases ru; exact PySem.P.repr_of_none ⟨.str _, H, I.tok _, ⟨_, rfl⟩, q⟩
  | bl b => cases ru; exact PySem.P.repr_of_bool ⟨.str _, H, I.tok _, ⟨_, rfl⟩, q⟩
  | int i =>
    obtain ⟨t, rfl⟩ := ru
    exact PySem.P.repr_of_int (by simpa [PyData.showable] using c1) ⟨.str _, H, I.tok _, ⟨_, rfl⟩, q⟩
  | str x =>
    obtain ⟨t, rfl⟩ := ru
    exact PySem.P.repr_of_str ⟨.str _, H, I.tok _, ⟨_, rfl⟩, q⟩ hsz
theorem n_repr {K : PySem.W.Frag} : SndN K gRepr (rReprM K) := by
  intro U H xs ds z Q al r hz q
  match ds, hz, r with
  | [], hz, _ => cases hz
  | _ :: _ :: _, hz, _ => simp [gRepr] at hz
  | [d], hz, r =>
    obtain ⟨x, rfl, rx⟩ := r.one
    obtain ⟨p, hp, hz⟩ := Option.bind_eq_some_iff.mp (show d.py.bind _ = _ from hz)
    rw [Option.ite_none_right_eq_some] at hz
    obtain ⟨hc, e⟩ := hz
    cases e
    exact ⟨x, p, rfl, Rep.dp d p x rx hp, py_noDict d p hp, hc, q _ H (Same.refl H) rfl⟩
/-! ### f(k = e, ..): keywords alone -/
def pick {α : Type} (pm : List Nat) (xs : List α) : List α := pm.filterMap fun j => xs[j]?
def KB (K : PySem.W.Frag) (fd : FuncData) (ps ks : List Str) (pm : List Nat) : Prop := ∀ (s : Shared) (us : List Value), us.length = ks.length → BindsTo s fd ⟨[], ks.zip us⟩ (ps.zip (pick pm us))
/-- keywords' values -/
structure EvK (X : Cx) (W : WX) (kws : List Keyword) (n : Nat) (m : En → Rs (List Ar)) : Prop where
  pk : PK X kws (tR X.K W m)
  len : ∀ env ds e, m env = .ok ds e → ds.length = n
theorem PK_imp {X : Cx} {e : List Keyword} {t t' : TA} (h : PK X e t) (k : ∀ σ H Q, t' σ H Q → t σ H Q) : PK X e t' := ⟨fun pos pins s σ H Q I q => h.run pos pins s σ H Q I (k σ H Q q)⟩
section
variable {X : Cx} {W : WX} {e : Expr} {kws : List Keyword} {m : En → Rs D} {mq : En → Rs (List Ar)} {n : Nat} {nm : Option Str} {kpos : Pos}
theorem ek_nil : EvK X W [] 0 qNil := ⟨PK_imp pk_nil fun σ H Q ⟨U, env, sa, po⟩ => po [] H (.refl sa) rfl, fun env ds e h => by cases h; rfl⟩
theorem ek_val (h1 : Ev X W e m) (h2 : EvK X W kws n mq) : EvK X W (⟨nm, e, kpos⟩ :: kws) (n + 1) (qVal m mq) := by
  refine ⟨PK_imp (pk_cons h1 h2.pk) fun σ H Q ⟨U, env, sa, po⟩ => ⟨U, env, sa, Po.step po fun v H1 d e1 a r po1 => ⟨U, e1, a.sa, Po.step po1 fun vs H2 ds e2 a2 r2 po2 => ?_⟩⟩, fun env ds e h => ?_⟩
  · exact po2 _ _ (.refl a2.sa) ⟨v, vs, rfl, a2.rep a.sa r, r2⟩
  · obtain ⟨d, e1, _, h⟩ := Rs.bind_eq_ok h
    obtain ⟨ds', e2, h3, h⟩ := Rs.bind_eq_ok h
    cases h
    rw [List.length_cons, h2.len _ _ _ h3]
end
def qPick (pm : List Nat) (mq : En → Rs (List Ar)) : En → Rs (List Ar) := fun env => (mq env).bind fun as e => .ok (pick pm as) e
section
variable {K : PySem.W.Frag} {U : Addr → Prop} {σ : St} {H : Hp}
theorem RAr.pick {as : List Ar} {vs : List V} (h : RAr K U σ H as vs) : ∀ pm : List Nat, RAr K U σ H (Mi.pick pm as) (Mi.pick pm vs)
  | [] => rfl
  | j :: pm => by
    have ih := RAr.pick h pm
    unfold Mi.pick at ih ⊢
    rw [List.filterMap_cons, List.filterMap_cons]
    cases ha : as[j]? with
    | none =>
      have : vs[j]? = none := by
        rw [List.getElem?_eq_none_iff] at ha ⊢
        rw [h.len]
        exact ha
      rw [this]
      exact ih
    | some a =>
      obtain ⟨v, hv, q⟩ := h.at j a ha
      rw [hv]
      cases a with
      | inl d => exact ⟨v, _, rfl, q, ih⟩
      | inr i => exact ⟨v, _, rfl, q, ih⟩
theorem vals_pick {vs : List V} {us : List Value} (r : Vals vs us) : ∀ pm : List Nat, Vals (Mi.pick pm vs) (Mi.pick pm us)
  | [] => .nil
  | j :: pm => by
    have ih := vals_pick r pm
    unfold Mi.pick at ih ⊢
    rw [List.filterMap_cons, List.filterMap_cons]
    cases ha : vs[j]? with
    | none =>
      have : us[j]? = none := by
        rw [List.getElem?_eq_none_iff] at ha ⊢
        rw [← r.length]
        exact ha
      rw [this]
      exact ih
    | some v =>
      obtain ⟨u, hu, ru⟩ := r.get ha
      rw [hu]
      exact .cons ru ih
end
section
variable {X : Cx} {W : WX} {k n : Nat} {f : Addr} {fd : FuncData} {ps ks : List Str} {pm : List Nat} {sp : Sp} {x : Str} {p pos : Pos} {kws : List Keyword} {m : En → Rs D} {mq : En → Rs (List Ar)} {tk : TA}
theorem pe_cgK (F : FnG X.prog X.w X.K X.mg X.base k f fd ps sp) (c : Co X k) (tkW : Takes X W) (hm : X.mg x = some (.ref f)) (hk : PySem.W.keepIn X.K (.ref f) = true) (hb : KB X.K fd ps ks pm) (hkw : PK X kws tk) (hg : Gl X x) (hdb : (x == ("__debug__" : Str)) = false)
    (hall : (backToKw pos (keywordEach kws X.env)).all (·.1.isSome) = true) (hks : (backToKw pos (keywordEach kws X.env)).filterMap (·.1) = ks)
    (hpl : ((backTo pos (starEach [] X.env)).any (·.1) || (backToKw pos (keywordEach kws X.env)).any (·.1.isNone)) = false) :
    PE X (.Call (.Name x p) [] kws pos) (fun σ H Q => tk σ H fun zs H1 => zs.length = ks.length ∧ sp (pick pm zs) H1 Q fun cls d H' => W cls d σ H') := by
  refine ⟨fun pins s σ H Q I h => ?_⟩
  refine wpAny_Call_Name_kw (ld_glob I hg hm ?_ hdb)
  refine PySem.W.callWith_KW0 (h₀ := X.base) I.ok.mod.kin hk hall (thn (hkw.run pos pins s σ H _ I h) fun ws s1 ⟨zs, H1, I1, r, hl, q⟩ => ⟨I1.kIn, ?_⟩) hpl
  rw [hks]
  have r2 := vals_pick r pm
  refine wpAny_call (codeAny_mono (F.run X.A X.stack s1 H1 ⟨[], ks.zip ws⟩ _ _ Q _ c.hr c.hg I1.env0 (hb s1 ws (r.length.symm.trans hl)) r2 q) fun r s' hq => ?_)
  cases r with
  | error e => exact tkW e s' (XE.of_call I1 (fun _ _ _ z => z) hq)
  | ok fl =>
    cases fl with
    | ret u => exact I1.after hq
    | next => exact False.elim hq
    | brk => exact False.elim hq
    | cont => exact False.elim hq
theorem ev_callK (F : FnG X.prog X.w X.K X.mg X.base k f fd ps (spM X.K n m)) (c : Co X k) (tkW : Takes X W) (hm : X.mg x = some (.ref f)) (hk : PySem.W.keepIn X.K (.ref f) = true) (hb : KB X.K fd ps ks pm) (hkw : EvK X W kws ks.length mq)
    (hp : ∀ as : List Ar, as.length = ks.length → (pick pm as).length = n)
    (hg : Gl X x := by rfl) (hdb : (x == ("__debug__" : Str)) = false := by decide) (hall : (backToKw pos (keywordEach kws X.env)).all (·.1.isSome) = true := by rfl) (hks : (backToKw pos (keywordEach kws X.env)).filterMap (·.1) = ks := by rfl)
    (hpl : ((backTo pos (starEach [] X.env)).any (·.1) || (backToKw pos (keywordEach kws X.env)).any (·.1.isNone)) = false := by rfl) : Ev X W (.Call (.Name x p) [] kws pos) (xCall m (qPick pm mq)) := by
  refine PE_imp (pe_cgK F c tkW hm hk hb hkw.pk hg hdb hall hks hpl) fun σ H Q ⟨U, env, sa, po⟩ => ?_
  obtain ⟨U', env', sa', q⟩ := spM_call sa po (n := n) fun as e1 h => by
    obtain ⟨as', e', h1, h2⟩ := Rs.bind_eq_ok h
    cases h2
    exact hp _ (hkw.len _ _ _ h1)
  refine ⟨U', env', sa', ?_⟩
  unfold qPick at q
  cases hq : mq env' with
  | bad => rw [hq] at q; exact q
  | er x e => rw [hq] at q; exact q
  | ok as e =>
    rw [hq] at q
    intro vs H' st ra
    have ra : RAr X.K (Ux U' e σ) σ H' as vs := ra
    exact ⟨ra.len.trans (hkw.len _ _ _ hq), q _ H' st (ra.pick pm)⟩
end
end Mi

set_option Elab.async false
set_option linter.all false
set_option maxRecDepth 100000
set_option maxHeartbeats 4000000
/-! Mi19: defs that return what they made; facts of defs -/
namespace Mi
open PySem PySem.Spec L2
section
variable {K : PySem.W.Frag} {U : Addr → Prop} {env env1 : En} {σ : St} {H H1 : Hp}
/-- a name gives its object away -/
theorem Fre.take {i : Nat} {o : Ob} {p : Addr} (sa : SA K U env σ H) (h : env[i]? = some (.ow o)) (hp : σ[i]? = some (some (V.ref p))) : Fre K U env σ H (env.set i .un) H o p := by
  have hi : i < env.length := (List.getElem?_eq_some_iff.mp h).1
  have old : ∀ {j : Nat} {s : Sl} , (env.set i Sl.un)[j]? = some s → s ≠ .un → env[j]? = some s ∧ j ≠ i := fun {j s} h1 h2 => by
    by_cases e : i = j
    · subst e
      rw [List.getElem?_set_self hi] at h1
      cases h1
      exact absurd rfl h2
    · rw [List.getElem?_set_ne e] at h1
      exact ⟨h1, fun z => e z.symm⟩
  have nun : ∀ {s : Sl} {q : Ob}, s.ob = some q → s ≠ .un := fun {s q} h e => by subst e; cases h
  have cp : Chg env σ p := ⟨i, _, o, h, rfl, hp⟩
  have ch : ∀ x, Chg (env.set i .un) σ x → Chg env σ x ∧ x ≠ p := fun x ⟨j, s, q, h1, h2, h3⟩ => by
    obtain ⟨h4, n⟩ := old h1 (nun h2)
    exact ⟨⟨j, s, q, h4, h2, h3⟩, fun e => n (sa.inj j i s _ q o p h4 h2 h rfl (by rw [← e]; exact h3) hp)⟩
  have sub : ∀ x, Ux (Up U p) (env.set i .un) σ x → Ux U env σ x := fun x q => by
    rcases ux_up.mp q with (q | q) | q
    · exact .inl q
    · exact .inr (ch x q).1
    · rw [q]; exact .inr cp
  refine ⟨.inl cp, sa.nu p cp, ⟨by rw [List.length_set]; exact sa.len, fun a q => ?_, fun a c q => ?_, fun j k s t q r x h1 h2 h3 h4 h5 h6 => ?_, fun j d h1 => ?_, fun j s q h1 h2 => ?_⟩, .refl, fun a c => .inl (ch a c).1, fun j q h1 => ?_, ?_⟩
  · rcases q with q | q
    · exact sa.al a q
    · rw [q]; exact sa.alx (.inr cp)
  · exact q.elim (sa.nu a (ch a c).1) (ch a c).2
  · exact sa.inj j k s t q r x (old h1 (nun h2)).1 h2 (old h3 (nun h4)).1 h4 h5 h6
  · obtain ⟨v, e, r⟩ := sa.val j d (old h1 fun z => nomatch z).1
    exact ⟨v, e, Rep.to (fun _ _ _ q => q) (fun x o n _ q => n (sub x q)) d v r⟩
  · obtain ⟨b, e, r⟩ := sa.ob j s q (old h1 (nun h2)).1 h2
    exact ⟨b, e, RepO.to (fun _ _ _ q => q) (fun x o n _ q => n (sub x q)) (fun _ q => q) r⟩
  · have n : i ≠ j := fun e => by subst e; rw [h] at h1; cases h1
    exact ⟨q, by rw [List.getElem?_set_ne n]; exact h1⟩
  · obtain ⟨b, e, r⟩ := sa.ob i _ o h rfl
    rw [hp] at e
    cases e
    exact RepO.to (fun _ _ _ q => q) (fun x o n _ q => n (sub x q)) (fun _ q => q) r
end
def fOwn (i : Nat) : En → Rs Ob := fun env => match env[i]? with
  | some (.ow o) => .ok o (env.set i .un)
  | _ => .bad
theorem ef_var {X : Cx} {W : WX} {e : Expr} {i : Nat} (h : PE X e (tVar i)) : EvF X W e (fOwn i) :=
  PE_imp h fun σ H Q ⟨U, env, sa, po⟩ => by
    unfold fOwn at po
    cases hi : env[i]? with
    | none => rw [hi] at po; exact po.elim
    | some s =>
      rw [hi] at po
      cases s with
      | ow o =>
        obtain ⟨p, e1, _⟩ := sa.ob i _ o hi rfl
        exact ⟨_, e1, po p H (Fre.take sa hi e1)⟩
      | _ => exact po.elim
/-! ### a def that returns a new object; its arguments are values -/
def PoSN (K : PySem.W.Frag) (W : WX) (U : Addr → Prop) (env : En) (σ : St) (H : Hp) (r : Rs Ob) (Dn : Ends) : Prop := match r with
  | .ok o env' => ∀ σ' H1 env1, Ste K U env σ H env1 σ' H1 → ∀ p H', Fre K U env1 σ' H1 env' H' o p → Dn.rt (.ref p) H'
  | .er x env' => ∀ cls dd σ' H', Ste K U env σ H env' σ' H' → ExR K (Ux U env' σ') H' x cls dd → W cls dd σ' H'
  | .bad => False
def tSN (K : PySem.W.Frag) (W : WX) (m : En → Rs Ob) : TS := fun Dn σ H => ∃ U env, SA K U env σ H ∧ PoSN K W U env σ H (m env) Dn
abbrev EvSN (X : Cx) (W : WX) (s : List Stmt) (m : En → Rs Ob) : Prop := PSs X s (tSN X.K W m)
theorem PoSN.shift {K : PySem.W.Frag} {W : WX} {U : Addr → Prop} {env env1 : En} {σ σ1 : St} {H H1 : Hp} {r : Rs Ob} {Dn : Ends} (a : Ste K U env σ H env1 σ1 H1) (h : PoSN K W U env σ H r Dn) : PoSN K W U env1 σ1 H1 r Dn := by
  cases r with
  | ok d e => exact fun s' H' e1 b => h s' H' e1 (a.trans b)
  | er x e => exact fun c d s' H' b q => h c d s' H' (a.trans b) q
  | bad => exact h
def nSeq (m : En → Rs Fl) (n : En → Rs Ob) : En → Rs Ob := fun env => (m env).bind fun fl e => match fl with
  | .nx => n e
  | _ => .bad
section
variable {X : Cx} {W : WX} {st : Stmt} {rest : List Stmt} {m : En → Rs Fl} {n : En → Rs Ob} {e : Expr} {pos : Pos}
theorem sn_cons (h1 : EvS X W st m) (h2 : EvSN X W rest n) : EvSN X W (st :: rest) (nSeq m n) :=
  PSs_imp (pss_cons h1 h2) fun Dn σ H ⟨U, env, sa, po⟩ => ⟨U, env, sa, by
    unfold nSeq at po
    cases hm : m env with
    | bad => rw [hm] at po; exact po
    | er x e => rw [hm] at po; exact po
    | ok fl e =>
      rw [hm] at po
      cases fl with
      | nx => exact fun σ' H' a => ⟨U, e, a.sa, PoSN.shift a po⟩
      | _ => exact po.elim⟩
theorem sn_ret (h : EvF X W e n) : EvSN X W [.Return (some e) pos] n :=
  PSs_imp (pss_one (ps_ret h)) fun Dn σ H ⟨U, env, sa, po⟩ => ⟨U, env, sa, by
    cases hm : n env with
    | bad => rw [hm] at po; exact po
    | er x e => rw [hm] at po; exact fun c d H' a q => po c d σ H' a q
    | ok o e => rw [hm] at po; exact fun p H' f => po σ H env (.refl sa) p H' f⟩
end
def spN (K : PySem.W.Frag) (n : Nat) (m : List D → Rs Ob) : Sp := fun vs H Q E => ∃ U ds, vs.length = n ∧ Al U H ∧ Reps K U H ds vs ∧ match m ds with
  | .ok o _ => ∀ p H', Same H H' → H p = none → RepO K (Up U p) H' o p → Q (.ref p) H'
  | _ => False
def mDefN (n N : Nat) (mb : En → Rs Ob) : List D → Rs Ob := fun ds => match mb (ds.map Sl.v ++ List.replicate (N - n) .un) with
  | .ok o e => .ok o e
  | _ => .bad
section
variable {K : PySem.W.Frag} {U : Addr → Prop} {σ : St} {H : Hp} {ds : List D} {vs : List V}
theorem no_chg {a : Addr} : ¬ Chg (ds.map Sl.v) σ a := fun ⟨i, s, o, h1, h2, _⟩ => by
  rw [List.getElem?_map] at h1
  cases e : ds[i]? with
  | none => rw [e] at h1; cases h1
  | some d => rw [e] at h1; cases h1; cases h2
theorem sa_vals (al : Al U H) (r : Reps K U H ds vs) : SA K U (ds.map Sl.v) (vs.map some) H where
  len := by rw [List.length_map, List.length_map, r.len]
  al := al
  nu := fun a c => (no_chg c).elim
  inj := fun i j s t o p a h1 h2 h3 h4 h5 h6 => (no_chg ⟨i, s, o, h1, h2, h5⟩).elim
  val := fun i d h => by
    rw [List.getElem?_map] at h
    cases e : ds[i]? with
    | none => rw [e] at h; cases h
    | some d' =>
      rw [e] at h
      cases h
      obtain ⟨v, h1, h2⟩ := r.get e
      exact ⟨v, by rw [List.getElem?_map, h1]; rfl, Rep.to (fun _ _ _ q => q) (fun x o n _ q => q.elim n no_chg) d v h2⟩
  ob := fun i s o h1 h2 => by
    rw [List.getElem?_map] at h1
    cases e : ds[i]? with
    | none => rw [e] at h1; cases h1
    | some d => rw [e] at h1; cases h1; cases h2
end
theorem okN {P : Program} {w : World} {K : PySem.W.Frag} {mg : Str → Option Value} {base : Heap} {x qual : Str} {st : Stmt} {f : Addr} {fd : FuncData} {N ps : List Str} {k : Nat} {mb : En → Rs Ob} (F : Fun K x qual st f fd) (S : FnScope N ps (defScope st))
    (hbody : ∀ (cdv : Value) (A : Around) (outer : List PySem.Env) (s : Shared) (H : Hp) (E : XK) (W : WX), Co (cxOf (L2.CX P w) P w K mg base N qual (defScope st) f cdv A outer s H E) k → Takes (cxOf (L2.CX P w) P w K mg base N qual (defScope st) f cdv A outer s H E) W →
      EvSN (cxOf (L2.CX P w) P w K mg base N qual (defScope st) f cdv A outer s H E) W (defBody st) mb) : FnG P w K mg base (k + 1) f fd ps (spN K ps.length (mDefN ps.length N.length mb)) := by
  refine fnG_of F S (fun vs H Q E h => ?_) fun cdv A outer s H vs Q E co h => ⟨tSN K (fun c d _ H' => E c d H') mb, hbody cdv A outer s H E _ co (takes_of rfl rfl rfl rfl), ?_⟩
  · obtain ⟨U, ds, hl, _⟩ := h
    exact hl
  obtain ⟨U, ds, hl, al, r, po⟩ := h
  have sa := sa_vals al r
  rw [pad_len]
  have hl2 : N.length - vs.length = N.length - ps.length := by rw [hl]
  rw [hl2]
  refine ⟨U, ds.map Sl.v ++ List.replicate (N.length - ps.length) .un, sa.pad, ?_⟩
  have nc : ∀ a, ¬ Chg (ds.map Sl.v ++ List.replicate (N.length - ps.length) .un) (vs.map some ++ List.replicate (N.length - ps.length) none) a := fun a c => no_chg ((chg_pad sa.len a).mp c)
  unfold mDefN at po
  cases hm : mb (ds.map Sl.v ++ List.replicate (N.length - ps.length) .un) with
  | bad => simp only [hm] at po
  | er y e => simp only [hm] at po
  | ok o e =>
    simp only [hm] at po
    intro σ' H1 env1 a p H' fr
    refine po p H' (fun b u q => ?_) ?_ ?_
    · exact fr.gr b u (fun c => (a.fr b c).elim (nc b) fun z => by rw [q] at z; cases z) (a.gr b u (nc b) q)
    · rcases fr.nw with q | q
      · exact (a.fr p q).elim (fun c => (nc p c).elim) id
      · cases z : H p with
        | none => rfl
        | some u => rw [a.gr p u (nc p) z] at q; cases q
    · exact RepO.to (fun _ _ _ q => q) (fun x o n _ q => n (.inl q)) (fun _ q => q) fr.ob
def xCallN (m : List D → Rs Ob) (ma : En → Rs (List D)) : En → Rs Ob := fun env => (ma env).bind fun ds e1 => match m ds with
  | .ok o _ => .ok o e1
  | _ => .bad
section
variable {X : Cx} {W : WX} {k n : Nat} {f : Addr} {fd : FuncData} {ps : List Str} {x : Str} {p pos : Pos} {e : Expr} {es : List Expr} {m : List D → Rs Ob} {ma : En → Rs (List D)}
theorem ef_call (F : FnG X.prog X.w X.K X.mg X.base k f fd ps (spN X.K (n + 1) m)) (c : Co X k) (tk : Takes X W) (hm : X.mg x = some (.ref f)) (hk : PySem.W.keepIn X.K (.ref f) = true) (hb : Binds X.K fd ps [])
    (ha : EvN X W (e :: es) (n + 1) ma) (hg : Gl X x := by rfl) (hdb : (x == ("__debug__" : Str)) = false := by decide) (he : starEach (e :: es) X.env = (false, eval e X.env) :: starEach es X.env := by rfl)
    (hpl : (backTo pos (starEach es X.env)).any (·.1) = false := by rfl) : EvF X W (.Call (.Name x p) (e :: es) [] pos) (xCallN m ma) := by
  refine PE_imp (pe_cg F c tk hm hk hb .nil ha.pa hg hdb he hpl) fun σ H Q ⟨U, env, sa, po⟩ => ⟨U, env, sa, ?_⟩
  unfold xCallN at po
  cases hm : ma env with
  | bad => rw [hm] at po; exact po
  | er x e => rw [hm] at po; exact po
  | ok ds e1 =>
    rw [hm] at po
    simp only [Rs.bind_ok] at po
    intro vs H1 a r
    rw [List.append_nil]
    refine ⟨Ux U e1 σ, ds, by rw [Reps.len r, ha.len _ _ _ hm], a.sa.alU, r, ?_⟩
    cases hr : m ds with
    | bad => simp only [hr] at po; exact po
    | er x e => simp only [hr] at po; exact po
    | ok o e2 =>
      simp only [hr] at po
      intro q H' s hq ro
      refine po q H' (Fre.pre a ?_)
      have ng : ∀ x u, H1 x = some u → x ≠ q := fun x u z e => by rw [e, hq] at z; cases z
      have nu : ∀ x u, ¬ Ux U e1 σ x → H1 x = some u → ¬ Ux (Up U q) e1 σ x := fun x u n z c => (ux_up.mp c).elim n (ng x u z)
      refine ⟨.inr hq, fun z => by obtain ⟨u, z⟩ := a.sa.al q z; exact ng q u z rfl, ⟨a.sa.len, fun b z => ?_, fun b c z => ?_, a.sa.inj, fun i d h => ?_, fun i t u h1 h2 => ?_⟩, .of_same s, fun _ c => .inl c, fun i o h => ⟨o, h⟩, ?_⟩
      · rcases z with z | z
        · obtain ⟨u, z⟩ := a.sa.al b z
          exact ⟨u, s b u z⟩
        · rw [z]; exact ro.some
      · rcases z with z | z
        · exact a.sa.nu b c z
        · obtain ⟨u, y⟩ := a.sa.alx (.inr c)
          exact ng b u y z
      · obtain ⟨v, e, r⟩ := a.sa.val i d h
        exact ⟨v, e, Rep.to (fun a o _ q => s a o q) nu d v r⟩
      · obtain ⟨b, e, r⟩ := a.sa.ob i t u h1 h2
        exact ⟨b, e, RepO.to (fun a o _ q => s a o q) nu (fun o q => s b o q) r⟩
      · refine RepO.to (fun _ _ _ q => q) (fun x u n _ c => n ?_) (fun _ q => q) ro
        rcases ux_up.mp c with c | c
        · exact .inl c
        · exact .inr c
end
/-! ### facts of defs -/
theorem fun_of_D {K : PySem.W.Frag} {x qual : Str} {st : Stmt} {f : Addr} {fd : FuncData} (F : FunD K x qual (defArgs st) (defBody st) (defScope st) [] [] f fd) : Fun K x qual st f fd := by
  obtain ⟨oc, od, dV, kV, doc, pm, an, cdv, ct, osl, h1, h2, h3, h4, _⟩ := F.ex
  rcases h4 with ⟨_, rfl⟩ | ⟨e, _⟩
  · exact ⟨⟨oc, od, kV, doc, pm, an, cdv, ct, osl, h1, h2, h3⟩, F.kp⟩
  · exact absurd rfl e
theorem Fun.kb {K : PySem.W.Frag} {x qual : Str} {st : Stmt} {f : Addr} {fd : FuncData} {ps ks : List Str} {pm : List Nat} (F : Fun K x qual st f fd)
    (h : ∀ (kV doc pmm : Value) (an : Option Addr) (cdv ct : Value) (us : List Value), us.length = ks.length → bindArgs (PySem.W.fnOf x qual (defArgs st) (defBody st) (defScope st) .none kV doc pmm an cdv ct) ⟨[], ks.zip us⟩ = pure (ps.zip (pick pm us))) : KB K fd ps ks pm := by
  obtain ⟨oc, od, kV, doc, pmm, an, cdv, ct, osl, rfl, lk, hcd⟩ := F.ex
  exact fun s us hl => .of_eq (h kV doc pmm an cdv ct us hl)
theorem Co.blk {X : Cx} {k : Nat} (c : Co X k) (s : Shared) (H : Hp) (scope : Scope) (ce : Env) (fp : List Addr) : Co (X.blk s H scope ce fp) k := ⟨c.hr, c.hg, c.calm⟩
end Mi

set_option Elab.async false
set_option linter.all false
set_option maxRecDepth 100000
set_option maxHeartbeats 4000000
/-! Mi20: a law's end -/
namespace Mi
open PySem PySem.Spec L2
open PyProof.Rows (IntsAre AllBare)
/-- what is tracked ahead of the law's call: the script, where the module does not hold it -/
def scriptH (K : PySem.W.Frag) (a : Addr) (o : Obj) (xs : List V) : Hp := fun b => match K.lookup a with
  | some _ => none
  | none => if b = a then some (.frz o (.lst xs)) else none
section
variable {K : PySem.W.Frag} {a b : Addr} {o : Obj} {xs : List V} {u : HO}
theorem scriptH_inv (h : scriptH K a o xs b = some u) : K.lookup a = none ∧ b = a ∧ u = .frz o (.lst xs) := by
  unfold scriptH at h
  split at h
  · cases h
  · rename_i hk
    rw [Option.ite_none_right_eq_some] at h
    exact ⟨hk, h.1, (Option.some.inj h.2).symm⟩
theorem scriptH_none (h : ¬ (K.lookup a = none ∧ b = a)) : scriptH K a o xs b = none := by
  cases e : scriptH K a o xs b with
  | none => rfl
  | some u => exact absurd ⟨(scriptH_inv e).1, (scriptH_inv e).2.1⟩ h
end
theorem law_run {P : Program} {w : World} {K : PySem.W.Frag} {mg mb : Str → Option Value} {k : Nat} {fa a : Addr} {fd : FuncData} {x : Str} {m : En → Rs D} {st : Shared} {vs : List Value} {ns : List Int}
    (kin : K.In st.heap) (gl : st.heap.Ns mainGlobals mg) (bl : st.heap.Ns builtinsNs mb) (bb : ∀ x : Str, x ≠ "__name__" → mb x = bootBuiltins x) (lim : st.heap.NoLimit) (gn : st.gens = #[])
    (at_ : st.heap.get? a = some { cls := .type "list", data := .seq vs.toArray }) (ai : IntsAre vs ns) (few : ns.length ≤ sizeLine) (room : Room k callerA)
    (F : ∀ base : Heap, K.In base → base.Ns mainGlobals mg → FnG P w K mg base k fa fd [x] (spM K 1 m)) (bind : ∀ (s : Shared) (u : Value), BindsTo s fd ⟨[u], []⟩ [(x, u)])
    (good : ∃ e, m [.v (.fz (ns.map .int))] = .ok (.bl true) e) :
    codeAny (model P w) callerA (.call (.ref fa) ⟨[.ref a], []⟩) (fun r s' => r = .ok (.ret (.bool true)) ∧ OldK st.heap s'.heap ∧ s'.os = st.os ∧ AllBare s'.gens) st := by
  have rel := vals_ints ai
  have lens := ai.length
  let ob : Obj := { cls := .type "list", data := .seq vs.toArray }
  let Hs : Hp := scriptH K a ob (ns.map V.int)
  have hok : HOk P w Hs st.heap := fun b u h => by
    obtain ⟨_, rfl, rfl⟩ := scriptH_inv h
    exact ⟨at_, by rw [List.length_map]; exact few, vs, _, rel, at_⟩
  -- what stands in the base: all but the script
  have stay : ∀ {b : Addr} {o : Obj}, st.heap.get? b = some o → Hs b = none → (hidT st.heap Hs).get? b = some o := fun e n => hidT_get e n
  have dictNot : ∀ {b : Addr} {o : Obj} {es : Array DictEntry} {ep : Nat}, st.heap.get? b = some o → o.data = .dict es ep → Hs b = none := fun {b o es ep} e d => scriptH_none fun ⟨_, q⟩ => by
    rw [q, at_] at e
    cases e
    cases d
  have nsAt : ∀ {b : Addr} {m : Str → Option Value}, st.heap.Ns b m → (hidT st.heap Hs).Ns b m := fun {b m} h => by
    obtain ⟨o, es, ep, e, d, r⟩ := h
    exact ⟨o, es, ep, stay e (dictNot e d), d, r⟩
  have kinB : K.In (hidT st.heap Hs) := fun b o e => stay (kin b o e) (scriptH_none fun ⟨n, q⟩ => by rw [q, n] at e; cases e)
  have lim2 : (hidT st.heap Hs).NoLimit := by
    obtain ⟨mc, l1, l2⟩ := lim
    exact ⟨mc, nsAt l1, l2⟩
  have env0 : Env0 P w K mg (hidT st.heap Hs) callerA [] st Hs :=
    { frames := rfl, mod := ⟨kinB, nsAt gl, ⟨mb, nsAt bl, bb⟩, lim2⟩, bs := fun b o e => of_hidT e, bsz := Nat.le_of_eq (hidT_size _ _), funs := trivial, frf := fun b hb => (by cases hb), hok := hok, bare := .of_eq gn }
  -- the script's tree
  have fz : FzAt K (fun _ => False) Hs a (ns.map V.int) := by
    cases hk : K.lookup a with
    | none => exact .inl ⟨ob, by show scriptH _ _ _ _ _ = _; unfold scriptH; rw [hk]; exact if_pos rfl, fun z => z⟩
    | some o =>
      have e := kin a o hk
      rw [at_] at e
      cases e
      exact .inr (.inr ⟨_, vs.toArray, _, hk, rfl, rfl, rfl, by rw [List.size_toArray, lens]; exact few, by simpa using rel⟩)
  have ints2 : ∀ l : List Int, Reps K (fun _ => False) Hs (l.map .int) (l.map V.int) := by
    intro l
    induction l with
    | nil => rfl
    | cons i l ih => exact ⟨_, _, rfl, rfl, ih⟩
  have sa : SA K (fun _ => False) [.v (.fz (ns.map .int))] [some (V.ref a)] Hs := by
    have := sa_vals (K := K) (U := fun _ => False) (H := Hs) (ds := [.fz (ns.map .int)]) (vs := [.ref a]) (fun _ z => z.elim) ⟨_, _, rfl, ⟨a, _, rfl, fz, ints2 ns⟩, rfl⟩
    exact this
  have sp : spM K 1 m [.ref a] Hs (fun v H' => v = .bl true ∧ ∀ b u, Hs b = some u → H' b = some u) (fun _ _ _ => False) := by
    refine ⟨fun _ => False, [.v (.fz (ns.map .int))], rfl, sa, fun s hs => by rw [List.mem_singleton.mp hs]; rfl, ?_⟩
    obtain ⟨e, he⟩ := good
    rw [he]
    intro v H' ste rep
    refine ⟨rep, fun b u h => ste.gr b u (fun c => ?_) h⟩
    obtain ⟨i, s, o, h1, h2, _⟩ := c
    cases i with
    | zero => cases h1; cases h2
    | succ i => simp at h1
  refine codeAny_mono ((F _ kinB (nsAt gl)).run callerA [] st Hs ⟨[.ref a], []⟩ [.ref a] [.ref a] _ _ room rfl env0 (bind st (.ref a)) (.cons rfl .nil) sp) fun r s' h => ?_
  cases r with
  | error e =>
    obtain ⟨_, _, _, _, _, _, _, _, _, _, _, _, z⟩ := h
    exact z.elim
  | ok fl =>
    cases fl with
    | ret u =>
      obtain ⟨v, H', os, bare, un, hok', r', q, keep⟩ := h
      subst q
      obtain rfl : u = Value.bool true := r'
      refine ⟨rfl, OldK.of_keep fun b o e => ?_, os, bare⟩
      cases q : Hs b with
      | none => exact un.keep b o e q (by simp [frs]) (by simp)
      | some z =>
        obtain ⟨_, rfl, rfl⟩ := scriptH_inv q
        obtain ⟨e1, _⟩ := hok' b _ (keep b _ q)
        rw [at_] at e
        cases e
        exact e1
    | next => exact False.elim h
    | brk => exact False.elim h
    | cont => exact False.elim h
/-- the law's end over a head by facts -/
theorem walk_G {l : PySem.W.OpenLaw} {n k : Nat} {q : Program} {loose : List Str} {XP : (Str → Option Value) → Heap → Prop} {YP : World → Heap → Prop} {d : DefRec} {x : Str} {m : En → Rs D}
    (hn : l.most = some n) (hn2 : n ≤ sizeLine) (hdf : d.params.defaults = []) (room : Room k callerA)
    (F : ∀ (w : World) (mg : Str → Option Value) (fa : Addr) (h : Heap), YP w h → h.Ns mainGlobals mg → mg d.name = some (.ref fa) →
      ∃ (K : PySem.W.Frag) (fd : FuncData), K.In h ∧ (∀ (s : Shared) (u : Value), BindsTo s fd ⟨[u], []⟩ [(x, u)]) ∧ ∀ base : Heap, K.In base → base.Ns mainGlobals mg → FnG l.prog w K mg base k fa fd [x] (spM K 1 m))
    (good : ∀ ns : List Int, ∃ e, m [.v (.fz (ns.map .int))] = .ok (.bl true) e) :
    PySem.W.WalkO q loose XP YP l.row.toRowW d [] (fun f vs => PySem.call f vs) := by
  refine Att.attach_call hn hdf fun w s₀ s₁ mg mb fa o pm cd doc a vs ns G Y ho hd hcd hmg hobj hints hlen hg => ?_
  obtain ⟨K, fd, kin, hb, hF⟩ := F w mg fa _ Y G.T.g hmg
  exact law_run kin G.T.g G.T.b G.T.builtins G.T.nolimit hg hobj hints (Nat.le_trans hlen hn2) room hF hb (good ns)
end Mi

set_option Elab.async false
set_option linter.all false
set_option maxRecDepth 100000
set_option maxHeartbeats 4000000
/-! Mi21: calls in short; a new object handed to a def -/
namespace Mi
open PySem PySem.Spec L2
section
variable {X : Cx} {W : WX} {k : Nat} {x : Str} {id T : String} {p pos : Pos} {e : Expr} {es : List Expr} {g : List D → Option D} {r : List V → Hp → VK → Prop} {ma : En → Rs (List D)} {ms : En → Option (List D)}
theorem ev_b (hc : CallR X (.builtin id) r) (hs : SndN X.K g r) (hm : X.mg x = none) (ha : EvN X W (e :: es) k ma) (hg : Gl X x := by rfl) (hv : bootBuiltins x = some (.builtin id) := by decide +kernel) (hn : x ≠ "__name__" := by decide) (hdb : (x == ("__debug__" : Str)) = false := by decide)
    (he : starEach (e :: es) X.env = (false, eval e X.env) :: starEach es X.env := by rfl) (hpl : (backTo pos (starEach es X.env)).any (·.1) = false := by rfl) : Ev X W (.Call (.Name x p) (e :: es) [] pos) (xN g ma) :=
  ev_n (t := fun t => tCB r t) hs ha (pe_callB hc hg hm hv ha.pa hn hdb he hpl)
theorem ev_t (hc : CallR X (.type T) r) (hs : SndN X.K g r) (hm : X.mg x = none) (ha : EvN X W (e :: es) k ma) (hg : Gl X x := by rfl) (hv : bootBuiltins x = some (.type T) := by decide +kernel) (hn : x ≠ "__name__" := by decide) (hdb : (x == ("__debug__" : Str)) = false := by decide)
    (he : starEach (e :: es) X.env = (false, eval e X.env) :: starEach es X.env := by rfl) (hpl : (backTo pos (starEach es X.env)).any (·.1) = false := by rfl) : Ev X W (.Call (.Name x p) (e :: es) [] pos) (xN g ma) :=
  ev_n (t := fun t => tCB r t) hs ha (pe_callTy hc hg hm hv ha.pa hn hdb he hpl)
theorem ep_b (hc : CallR X (.builtin id) r) (hs : SndN X.K g r) (hm : X.mg x = none) (ha : EvPs X (e :: es) ms) (hg : Gl X x := by rfl) (hv : bootBuiltins x = some (.builtin id) := by decide +kernel) (hn : x ≠ "__name__" := by decide) (hdb : (x == ("__debug__" : Str)) = false := by decide)
    (he : starEach (e :: es) X.env = (false, eval e X.env) :: starEach es X.env := by rfl) (hpl : (backTo pos (starEach es X.env)).any (·.1) = false := by rfl) : EvP X (.Call (.Name x p) (e :: es) [] pos) (pN g ms) :=
  ep_n hs (pe_callB hc hg hm hv ha hn hdb he hpl)
theorem ep_t (hc : CallR X (.type T) r) (hs : SndN X.K g r) (hm : X.mg x = none) (ha : EvPs X (e :: es) ms) (hg : Gl X x := by rfl) (hv : bootBuiltins x = some (.type T) := by decide +kernel) (hn : x ≠ "__name__" := by decide) (hdb : (x == ("__debug__" : Str)) = false := by decide)
    (he : starEach (e :: es) X.env = (false, eval e X.env) :: starEach es X.env := by rfl) (hpl : (backTo pos (starEach es X.env)).any (·.1) = false := by rfl) : EvP X (.Call (.Name x p) (e :: es) [] pos) (pN g ms) :=
  ep_n hs (pe_callTy hc hg hm hv ha hn hdb he hpl)
end
/-- BlkOk, by evaluation -/
def blkB (N : List Str) (sc scope : Scope) (own : List (Str × Nat)) : Bool :=
  decide (scope.kind = .function) && (scope.names.all (fun y => decide (scope.names.lookup y.1 = some y.2)) && (own.all (fun p => decide (N[p.2]? = some p.1)) &&
    (scope.names.all (fun y => decide (y.2 = .free → sc.names.lookup y.1 = some .cell ∨ sc.names.lookup y.1 = some .free)) && scope.names.all (fun y => decide (y.2 = .local ∨ y.2 = .cell → y.1 ∈ own.map (·.1) ∨ y.1 ∉ N)))))
theorem blkOk_of {N : List Str} {sc scope : Scope} {own : List (Str × Nat)} (h : blkB N sc scope own = true) : BlkOk N sc scope own := by
  unfold blkB at h
  simp only [Bool.and_eq_true, decide_eq_true_eq, List.all_eq_true] at h
  exact ⟨h.1, h.2.1, h.2.2.1, h.2.2.2.1, h.2.2.2.2⟩
/-- f(a new object), f a def that changes it -/
def xCallF (m : En → Rs D) (mo : En → Rs Ob) : En → Rs D := fun env => (mo env).bind fun o e1 => match m [.io o] with
  | .ok d _ => .ok d e1
  | _ => .bad
section
variable {K : PySem.W.Frag} {U : Addr → Prop} {env e1 : En} {σ : St} {H H1 : Hp} {o : Ob} {p : Addr}
theorem fre_args (f : Fre K U env σ H e1 H1 o p) : SA K (Ux U e1 σ) [.io o] [some (V.ref p)] H1 where
  len := rfl
  al := fun a h => f.sa.alx (h.imp .inl id)
  nu := fun a ⟨i, s, q, h1, h2, h3⟩ z => by
    have e : a = p := by
      cases i with
      | zero => cases h3; rfl
      | succ i => simp at h1
    subst e
    rcases z with z | z
    · exact f.nu z
    · exact f.sa.nu a z (.inr rfl)
  inj := fun i j s t q r a h1 h2 h3 h4 h5 h6 => by
    cases i with
    | succ i => simp at h1
    | zero =>
      cases j with
      | succ j => simp at h3
      | zero => rfl
  val := fun i d h => by
    cases i with
    | zero => cases h
    | succ i => simp at h
  ob := fun i s q h1 h2 => by
    cases i with
    | succ i => simp at h1
    | zero =>
      cases h1
      cases h2
      refine ⟨p, rfl, RepO.to (fun _ _ _ q => q) (fun x u n _ z => n ?_) (fun _ q => q) f.ob⟩
      rcases z with z | z
      · exact ux_up.mpr (.inl z)
      · obtain ⟨i, s, q, h1, h2, h3⟩ := z
        cases i with
        | zero => cases h3; exact ux_up.mpr (.inr rfl)
        | succ i => simp at h1
theorem fre_back (sa : SA K U env σ H) (f : Fre K U env σ H e1 H1 o p) {args' : En} {H' : Hp} (st : Ste K (Ux U e1 σ) [.io o] [some (V.ref p)] H1 args' [some (V.ref p)] H') :
    Ste K U env σ H e1 σ H' ∧ ∀ x, Ux U e1 σ x → Ux (Ux U e1 σ) args' [some (V.ref p)] x := by
  have one : ∀ a, Chg [.io o] [some (V.ref p)] a → a = p := fun a ⟨i, s, q, h1, h2, h3⟩ => by
    cases i with
    | zero => cases h3; rfl
    | succ i => simp at h1
  have kept : ∀ a u, a ≠ p → H1 a = some u → H' a = some u := fun a u n h => st.gr a u (fun c => n (one a c)) h
  have sub : ∀ x, Ux U e1 σ x → Ux (Up U p) e1 σ x := fun x h => ux_up.mpr (.inl h)
  have nep : ∀ {x}, ¬ Ux (Up U p) e1 σ x → x ≠ p := fun n e => n (ux_up.mpr (.inr e))
  refine ⟨⟨⟨f.sa.len, fun a h => ?_, fun a c h => f.sa.nu a c (.inl h), f.sa.inj, fun i d h => ?_, fun i s q h1 h2 => ?_⟩, fun a u n h => ?_, f.fr, fun i q h => ?_⟩, fun x h => .inl h⟩
  · exact st.sa.al a (.inl h)
  · obtain ⟨v, e, r⟩ := f.sa.val i d h
    exact ⟨v, e, Rep.to (fun a u n h => kept a u (nep n) h) (fun x u n _ z => n (sub x z)) d v r⟩
  · obtain ⟨a, e, r⟩ := f.sa.ob i s q h1 h2
    refine ⟨a, e, RepO.to (fun a u n h => kept a u (nep n) h) (fun x u n _ z => n (sub x z)) (fun u h => kept a u (fun z => ?_) h) r⟩
    exact f.sa.nu a ⟨i, s, q, h1, h2, e⟩ (.inr z)
  · refine kept a u (fun z => ?_) (f.gr a u n h)
    rcases f.nw with q | q
    · exact n (by rw [z]; exact q)
    · rw [z, q] at h; cases h
  · obtain ⟨q', e⟩ := f.io i q h
    exact ⟨q', e, rfl⟩
end
section
variable {X : Cx} {W : WX} {k : Nat} {f : Addr} {fd : FuncData} {ps : List Str} {x : Str} {p pos : Pos} {e : Expr} {m : En → Rs D} {mo : En → Rs Ob}
theorem ev_callF (F : FnG X.prog X.w X.K X.mg X.base k f fd ps (spM X.K 1 m)) (c : Co X k) (tk : Takes X W) (hm : X.mg x = some (.ref f)) (hk : PySem.W.keepIn X.K (.ref f) = true) (hb : Binds X.K fd ps [])
    (ha : EvF X W e mo) (hg : Gl X x := by rfl) (hdb : (x == ("__debug__" : Str)) = false := by decide) (he : starEach [e] X.env = (false, eval e X.env) :: starEach [] X.env := by rfl)
    (hpl : (backTo pos (starEach [] X.env)).any (·.1) = false := by rfl) : Ev X W (.Call (.Name x p) [e] [] pos) (xCallF m mo) := by
  refine PE_imp (pe_cg F c tk hm hk hb .nil (pa_cons ha pa_nil he) hg hdb he hpl) fun σ H Q ⟨U, env, sa, po⟩ => ⟨U, env, sa, ?_⟩
  unfold xCallF at po
  cases hm : mo env with
  | bad => rw [hm] at po; exact po
  | er x e => rw [hm] at po; exact po
  | ok o e1 =>
    rw [hm] at po
    simp only [Rs.bind_ok] at po
    intro q H1 fr
    refine ⟨Ux U e1 σ, [.io o], rfl, fre_args fr, fun s hs => by rw [List.mem_singleton.mp hs]; rfl, ?_⟩
    cases hr : m [.io o] with
    | bad => simp only [hr] at po; exact po.elim
    | er x e => simp only [hr] at po; exact po.elim
    | ok d args' =>
      simp only [hr] at po
      intro v H' st rep
      obtain ⟨st2, sub⟩ := fre_back sa fr st
      exact po v H' st2 (Rep.to (fun _ _ _ q => q) (fun x u n _ z => n (sub x z)) d v rep)
end
end Mi

set_option Elab.async false
set_option linter.all false
set_option maxRecDepth 100000
set_option maxHeartbeats 4000000
/-! the mirrors of the defs that several laws share; printed by cm.py -/
namespace Cm
open PySem Mi
def m_law_draw_b : En → Rs Fl :=
  (mSeq (mSto 0 gSto (x2 Mi.gAdd (xBor (p2 gIx (pVar 0) (pC (.int 2)))) (xC (.int 1))) (xC (.int 2)))
  (mSeq (mIf (tB1 (x2 gGt (xBor (p2 gIx (pVar 0) (pC (.int 0)))) (xC (.int 0)))) (mSeq (mAsg (gSet 2) (x2 Mi.gMod (xN gInt (xCons (xBor (p2 gIx (pVar 0) (pC (.int 0)))) xNil)) (xVar 1)))
  (mSeq (mSto 0 gSto (x2 Mi.gFdiv (xBor (p2 gIx (pVar 0) (pC (.int 0)))) (xVar 1)) (xC (.int 0)))
  (mRet (xVar 2)))) mNx)
  (mSeq (mAsg (gSet 3) (x2 Mi.gAdd (xN gInt (xCons (xBor (p2 gIx (pVar 0) (pC (.int 1)))) xNil)) (x2 Mi.gMul (xC (.int 65003)) (xBor (p2 gIx (pVar 0) (pC (.int 2)))))))
  (mSeq (mAsg (gSet 4) (x2 Mi.gAdd (x2 Mi.gMod (xN gInt (xCons (xVar 3) xNil)) (xC (.int 60013))) (xC (.int 49003))))
  (mSeq (mSto 0 gSto (x2 Mi.gMod (xN gInt (xCons (x2 Mi.gAdd (x2 Mi.gAdd (x2 Mi.gMul (xVar 3) (xVar 4)) (x2 Mi.gMul (xC (.int 11)) (xBor (p2 gIx (pVar 0) (pC (.int 2)))))) (xC (.int 19))) xNil)) (xC (.int 2147483549))) (xC (.int 1)))
  (mRet (x2 Mi.gMod (x2 Mi.gFdiv (xN gInt (xCons (xBor (p2 gIx (pVar 0) (pC (.int 1)))) xNil)) (xC (.int 509))) (xVar 1))))))))
def m_law_draw : En → Rs D := mDef 2 5 m_law_draw_b
def m_law_marks_b : En → Rs Fl :=
  (mSeq (mOw 2 (fLst (xCons (xC (.str "a")) (xCons (xC (.str "b")) (xCons (xC (.str "c")) (xCons (xC (.str "ab")) (xCons (xC (.str "lamp")) (xCons (xC (.str "marks")) (xCons (xC (.str "nona")) (xCons (xC (.str "x")) (xCons (xC (.str "abcdefgh")) (xCons (xC (.str "aa")) (xCons (xC (.str "z")) (xCons (xC (.str "kind")) (xCons (xC (.str "y")) (xCons (xC (.str "ba")) xNil))))))))))))))))
  (mRet (xN gTuple (xCons (xVal (mLc [3] (xRng1 (xCons (xVar 1) xNil)) (gSet 3) ttYes (lcPush (xMeth 2 gPopAt (xCons (xCall Cm.m_law_draw (qIo 0 (qVal (xBor (pN gLen (psCons (pVar 2) psNil))) qNil))) xNil))))) xNil))))
def m_law_marks : En → Rs D := mDef 2 4 m_law_marks_b
def m_law_one_b : En → Rs Fl :=
  (mRet (x2 gIx (xVar 1) (xCall Cm.m_law_draw (qIo 0 (qVal (xN gLen (xCons (xVar 1) xNil)) qNil)))))
def m_law_one : En → Rs D := mDef 2 2 m_law_one_b
def m_law_rows_b : En → Rs Fl :=
  (mSeq (mAsg (gSet 1) (xLst (xCons (xC (.str "")) xNil)))
  (mSeq (mFor (xRng1 (xCons (xVar 0) xNil)) (gSet 2) (mSeq (mAsg (gSet 3) (xLst xNil))
  (mSeq (mFor (xIter (xVar 1)) (gSet 4) (mAsg (gSet 3) (x2 Mi.gAdd (xVar 3) (xLst (xCons (x2 Mi.gAdd (xVar 4) (xC (.str "0"))) (xCons (x2 Mi.gAdd (xVar 4) (xC (.str "1"))) xNil))))))
  (mAsg (gSet 1) (xVar 3)))))
  (mRet (xVar 1))))
def m_law_rows : En → Rs D := mDef 1 5 m_law_rows_b
def m_law_bag_b : En → Rs Ob :=
  (nSeq (mPar [2, 3] (xCons (xIf (tB1 (x2 gLt (xVar 1) (xN gLen (xCons (xVar 0) xNil)))) (xN gInt (xCons (x2 gIx (xVar 0) (xVar 1)) xNil)) (xC (.int 0))) (xCons (x2 Mi.gMul (xC (.int 99013)) (x2 Mi.gAdd (xVar 1) (xC (.int 5)))) xNil)))
  (nSeq (mFor (xIter (xSl (xVar 0) oNone (oSome (xC (.int 7))))) (gSet 4) (mAsg (gSet 3) (x2 Mi.gMod (xN gInt (xCons (x2 Mi.gAdd (x2 Mi.gAdd (x2 Mi.gMul (xVar 3) (xC (.int 51713))) (x2 Mi.gMod (xN gInt (xCons (xVar 4) xNil)) (xC (.int 1000121)))) (x2 Mi.gMul (xC (.int 17)) (xVar 1))) xNil)) (xC (.int 2147483549)))))
  (nSeq (mAsg (gSet 5) (xIf (ttOr (tB1 (x2 gLt (xVar 2) (xC (.int 0)))) (tB1 (x2 gGe (xVar 2) (x2 Mi.gPow (xC (.int 10)) (xC (.int 15)))))) (xN gAbs (xCons (xVar 2) xNil)) (xC (.int 0))))
  (fLst (xCons (xVar 5) (xCons (x2 Mi.gMod (xN gInt (xCons (x2 Mi.gAdd (xVar 3) (x2 Mi.gMul (xC (.int 99991)) (x2 Mi.gMod (xN gInt (xCons (xVar 2) xNil)) (xC (.int 999931))))) xNil)) (xC (.int 2147483549))) (xCons (xC (.int 0)) xNil)))))))
def m_law_bag : List D → Rs Ob := mDefN 2 6 m_law_bag_b
def m_law_lot_b : En → Rs Fl :=
  (mSeq (mAsg (gSet 2) (xCall Cm.m_law_one (qIo 0 (qVal (xLst (xCons (xC (.int 2)) (xCons (xC (.int 2)) (xCons (xC (.int 3)) (xCons (xC (.int 5)) xNil))))) qNil))))
  (mRet (xN gTuple (xCons (xVal (mLc [3] (xIter (xCall Cm.m_law_rows (qVal (xVar 1) qNil))) (gSet 3) (tB1 (x2 gEq (xCall Cm.m_law_draw (qIo 0 (qVal (xVar 2) qNil))) (xC (.int 0)))) (lcPush (xVar 3)))) xNil))))
def m_law_lot : En → Rs D := mDef 2 4 m_law_lot_b
def m_is_name_b : En → Rs Fl :=
  (mSeq (mIf (ttOr (ttNot (ttTru (xIsi isStrD (xVar 0)))) (ttNot (tB1 (xChain gLe gLe (xC (.int 1)) (xN gLen (xCons (xVar 0) xNil)) (xC (.int 8)))))) (mRet (xC (.bl false))) mNx)
  (mRet (xN gAll (xCons (xVal (mLc [1] (xIter (xVar 0)) (gSet 1) ttYes (lcPush (x2 gIn (xVar 1) (xC (.str "abcdefghijklmnopqrstuvwxyz")))))) xNil))))
def m_is_name : En → Rs D := mDef 1 2 m_is_name_b
def m_wrong_mark_b : En → Rs Fl :=
  (mSeq (mFor (xEnum (xCons (xVar 0) xNil)) (gUnp 2 (gsCons (gSet 1) (gsCons (gSet 2) gsNil))) (mIf (ttOr (tB1 (x2 gEq (xVar 1) (xC (.int 4)))) (ttOr (ttNot (ttTru (xCall Cm.m_is_name (qVal (xVar 2) qNil)))) (tB1 (x2 gIn (xVar 2) (xSl (xVar 0) oNone (oSome (xVar 1))))))) (mRet (xVar 1)) mNx))
  (mRet (xC .non)))
def m_wrong_mark : En → Rs D := mDef 1 3 m_wrong_mark_b
def m_check_marks_b : En → Rs Fl :=
  (mSeq (mIf (ttOr (ttNot (ttTru (xIsi isTupD (xVar 0)))) (tB1 (x2 gEq (xVar 0) (xTup xNil)))) mBad mNx)
  (mSeq (mAsg (gSet 1) (xCall Cm.m_wrong_mark (qVal (xVar 0) qNil)))
  (mIf (tB1 (x2 gNotN (xVar 1) (xC .non))) mBad mNx)))
def m_check_marks : En → Rs D := mDef 1 2 m_check_marks_b
def m_all_rows_b : En → Rs Fl :=
  (mSeq (mAsg (gSet 1) (xLst (xCons (xC (.str "")) xNil)))
  (mSeq (mFor (xRng1 (xCons (xVar 0) xNil)) (gSet 2) (mAsg (gSet 1) (xVal (mLc [3, 4] (xIter (xVar 1)) (gSet 3) ttYes (lcIn [4] (xIter (xC (.str "01"))) (gSet 4) ttYes (lcPush (x2 Mi.gAdd (xVar 3) (xVar 4))))))))
  (mRet (xVar 1))))
def m_all_rows : En → Rs D := mDef 1 5 m_all_rows_b
def m_is_row_b : En → Rs Fl :=
  (mRet (xAnd (xIsi isStrD (xVar 0)) (xAnd (x2 gEq (xN gLen (xCons (xVar 0) xNil)) (xVar 1)) (xN gAll (xCons (xVal (mLc [2] (xIter (xVar 0)) (gSet 2) ttYes (lcPush (x2 gIn (xVar 2) (xC (.str "01")))))) xNil)))))
def m_is_row : En → Rs D := mDef 2 3 m_is_row_b
def m_wrong_in_lot_b : En → Rs Fl :=
  (mSeq (mFor (xEnum (xCons (xVar 0) xNil)) (gUnp 2 (gsCons (gSet 2) (gsCons (gSet 3) gsNil))) (mIf (ttOr (ttNot (ttTru (xCall Cm.m_is_row (qVal (xVar 3) (qVal (xVar 1) qNil))))) (ttAnd (tB1 (x2 gGt (xVar 2) (xC (.int 0)))) (tB1 (x2 gLe (xVar 3) (x2 gIx (xVar 0) (x2 Mi.gSub (xVar 2) (xC (.int 1)))))))) (mRet (xVar 2)) mNx))
  (mRet (xC .non)))
def m_wrong_in_lot : En → Rs D := mDef 2 4 m_wrong_in_lot_b
def m_check_lot_b : En → Rs Fl :=
  (mSeq (mIf (ttNot (ttTru (xIsi isTupD (xVar 0)))) mBad mNx)
  (mSeq (mAsg (gSet 2) (xCall Cm.m_wrong_in_lot (qVal (xVar 0) (qVal (xVar 1) qNil))))
  (mIf (tB1 (x2 gNotN (xVar 2) (xC .non))) mBad mNx)))
def m_check_lot : En → Rs D := mDef 2 3 m_check_lot_b
def m_is_over_b : En → Rs Fl :=
  (mRet (xN gAll (xCons (xVal (mLc [2, 3] (xZip (xCons (xVar 0) (xCons (xVar 1) xNil))) (gUnp 2 (gsCons (gSet 2) (gsCons (gSet 3) gsNil))) ttYes (lcPush (x2 gGe (xVar 2) (xVar 3))))) xNil)))
def m_is_over : En → Rs D := mDef 2 4 m_is_over_b
def m_lacking_row_b : En → Rs Fl :=
  (mSeq (mFor (xIter (xVar 0)) (gSet 2) (mIf (ttTru (xN gAny (xCons (xVal (mLc [3] (xIter (xCall Cm.m_all_rows (qVal (xVar 1) qNil))) (gSet 3) ttYes (lcPush (xAnd (xCall Cm.m_is_over (qVal (xVar 3) (qVal (xVar 2) qNil))) (x2 gNotIn (xVar 3) (xVar 0)))))) xNil))) (mRet (xVar 2)) mNx))
  (mRet (xC .non)))
def m_lacking_row : En → Rs D := mDef 2 4 m_lacking_row_b
def m_is_rising_b : En → Rs Fl :=
  (mSeq (mDrop (xCall Cm.m_check_marks (qVal (xVar 0) qNil)))
  (mSeq (mDrop (xCall Cm.m_check_lot (qVal (xVar 1) (qVal (xN gLen (xCons (xVar 0) xNil)) qNil))))
  (mRet (x2 gIsN (xCall Cm.m_lacking_row (qVal (xVar 1) (qVal (xN gLen (xCons (xVar 0) xNil)) qNil))) (xC .non)))))
def m_is_rising : En → Rs D := mDef 2 2 m_is_rising_b
def m_check_rows_b : En → Rs Fl :=
  (mSeq (mIf (ttNot (ttTru (xIsi isTupD (xVar 0)))) mBad mNx)
  (mFor (xEnum (xCons (xVar 0) xNil)) (gUnp 2 (gsCons (gSet 2) (gsCons (gSet 3) gsNil))) (mIf (ttNot (ttTru (xCall Cm.m_is_row (qVal (xVar 3) (qVal (xVar 1) qNil))))) mBad mNx)))
def m_check_rows : En → Rs D := mDef 2 4 m_check_rows_b
def m_risen_b : En → Rs Fl :=
  (mRet (xN gTuple (xCons (xVal (mLc [2] (xIter (xCall Cm.m_all_rows (qVal (xVar 1) qNil))) (gSet 2) (ttTru (xN gAny (xCons (xVal (mLc [3] (xIter (xVar 0)) (gSet 3) ttYes (lcPush (xCall Cm.m_is_over (qVal (xVar 2) (qVal (xVar 3) qNil)))))) xNil))) (lcPush (xVar 2)))) xNil)))
def m_risen : En → Rs D := mDef 2 4 m_risen_b
def m_rising_b : En → Rs Fl :=
  (mSeq (mDrop (xCall Cm.m_check_marks (qVal (xVar 0) qNil)))
  (mSeq (mDrop (xCall Cm.m_check_rows (qVal (xVar 1) (qVal (xN gLen (xCons (xVar 0) xNil)) qNil))))
  (mRet (xCall Cm.m_risen (qVal (xVar 1) (qVal (xN gLen (xCons (xVar 0) xNil)) qNil))))))
def m_rising : En → Rs D := mDef 2 2 m_rising_b
def m_check_rising_b : En → Rs Fl :=
  (mSeq (mDrop (xCall Cm.m_check_lot (qVal (xVar 0) (qVal (xVar 1) qNil))))
  (mSeq (mAsg (gSet 2) (xCall Cm.m_lacking_row (qVal (xVar 0) (qVal (xVar 1) qNil))))
  (mIf (tB1 (x2 gNotN (xVar 2) (xC .non))) mBad mNx)))
def m_check_rising : En → Rs D := mDef 2 3 m_check_rising_b
def m_least_of_b : En → Rs Fl :=
  (mRet (xN gTuple (xCons (xVal (mLc [1] (xIter (xVar 0)) (gSet 1) (ttNot (ttTru (xN gAny (xCons (xVal (mLc [2] (xIter (xVar 0)) (gSet 2) ttYes (lcPush (xAnd (x2 gNe (xVar 2) (xVar 1)) (xCall Cm.m_is_over (qVal (xVar 1) (qVal (xVar 2) qNil))))))) xNil)))) (lcPush (xVar 1)))) xNil)))
def m_least_of : En → Rs D := mDef 1 3 m_least_of_b
def m_least_rows_b : En → Rs Fl :=
  (mSeq (mDrop (xCall Cm.m_check_marks (qVal (xVar 0) qNil)))
  (mSeq (mDrop (xCall Cm.m_check_rising (qVal (xVar 1) (qVal (xN gLen (xCons (xVar 0) xNil)) qNil))))
  (mRet (xCall Cm.m_least_of (qVal (xVar 1) qNil)))))
def m_least_rows : En → Rs D := mDef 2 2 m_least_rows_b
def m_law_over_2_b : En → Rs Fl :=
  (mRet (x2 gEq (xVal (mLc [2] (xRng1 (xCons (xN gLen (xCons (xVar 0) xNil)) xNil)) (gSet 2) (tB1 (x2 gLt (x2 gIx (xVar 0) (xVar 2)) (x2 gIx (xVar 1) (xVar 2)))) (lcPush (xVar 2)))) (xLst xNil)))
def m_law_over_2 : En → Rs D := mDef 2 3 m_law_over_2_b
def m_law_risen_b : En → Rs Fl :=
  (mRet (xN gTuple (xCons (xVal (mLc [2] (xIter (xCall Cm.m_law_rows (qVal (xVar 0) qNil))) (gSet 2) (tB1 (x2 gNe (xVal (mLc [3] (xIter (xVar 1)) (gSet 3) (ttTru (xCall Cm.m_law_over_2 (qVal (xVar 2) (qVal (xVar 3) qNil)))) (lcPush (xVar 3)))) (xLst xNil))) (lcPush (xVar 2)))) xNil)))
def m_law_risen : En → Rs D := mDef 2 4 m_law_risen_b
end Cm

set_option Elab.async false
set_option linter.all false
set_option maxRecDepth 100000
set_option maxHeartbeats 4000000
/-! Pl0: mirrors, evaluated -/
namespace Mi
open PySem
/-- the caller's -/
def isIoS : Sl → Bool
  | .io _ => true
  | _ => false
@[simp] theorem isIo_v (d : D) : isIoS (.v d) = false := id rfl
@[simp] theorem isIo_un : isIoS .un = false := id rfl
@[simp] theorem isIo_ow (o : Ob) : isIoS (.ow o) = false := id rfl
@[simp] theorem isIo_io (o : Ob) : isIoS (.io o) = true := id rfl
section
variable {α β : Type} {env : En}
theorem bind_eq (r : Rs α) (f : α → En → Rs β) : r.bind f = match r with | .ok a e => f a e | .er x e => .er x e | .bad => .bad := by cases r <;> rfl
@[simp] theorem ev_mSeq (m n : En → Rs Fl) : mSeq m n env = (m env).bind fun fl e => match fl with | .nx => n e | fl => .ok fl e := id rfl
@[simp] theorem ev_mNx : mNx env = .ok .nx env := id rfl
@[simp] theorem ev_mAsg (g : D → En → Option En) (m : En → Rs D) : mAsg g m env = (m env).bind fun d e1 => match g d e1 with | some e2 => .ok .nx e2 | none => .bad := id rfl
@[simp] theorem ev_mDrop (m : En → Rs D) : mDrop m env = (m env).bind fun _ e1 => .ok .nx e1 := id rfl
@[simp] theorem ev_mRet (m : En → Rs D) : mRet m env = (m env).bind fun d e1 => .ok (.rt d) e1 := id rfl
@[simp] theorem ev_mRetN : mRetN env = .ok (.rt .non) env := id rfl
@[simp] theorem ev_mIf (t : En → Rs Bool) (m n : En → Rs Fl) : mIf t m n env = (t env).bind fun b e => match b with | true => m e | false => n e := id rfl
@[simp] theorem ev_mBad : mBad env = .bad := id rfl
@[simp] theorem ev_mBrk : mBrk env = .ok .bk env := id rfl
@[simp] theorem ev_mCnt : mCnt env = .ok .ct env := id rfl
@[simp] theorem ev_mPass : mPass env = .ok .nx env := id rfl
@[simp] theorem ev_mPar (is : List Nat) (ma : En → Rs (List D)) : mPar is ma env = (ma env).bind fun ds e1 => match mPar.parS is ds e1 with | some e2 => .ok .nx e2 | none => .bad := id rfl
@[simp] theorem ev_parS0 : mPar.parS [] [] env = some env := id rfl
@[simp] theorem ev_parS (i : Nat) (is : List Nat) (d : D) (ds : List D) : mPar.parS (i :: is) (d :: ds) env = (gSet i d env).bind (mPar.parS is ds) := id rfl
@[simp] theorem ev_mOw (i : Nat) (m : En → Rs Ob) : mOw i m env = (m env).bind fun o e => match e[i]? with
  | none => .bad
  | some s => if isIoS s = true then .bad else .ok .nx (e.set i (.ow o)) := by
  unfold mOw
  congr 1
  funext o e
  cases e[i]? with
  | none => rfl
  | some s => cases s <;> rfl
@[simp] theorem ev_mSto (i : Nat) (g : Ob → D → D → Option Ob) (m mk : En → Rs D) : mSto i g m mk env = (m env).bind fun d e1 => if mSto.isObAt i e1 = true then (mk e1).bind fun kd e2 => stoAt i (fun o => g o kd d) e2 else .bad := id rfl
@[simp] theorem ev_isOb (i : Nat) : mSto.isObAt i env = ((env[i]?).bind Sl.ob).isSome := id rfl
@[simp] theorem ev_stoAt (i : Nat) (g : Ob → Option Ob) : stoAt i g env = match env[i]? with
  | some s => match s.ob with
    | some o => match g o with
      | some o' => .ok .nx (env.set i (s.put o'))
      | none => .bad
    | none => .bad
  | none => .bad := id rfl
@[simp] theorem ev_mFor (mi : En → Rs (List D)) (mg : D → En → Option En) (mb : En → Rs Fl) : mFor mi mg mb env = (mi env).bind fun ds e1 => forL mg mb ds e1 := id rfl
@[simp] theorem ev_xVar (i : Nat) : xVar i env = match env[i]? with
  | some (.v d) => .ok d env
  | some (.ow o) => .ok o.val (env.set i (.v o.val))
  | _ => .bad := id rfl
@[simp] theorem ev_xC (d : D) : xC d env = .ok d env := id rfl
@[simp] theorem ev_x1 (g : D → Option D) (m : En → Rs D) : x1 g m env = (m env).bind fun d e => .of (g d) e := id rfl
@[simp] theorem ev_x2 (g : D → D → Option D) (m n : En → Rs D) : x2 g m n env = (m env).bind fun d e1 => (n e1).bind fun d2 e2 => .of (g d d2) e2 := id rfl
@[simp] theorem ev_xN (g : List D → Option D) (m : En → Rs (List D)) : xN g m env = (m env).bind fun d e => .of (g d) e := id rfl
@[simp] theorem ev_xNil : xNil env = .ok [] env := id rfl
@[simp] theorem ev_xCons (m : En → Rs D) (ma : En → Rs (List D)) : xCons m ma env = (m env).bind fun d e1 => (ma e1).bind fun ds e2 => .ok (d :: ds) e2 := id rfl
@[simp] theorem ev_qNil : qNil env = .ok [] env := id rfl
@[simp] theorem ev_qVal (m : En → Rs D) (ma : En → Rs (List Ar)) : qVal m ma env = (m env).bind fun d e1 => (ma e1).bind fun ds e2 => .ok (.inl d :: ds) e2 := id rfl
@[simp] theorem ev_qIo (i : Nat) (ma : En → Rs (List Ar)) : qIo i ma env = match (env[i]?).bind Sl.ob with | some _ => (ma env).bind fun ds e2 => .ok (.inr i :: ds) e2 | none => .bad := id rfl
@[simp] theorem ev_qPick (pm : List Nat) (mq : En → Rs (List Ar)) : qPick pm mq env = (mq env).bind fun as e => .ok (pick pm as) e := id rfl
@[simp] theorem ev_xCall (m : En → Rs D) (ma : En → Rs (List Ar)) : xCall m ma env = (ma env).bind fun as e => if (inrs as).Nodup then (match mkArgs e as with | none => .bad | some args => match m args with | .ok d args' => .ok d (putBack e as args') | .er x args' => .er x (putBack e as args') | .bad => .bad) else .bad := id rfl
@[simp] theorem ev_xCallF (m : En → Rs D) (mo : En → Rs Ob) : xCallF m mo env = (mo env).bind fun o e1 => match m [.io o] with | .ok d _ => .ok d e1 | _ => .bad := id rfl
@[simp] theorem ev_xCallN (m : List D → Rs Ob) (ma : En → Rs (List D)) : xCallN m ma env = (ma env).bind fun ds e1 => match m ds with | .ok o _ => .ok o e1 | _ => .bad := id rfl
@[simp] theorem ev_xTup (ma : En → Rs (List D)) : xTup ma env = (ma env).bind fun ds e => .ok (.tup ds) e := id rfl
@[simp] theorem ev_xLst (ma : En → Rs (List D)) : xLst ma env = (ma env).bind fun ds e => .ok (.lst ds) e := id rfl
@[simp] theorem ev_xVal (mo : En → Rs Ob) : xVal mo env = (mo env).bind fun o e => .ok o.val e := id rfl
@[simp] theorem ev_fLst (ma : En → Rs (List D)) : fLst ma env = (ma env).bind fun ds e => .ok (.lst ds) e := id rfl
@[simp] theorem ev_fDict (t : Bool) : fDict t env = .ok (.dct t [] []) env := id rfl
@[simp] theorem ev_fOwn (i : Nat) : fOwn i env = match env[i]? with
  | some (.ow o) => .ok o (env.set i .un)
  | _ => .bad := id rfl
@[simp] theorem ev_xSl (m : En → Rs D) (lo hi : En → Rs (Option Int)) : xSl m lo hi env = (m env).bind fun d e1 => (lo e1).bind fun l e2 => (hi e2).bind fun h e3 => .of (gSl l h d) e3 := id rfl
@[simp] theorem ev_oNone : oNone env = .ok none env := id rfl
@[simp] theorem ev_oSome (m : En → Rs D) : oSome m env = (m env).bind fun d e => .of ((isInt d).map some) e := id rfl
@[simp] theorem ev_xAnd (m n : En → Rs D) : xAnd m n env = (m env).bind fun d e => match d with | .bl true => n e | .bl false => .ok (.bl false) e | _ => .bad := id rfl
@[simp] theorem ev_xOr (m n : En → Rs D) : xOr m n env = (m env).bind fun d e => match d with | .bl true => .ok (.bl true) e | .bl false => n e | _ => .bad := id rfl
@[simp] theorem ev_xNot (m : En → Rs D) : xNot m env = (m env).bind fun d e => .of (d.truth.map fun b => .bl (!b)) e := id rfl
@[simp] theorem ev_xIf (t : En → Rs Bool) (m n : En → Rs D) : xIf t m n env = (t env).bind fun b e => match b with | true => m e | false => n e := id rfl
@[simp] theorem ev_xChain (g g' : D → D → Option D) (ma mb mc : En → Rs D) : xChain g g' ma mb mc env = (ma env).bind fun d1 e1 => (mb e1).bind fun d2 e2 => match g d1 d2 with | some (.bl true) => (mc e2).bind fun d3 e3 => .of (g' d2 d3) e3 | some (.bl false) => .ok (.bl false) e2 | _ => .bad := id rfl
@[simp] theorem ev_ttTru (m : En → Rs D) : ttTru m env = (m env).bind fun d e => .of d.truth e := id rfl
@[simp] theorem ev_ttNot (m : En → Rs Bool) : ttNot m env = (m env).bind fun b e => .ok (!b) e := id rfl
@[simp] theorem ev_ttAnd (m n : En → Rs Bool) : ttAnd m n env = (m env).bind fun b e => match b with | true => n e | false => .ok false e := id rfl
@[simp] theorem ev_ttOr (m n : En → Rs Bool) : ttOr m n env = (m env).bind fun b e => match b with | true => .ok true e | false => n e := id rfl
@[simp] theorem ev_ttYes : ttYes env = .ok true env := id rfl
@[simp] theorem ev_tB1 (m : En → Rs D) : tB1 m env = (m env).bind fun d e => .of (isBl d) e := id rfl
@[simp] theorem ev_isBl (b : Bool) : isBl (.bl b) = some b := id rfl
@[simp] theorem ev_tP1 (mp : En → Option D) : tP1 mp env = .of ((mp env).bind isBl) env := id rfl
@[simp] theorem ev_xBor (mp : En → Option D) : xBor mp env = match mp env with
  | some d => if isFlat d = true then .ok d env else .bad
  | none => .bad := id rfl
@[simp] theorem ev_pVar (i : Nat) : pVar i env = match env[i]? with
  | some (.v d) => some d
  | some (.ow o) => some o.val
  | some (.io o) => some o.val
  | _ => none := id rfl
@[simp] theorem ev_pC (d : D) : pC d env = some d := id rfl
@[simp] theorem ev_p1 (g : D → Option D) (m : En → Option D) : p1 g m env = (m env).bind g := id rfl
@[simp] theorem ev_p2 (g : D → D → Option D) (m n : En → Option D) : p2 g m n env = (m env).bind fun d => (n env).bind fun e => g d e := id rfl
@[simp] theorem ev_pN (g : List D → Option D) (m : En → Option (List D)) : pN g m env = (m env).bind g := id rfl
@[simp] theorem ev_psNil : psNil env = some [] := id rfl
@[simp] theorem ev_psCons (m : En → Option D) (ms : En → Option (List D)) : psCons m ms env = (m env).bind fun d => (ms env).map fun r => d :: r := id rfl
@[simp] theorem ev_xIter (m : En → Rs D) : xIter m env = (m env).bind fun d e => .of (iterD d) e := id rfl
@[simp] theorem ev_xRng1 (ma : En → Rs (List D)) : xRng1 ma env = (ma env).bind fun ds e => match ds with | [.int j] => .of (rngD 0 j) e | _ => .bad := id rfl
@[simp] theorem ev_xRng2 (ma : En → Rs (List D)) : xRng2 ma env = (ma env).bind fun ds e => match ds with | [.int i, .int j] => .of (rngD i j) e | _ => .bad := id rfl
@[simp] theorem ev_xEnum (ma : En → Rs (List D)) : xEnum ma env = (ma env).bind fun ds e => match ds with | [d] => .of ((iterD d).map enumD) e | _ => .bad := id rfl
@[simp] theorem ev_xZip (ma : En → Rs (List D)) : xZip ma env = (ma env).bind fun ds e => match ds with | [c, d] => .of ((iterD c).bind fun a => (iterD d).map fun b => zipD a b) e | _ => .bad := id rfl
@[simp] theorem ev_xIsi (f : D → Option Bool) (m : En → Rs D) : xIsi f m env = (m env).bind fun d e => .of ((f d).map .bl) e := id rfl
@[simp] theorem ev_gSet (i : Nat) (d : D) : gSet i d env = match env[i]? with
  | none => none
  | some s => if isIoS s = true then none else some (env.set i (.v d)) := by
  unfold gSet
  cases env[i]? with
  | none => rfl
  | some s => cases s <;> rfl
@[simp] theorem ev_gsNil : gsNil [] env = some env := id rfl
@[simp] theorem ev_gsCons (mg : D → En → Option En) (ms : List D → En → Option En) (d : D) (r : List D) : gsCons mg ms (d :: r) env = (mg d env).bind fun e => ms r e := id rfl
@[simp] theorem ev_gUnpT (n : Nat) (ms : List D → En → Option En) (ds : List D) : gUnp n ms (.tup ds) env = if ds.length = n then ms ds env else none := id rfl
@[simp] theorem ev_gUnpL (n : Nat) (ms : List D → En → Option En) (ds : List D) : gUnp n ms (.lst ds) env = if ds.length = n then ms ds env else none := id rfl
@[simp] theorem ev_xMeth (i : Nat) (g : Ob → List D → Option (D × Ob)) (ma : En → Rs (List D)) : xMeth i g ma env = if isLstAt i env = true then (ma env).bind fun ds e => mutAt i (fun o => g o ds) e else .bad := id rfl
@[simp] theorem ev_isLstAt (i : Nat) : isLstAt i env = match (env[i]?).bind Sl.ob with
  | some (.lst _) => true
  | _ => false := id rfl
@[simp] theorem ev_mutAt (i : Nat) (g : Ob → Option (D × Ob)) : mutAt i g env = match env[i]? with
  | some s => match s.ob with
    | some o => match g o with
      | some (z, o') => .ok z (env.set i (s.put o'))
      | none => .bad
    | none => .bad
  | none => .bad := id rfl
@[simp] theorem ev_val (ds : List D) : (Ob.lst ds).val = .lst ds := id rfl
@[simp] theorem ev_ob1 (o : Ob) : (Sl.ow o).ob = some o := id rfl
@[simp] theorem ev_ob2 (o : Ob) : (Sl.io o).ob = some o := id rfl
@[simp] theorem ev_ob3 (d : D) : (Sl.v d).ob = none := id rfl
@[simp] theorem ev_ob4 : Sl.un.ob = none := id rfl
@[simp] theorem ev_put1 (o o' : Ob) : (Sl.ow o).put o' = .ow o' := id rfl
@[simp] theorem ev_put2 (o o' : Ob) : (Sl.io o).put o' = .io o' := id rfl
@[simp] theorem ev_flat1 (i : Int) : isFlat (.int i) = true := id rfl
@[simp] theorem ev_flat2 (i : Str) : isFlat (.str i) = true := id rfl
@[simp] theorem ev_flat3 (i : Bool) : isFlat (.bl i) = true := id rfl
@[simp] theorem ev_flat4 : isFlat .non = true := id rfl
@[simp] theorem ev_mkArgs0 : mkArgs env [] = some [] := id rfl
@[simp] theorem ev_mkArgsV (d : D) (r : List Ar) : mkArgs env (.inl d :: r) = (mkArgs env r).map fun t => .v d :: t := id rfl
@[simp] theorem ev_mkArgsO (i : Nat) (r : List Ar) : mkArgs env (.inr i :: r) = ((env[i]?).bind fun s => s.ob.map .io).bind fun s => (mkArgs env r).map fun t => s :: t := id rfl
@[simp] theorem ev_inrs0 : inrs [] = [] := id rfl
@[simp] theorem ev_inrsV (d : D) (r : List Ar) : inrs (.inl d :: r) = inrs r := id rfl
@[simp] theorem ev_inrsO (i : Nat) (r : List Ar) : inrs (.inr i :: r) = i :: inrs r := id rfl
@[simp] theorem ev_lookV (d : D) (as : List Ar) (s : Sl) (r : En) (i : Nat) : lookIo (.inl d :: as) (s :: r) i = lookIo as r i := by cases s <;> rfl
@[simp] theorem ev_lookO (k : Nat) (as : List Ar) (o : Ob) (r : En) (i : Nat) : lookIo (.inr k :: as) (.io o :: r) i = if k = i then some o else lookIo as r i := id rfl
@[simp] theorem ev_look0 (r : En) (i : Nat) : lookIo [] r i = none := by cases r <;> rfl
@[simp] theorem ev_mrgO (o o' : Ob) (r t : En) : mergeA (.io o :: r) (.io o' :: t) = .io o' :: mergeA r t := id rfl
@[simp] theorem ev_mrgV (d : D) (s : Sl) (r t : En) : mergeA (.v d :: r) (s :: t) = .v d :: mergeA r t := id rfl
@[simp] theorem ev_mrg0 (t : En) : mergeA [] t = [] := by cases t <;> rfl
end
/-- a slot's values stand through calls that take values alone -/
theorem putBack_nil {env : En} {as : List Ar} {args : En} (h : inrs as = []) : putBack env as args = env := by
  have core : ∀ (as : List Ar) (r : En) (i : Nat), inrs as = [] → lookIo as r i = none := by
    intro as
    induction as with
    | nil => intro r i _; exact ev_look0 r i
    | cons a as ih =>
      intro r i h
      cases a with
      | inr k => simp [inrs] at h
      | inl d =>
        cases r with
        | nil => cases as <;> rfl
        | cons s r => rw [ev_lookV]; exact ih r i h
  unfold putBack
  apply List.ext_getElem?
  intro i
  rw [List.getElem?_mapIdx]
  simp only [core as args _ h]
  cases env[i]? <;> rfl
@[simp] theorem putBack_v (env : En) (d : D) (args : En) : putBack env [.inl d] args = env := putBack_nil rfl
@[simp] theorem putBack_vv (env : En) (d d2 : D) (args : En) : putBack env [.inl d, .inl d2] args = env := putBack_nil rfl
@[simp] theorem putBack_vvv (env : En) (d d2 d3 : D) (args : En) : putBack env [.inl d, .inl d2, .inl d3] args = env := putBack_nil rfl
@[simp] theorem putBack_vvvv (env : En) (d d2 d3 d4 : D) (args : En) : putBack env [.inl d, .inl d2, .inl d3, .inl d4] args = env := putBack_nil rfl
@[simp] theorem putBack_0 (env : En) (args : En) : putBack env [] args = env := putBack_nil rfl
theorem putBack_io0 (o o' : Ob) (s : Sl) (hs : s.ob = some o) (r : En) (as : List Ar) (h : inrs as = []) (t : En) : putBack (s :: r) (.inr 0 :: as) (.io o' :: t) = s.put o' :: r := by
  have core : ∀ (as : List Ar) (r : En) (i : Nat), inrs as = [] → lookIo as r i = none := by
    intro as
    induction as with
    | nil => intro r i _; exact ev_look0 r i
    | cons a as ih =>
      intro r i h
      cases a with
      | inr k => simp [inrs] at h
      | inl d =>
        cases r with
        | nil => cases as <;> rfl
        | cons s r => rw [ev_lookV]; exact ih r i h
  unfold putBack
  apply List.ext_getElem?
  intro i
  rw [List.getElem?_mapIdx]
  cases i with
  | zero => simp
  | succ i =>
    simp [core as t _ h]
@[simp] theorem putBack_i (o o' : Ob) (r t : En) : putBack (.io o :: r) [.inr 0] (.io o' :: t) = .io o' :: r := putBack_io0 o o' _ rfl r [] rfl t
@[simp] theorem putBack_iv (o o' : Ob) (r t : En) (d : D) : putBack (.io o :: r) [.inr 0, .inl d] (.io o' :: t) = .io o' :: r := putBack_io0 o o' _ rfl r _ rfl t
@[simp] theorem putBack_ivv (o o' : Ob) (r t : En) (d e : D) : putBack (.io o :: r) [.inr 0, .inl d, .inl e] (.io o' :: t) = .io o' :: r := putBack_io0 o o' _ rfl r _ rfl t
@[simp] theorem putBack_ivvv (o o' : Ob) (r t : En) (d e f : D) : putBack (.io o :: r) [.inr 0, .inl d, .inl e, .inl f] (.io o' :: t) = .io o' :: r := putBack_io0 o o' _ rfl r _ rfl t
end Mi

set_option Elab.async false
set_option linter.all false
set_option maxRecDepth 100000
set_option maxHeartbeats 4000000
/-! Pl1: the law's draws -/
namespace Pl
open PySem Mi
theorem log2_small {n k : Nat} (h : n < 2 ^ k) : n.log2 < k + 1 := by
  by_cases e : n = 0
  · subst e; simp
  · exact Nat.lt_of_lt_of_le ((Nat.log2_lt e).mpr h) (Nat.le_succ k)
theorem gMul_ok {i j : Int} (hi : i.natAbs < 2 ^ 100) (hj : j.natAbs < 2 ^ 100) : gMul (.int i) (.int j) = some (.int (i * j)) := by
  have h1 := log2_small hi
  have h2 := log2_small hj
  simp only [gMul]
  rw [if_pos (by omega)]
theorem gFdiv_ok {i j : Int} (hj : 0 < j) (h : j.natAbs < 2 ^ 100) : gFdiv (.int i) (.int j) = some (.int (i / j)) := by
  have h2 := log2_small h
  simp only [gFdiv]
  rw [if_pos ⟨hj, by omega⟩]
theorem gMod_ok {i j : Int} (hj : 0 < j) : gMod (.int i) (.int j) = some (.int (i % j)) := by
  simp only [gMod]
  rw [if_pos hj]
@[simp] theorem gAdd_ii (i j : Int) : gAdd (.int i) (.int j) = some (.int (i + j)) := id rfl
@[simp] theorem gSub_ii (i j : Int) : gSub (.int i) (.int j) = some (.int (i - j)) := id rfl
@[simp] theorem gInt_i (i : Int) : gInt [.int i] = some (.int i) := id rfl
@[simp] theorem ofs {α : Type} (a : α) (e : En) : Rs.of (some a) e = .ok a e := id rfl
/-- a bag: held signs, seed, count -/
abbrev bagO (a b c : Int) : Ob := .lst [.int a, .int b, .int c]
theorem draw_ok (a b c w : Int) (hw : 0 < w) (hw2 : w < 1000) (hb : b.natAbs < 2 ^ 31) (hc : c.natAbs < 2 ^ 60) :
    ∃ a' b' r, Cm.m_law_draw [.io (bagO a b c), .v (.int w)] = .ok (.int r) [.io (bagO a' b' (c + 1)), .v (.int w)] ∧ 0 ≤ r ∧ r < w ∧ b'.natAbs < 2 ^ 31 := by
  have m1 : (0 : Int) < 2147483549 := by decide
  have m2 : (0 : Int) < 60013 := by decide
  have m3 : (0 : Int) < 509 := by decide
  have d1 : ∀ i, gFdiv (.int i) (.int w) = some (.int (i / w)) := fun i => gFdiv_ok hw (by omega)
  have d2 : ∀ i, gFdiv (.int i) (.int 509) = some (.int (i / 509)) := fun i => gFdiv_ok m3 (by decide)
  have q1 : ∀ i, gMod (.int i) (.int w) = some (.int (i % w)) := fun i => gMod_ok hw
  have q2 : ∀ i, gMod (.int i) (.int 2147483549) = some (.int (i % 2147483549)) := fun i => gMod_ok m1
  have q3 : ∀ i, gMod (.int i) (.int 60013) = some (.int (i % 60013)) := fun i => gMod_ok m2
  have u1 : gMul (.int 65003) (.int (c + 1)) = some (.int (65003 * (c + 1))) := gMul_ok (by decide) (by omega)
  have u2 : gMul (.int 11) (.int (c + 1)) = some (.int (11 * (c + 1))) := gMul_ok (by decide) (by omega)
  have u3 : ∀ k : Int, gMul (.int (b + 65003 * (c + 1))) (.int (k % 60013 + 49003)) = some (.int ((b + 65003 * (c + 1)) * (k % 60013 + 49003))) := fun k => gMul_ok (by omega) (by omega)
  by_cases ha : 0 < a
  · refine ⟨a / w, b, a % w, ?_, Int.emod_nonneg _ (by omega), Int.emod_lt_of_pos _ hw, hb⟩
    simp [↓bind_eq, Cm.m_law_draw, Cm.m_law_draw_b, mDef, L2.atI, L2.ixN, gIx, gSto, gOrd, ha, d1, q1]
  · refine ⟨a, ((b + 65003 * (c + 1)) * ((b + 65003 * (c + 1)) % 60013 + 49003) + 11 * (c + 1) + 19) % 2147483549, ((b + 65003 * (c + 1)) * ((b + 65003 * (c + 1)) % 60013 + 49003) + 11 * (c + 1) + 19) % 2147483549 / 509 % w, ?_, Int.emod_nonneg _ (by omega), Int.emod_lt_of_pos _ hw, by omega⟩
    simp [↓bind_eq, Cm.m_law_draw, Cm.m_law_draw_b, mDef, L2.atI, L2.ixN, gIx, gSto, gOrd, ha, d1, d2, q1, q2, q3, u1, u2, u3]
end Pl

set_option Elab.async false
set_option linter.all false
set_option maxRecDepth 100000
set_option maxHeartbeats 4000000
/-! Pl2: loops, by invariants -/
namespace Pl
open PySem Mi
/-- a for loop: I by the turn and the names; R of its end -/
theorem forL_inv {mg : D → En → Option En} {mb : En → Rs Fl} {ds : List D} (I : Nat → En → Prop) (R : Rs Fl → Prop)
    (step : ∀ i d e, ds[i]? = some d → I i e → ∃ e2, mg d e = some e2 ∧ match mb e2 with
      | .ok .nx e3 => I (i + 1) e3
      | .ok .ct e3 => I (i + 1) e3
      | .ok .bk e3 => R (.ok .nx e3)
      | .ok (.rt d) e3 => R (.ok (.rt d) e3)
      | .er x e3 => R (.er x e3)
      | .bad => False)
    (fin : ∀ e, I ds.length e → R (.ok .nx e)) {e : En} (h : I 0 e) : R (forL mg mb ds e) := by
  have core : ∀ (r : List D) (i : Nat) (e : En), ds.drop i = r → i ≤ ds.length → I i e → R (forL mg mb r e) := by
    intro r
    induction r with
    | nil =>
      intro i e hd hi h
      have : i = ds.length := by
        have := List.drop_eq_nil_iff.mp hd
        omega
      subst this
      exact fin e h
    | cons d r ih =>
      intro i e hd hi h
      have hlt : i < ds.length := by
        by_cases q : i < ds.length
        · exact q
        · rw [List.drop_of_length_le (by omega)] at hd; cases hd
      have hg : ds[i]? = some d := by
        have := congrArg List.head? hd
        simpa [List.head?_drop] using this
      have hr : ds.drop (i + 1) = r := by
        rw [List.drop_eq_getElem_cons hlt] at hd
        exact (List.cons.inj hd).2
      obtain ⟨e2, h1, h2⟩ := step i d e hg h
      simp only [forL, h1]
      cases hb : mb e2 with
      | bad => rw [hb] at h2; exact h2.elim
      | er x e3 => rw [hb] at h2; exact h2
      | ok fl e3 =>
        rw [hb] at h2
        cases fl with
        | nx => exact ih (i + 1) e3 hr hlt h2
        | ct => exact ih (i + 1) e3 hr hlt h2
        | bk => exact h2
        | rt d => exact h2
  exact core ds 0 e rfl (Nat.zero_le _) h
/-- a comprehension's loop -/
theorem lcL_inv {vs : List Nat} {mg : D → En → Option En} {mt : En → Rs Bool} {me : List D → En → Rs (List D)} {ds : List D} (I : Nat → List D → En → Prop)
    (step : ∀ i d acc e, ds[i]? = some d → I i acc e → ∃ acc' e', lcStep vs mg mt me d acc e = .ok acc' e' ∧ I (i + 1) acc' e') {acc : List D} {e : En} (h : I 0 acc e) :
    ∃ acc' e', lcL vs mg mt me ds acc e = .ok acc' e' ∧ I ds.length acc' e' := by
  have core : ∀ (r : List D) (i : Nat) (acc : List D) (e : En), ds.drop i = r → i ≤ ds.length → I i acc e → ∃ acc' e', lcL vs mg mt me r acc e = .ok acc' e' ∧ I ds.length acc' e' := by
    intro r
    induction r with
    | nil =>
      intro i acc e hd hi h
      have : i = ds.length := by
        have := List.drop_eq_nil_iff.mp hd
        omega
      subst this
      exact ⟨acc, e, rfl, h⟩
    | cons d r ih =>
      intro i acc e hd hi h
      have hlt : i < ds.length := by
        by_cases q : i < ds.length
        · exact q
        · rw [List.drop_of_length_le (by omega)] at hd; cases hd
      have hg : ds[i]? = some d := by
        have := congrArg List.head? hd
        simpa [List.head?_drop] using this
      have hr : ds.drop (i + 1) = r := by
        rw [List.drop_eq_getElem_cons hlt] at hd
        exact (List.cons.inj hd).2
      obtain ⟨acc', e', h1, h2⟩ := step i d acc e hg h
      simp only [lcL, h1]
      exact ih (i + 1) acc' e' hr hlt h2
  exact core ds 0 acc e rfl (Nat.zero_le _) h
/-- .. that changes nothing but its own names -/
theorem lcL_pure {vs : List Nat} {mg : D → En → Option En} {mt : En → Rs Bool} {me : List D → En → Rs (List D)} (f : D → List D) {e : En} : ∀ {ds acc : List D}, (∀ d ∈ ds, ∀ acc : List D, acc.length < 4000 → lcStep vs mg mt me d acc e = .ok (acc ++ f d) e) →
    (∀ d ∈ ds, (f d).length ≤ 1) → acc.length + ds.length ≤ 4000 → lcL vs mg mt me ds acc e = .ok (acc ++ ds.flatMap f) e
  | [], acc, _, _, _ => by simp [lcL]
  | d :: ds, acc, h, hf, hl => by
    simp only [List.length_cons] at hl
    have h1 := h d List.mem_cons_self acc (by omega)
    have hd := hf d List.mem_cons_self
    have ih := lcL_pure f (ds := ds) (acc := acc ++ f d) (fun x hx => h x (List.mem_cons_of_mem _ hx)) (fun x hx => hf x (List.mem_cons_of_mem _ hx)) (by rw [List.length_append]; omega)
    simp only [lcL, h1, ih]
    simp
theorem size4000 : 4000 < sizeLine := by decide
/-- one step, the element kept or not -/
theorem lcStep_push {vs : List Nat} {mg : D → En → Option En} {mt : En → Rs Bool} {me : En → Rs D} {d z : D} {acc : List D} {e e2 e3 e4 : En} (h1 : mg d e = some e2) (h2 : mt e2 = .ok true e3) (h3 : me e3 = .ok z e4) (hl : acc.length < 4000) :
    lcStep vs mg mt (lcPush me) d acc e = .ok (acc ++ [z]) (wipeE e4 vs) := by
  have := size4000
  simp only [lcStep, h1, h2, lcPush, h3]
  rw [if_pos (by omega)]
theorem lcStep_skip {vs : List Nat} {mg : D → En → Option En} {mt : En → Rs Bool} {me : List D → En → Rs (List D)} {d : D} {acc : List D} {e e2 e3 : En} (h1 : mg d e = some e2) (h2 : mt e2 = .ok false e3) :
    lcStep vs mg mt me d acc e = .ok acc (wipeE e3 vs) := by
  simp only [lcStep, h1, h2]
@[simp] theorem ev_wipe0 (e : En) : wipeE e [] = e := id rfl
@[simp] theorem ev_wipe (e : En) (v : Nat) (vs : List Nat) : wipeE e (v :: vs) = (wipeE e vs).set v .un := id rfl
@[simp] theorem ev_back0 (e0 e : En) : backE e0 e [] = e := id rfl
@[simp] theorem ev_back (e0 e : En) (v : Nat) (vs : List Nat) : backE e0 e (v :: vs) = match e0[v]? with
  | some s => (backE e0 e vs).set v s
  | none => backE e0 e vs := id rfl
@[simp] theorem ev_okVs0 (e : En) : okVs e [] = true := id rfl
@[simp] theorem ev_okVs (e : En) (v : Nat) (vs : List Nat) : okVs e (v :: vs) = ((match e[v]? with
  | some .un => true
  | some (.v _) => true
  | _ => false) && okVs e vs) := id rfl
@[simp] theorem ev_mLc (vs : List Nat) (mi : En → Rs (List D)) (mg : D → En → Option En) (mt : En → Rs Bool) (me : List D → En → Rs (List D)) (env : En) : mLc vs mi mg mt me env = (mi env).bind fun ds e1 => if okVs e1 vs = true then (match lcL vs mg mt me ds [] (wipeE e1 vs) with
  | .ok acc e2 => .ok (.lst acc) (backE e1 e2 vs)
  | _ => .bad) else .bad := id rfl
/-! ### the bag -/
def Bag (n : Nat) (o : Ob) : Prop := ∃ a b c, o = bagO a b c ∧ b.natAbs < 2 ^ 31 ∧ c.natAbs ≤ n
theorem Bag.mono {n m : Nat} {o : Ob} (h : Bag n o) (hm : n ≤ m) : Bag m o := by
  obtain ⟨a, b, c, e, hb, hc⟩ := h
  exact ⟨a, b, c, e, hb, by omega⟩
theorem draw {n : Nat} {o : Ob} (B : Bag n o) (hn : n < 2 ^ 40) (w : Nat) (hw : 0 < w) (hw2 : w < 1000) :
    ∃ (o' : Ob) (r : Nat), Cm.m_law_draw [.io o, .v (.int w)] = .ok (.int r) [.io o', .v (.int w)] ∧ Bag (n + 1) o' ∧ r < w := by
  obtain ⟨a, b, c, rfl, hb, hc⟩ := B
  obtain ⟨a', b', r, h1, h2, h3, h4⟩ := draw_ok a b c w (by omega) (by omega) hb (by omega)
  refine ⟨_, r.toNat, ?_, ⟨a', b', c + 1, rfl, h4, by omega⟩, by omega⟩
  rw [h1, Int.toNat_of_nonneg h2]
end Pl

set_option Elab.async false
set_option linter.all false
set_option maxRecDepth 100000
set_option maxHeartbeats 4000000
/-! Pl3: one of several; marks; rows -/
namespace Pl
open PySem Mi
theorem atI_nat {α : Type} {xs : List α} {i : Nat} {x : α} (h : xs[i]? = some x) : L2.atI xs (i : Int) = some x := by
  have hl := (List.getElem?_eq_some_iff.mp h).1
  unfold L2.atI L2.ixN
  rw [if_pos (by omega), if_pos (by omega)]
  simpa using h
/-- one of a list -/
theorem one_lst {n : Nat} {o : Ob} (B : Bag n o) (hn : n < 2 ^ 40) (ds : List D) (h0 : 0 < ds.length) (h1 : ds.length < 1000) :
    ∃ (o' : Ob) (d : D), Cm.m_law_one [.io o, .v (.lst ds)] = .ok d [.io o', .v (.lst ds)] ∧ Bag (n + 1) o' ∧ d ∈ ds := by
  obtain ⟨o', r, h2, h3, h4⟩ := draw B hn ds.length h0 h1
  have hx : ds[r]? = some ds[r] := List.getElem?_eq_getElem h4
  refine ⟨o', ds[r], ?_, h3, List.getElem_mem h4⟩
  simp [↓bind_eq, Cm.m_law_one, Cm.m_law_one_b, mDef, gLen, h2, gIx, atI_nat hx]
theorem one_tup {n : Nat} {o : Ob} (B : Bag n o) (hn : n < 2 ^ 40) (ds : List D) (h0 : 0 < ds.length) (h1 : ds.length < 1000) :
    ∃ (o' : Ob) (d : D), Cm.m_law_one [.io o, .v (.tup ds)] = .ok d [.io o', .v (.tup ds)] ∧ Bag (n + 1) o' ∧ d ∈ ds := by
  obtain ⟨o', r, h2, h3, h4⟩ := draw B hn ds.length h0 h1
  have hx : ds[r]? = some ds[r] := List.getElem?_eq_getElem h4
  refine ⟨o', ds[r], ?_, h3, List.getElem_mem h4⟩
  simp [↓bind_eq, Cm.m_law_one, Cm.m_law_one_b, mDef, gLen, h2, gIx, atI_nat hx]
def rng (k : Nat) : List D := (List.range k).map fun i => .int (i : Nat)
theorem rng_len (k : Nat) : (rng k).length = k := by simp [rng]
theorem rng_get {k i : Nat} {d : D} (h : (rng k)[i]? = some d) : i < k ∧ d = .int (i : Nat) := by
  have hl := (List.getElem?_eq_some_iff.mp h).1
  rw [rng_len] at hl
  refine ⟨hl, ?_⟩
  simp [rng, hl] at h
  exact h.symm
theorem rngD_nat {k : Nat} (h : k ≤ 1000000000) : rngD 0 (k : Int) = some (rng k) := by
  unfold rngD rng
  rw [if_pos (by omega)]
  simp
theorem perm_erase {α : Type} {l : List α} {r : Nat} (hr : r < l.length) : (l[r] :: l.eraseIdx r).Perm l := by
  have h1 : l.eraseIdx r = l.take r ++ l.drop (r + 1) := List.eraseIdx_eq_take_drop_succ l r
  have h2 : l = l.take r ++ l[r] :: l.drop (r + 1) := by
    rw [← List.drop_eq_getElem_cons hr, List.take_append_drop]
  rw [h1]
  conv => rhs; rw [h2]
  exact List.perm_middle.symm
/-- the names that marks are drawn from -/
def pool : List Str := ["a", "b", "c", "ab", "lamp", "marks", "nona", "x", "abcdefgh", "aa", "z", "kind", "y", "ba"]
theorem pool_nd : ([] ++ pool).Nodup := by decide +kernel
def txs (xs : List Str) : List D := xs.map .str
/-- marks: n names, no two alike -/
def Marks (n : Nat) (ms : List Str) : Prop := ms.length = n ∧ ms.Nodup ∧ ∀ m ∈ ms, m ∈ pool
theorem gPopAt_ok {ds : List D} {r : Nat} {d : D} (h : ds[r]? = some d) (hs : ds.length ≤ 1000000) : gPopAt (.lst ds) [.int (r : Int)] = some (d, .lst (ds.eraseIdx r)) := by
  have hr := (List.getElem?_eq_some_iff.mp h).1
  have hsq : seqIndex? (r : Int) ds.length = some r := by
    unfold seqIndex?
    simp [hr]
    omega
  simp only [gPopAt]
  rw [if_pos hs, hsq, Option.bind_some, h]
  rfl
theorem marks_step {n : Nat} {o' : Ob} {k i : Nat} {ms rest : List Str} {d : D} (hn : n + 10 < 2 ^ 40) (hk : k ≤ 10) (hi : i < k) (h3 : Bag (n + i) o') (h4 : ms.length = i) (h5 : rest.length + i = 14) :
    ∃ (o2 : Ob) (r : Nat) (hr : r < rest.length), lcStep [3] (gSet 3) ttYes (lcPush (xMeth 2 gPopAt (xCons (xCall Cm.m_law_draw (qIo 0 (qVal (xBor (pN gLen (psCons (pVar 2) psNil))) qNil))) xNil))) d (txs ms) [.io o', .v (.int k), .ow (.lst (txs rest)), .un] =
      .ok (txs (ms ++ [rest[r]])) [.io o2, .v (.int k), .ow (.lst (txs (rest.eraseIdx r))), .un] ∧ Bag (n + i + 1) o2 := by
  obtain ⟨o2, r, q1, q2, q3⟩ := draw h3 (by omega) (txs rest).length (by simp [txs]; omega) (by simp [txs]; omega)
  have hr : r < rest.length := by simpa [txs] using q3
  have hx : (txs rest)[r]? = some (.str rest[r]) := by simp [txs, hr]
  refine ⟨o2, r, hr, ?_, q2⟩
  have hl : (txs ms).length < 4000 := by simp [txs]; omega
  refine (lcStep_push (e4 := [.io o2, .v (.int k), .ow (.lst (txs (rest.eraseIdx r))), .v d]) (z := .str rest[r]) (e2 := [.io o', .v (.int k), .ow (.lst (txs rest)), .v d]) (e3 := [.io o', .v (.int k), .ow (.lst (txs rest)), .v d]) ?_ ?_ ?_ hl).trans ?_
  · simp
  · simp
  · have hz : (txs rest).eraseIdx r = txs (rest.eraseIdx r) := by simp [txs, List.eraseIdx_eq_take_drop_succ, List.map_append, List.map_take, List.map_drop]
    have hg : gPopAt (.lst (txs rest)) [.int (r : Int)] = some (.str rest[r], .lst (txs (rest.eraseIdx r))) := by rw [gPopAt_ok hx (by simp [txs]; omega), hz]
    simp [↓bind_eq, gLen, q1, hg]
  · simp [txs]
theorem marks_ok {n : Nat} {o : Ob} (B : Bag n o) (hn : n + 10 < 2 ^ 40) (k : Nat) (hk : k ≤ 10) :
    ∃ (o' : Ob) (ms : List Str), Cm.m_law_marks [.io o, .v (.int k)] = .ok (.tup (txs ms)) [.io o', .v (.int k)] ∧ Bag (n + k) o' ∧ Marks k ms := by
  have st : ∀ i d acc e, (rng k)[i]? = some d → (∃ o' ms rest, acc = txs ms ∧ e = [.io o', .v (.int k), .ow (.lst (txs rest)), .un] ∧ Bag (n + i) o' ∧ ms.length = i ∧ rest.length + i = 14 ∧ (ms ++ rest).Nodup ∧ (∀ m ∈ ms, m ∈ pool) ∧ ∀ m ∈ rest, m ∈ pool) →
      ∃ acc' e', lcStep [3] (gSet 3) ttYes (lcPush (xMeth 2 gPopAt (xCons (xCall Cm.m_law_draw (qIo 0 (qVal (xBor (pN gLen (psCons (pVar 2) psNil))) qNil))) xNil))) d acc e = .ok acc' e' ∧
        ∃ o' ms rest, acc' = txs ms ∧ e' = [.io o', .v (.int k), .ow (.lst (txs rest)), .un] ∧ Bag (n + (i + 1)) o' ∧ ms.length = i + 1 ∧ rest.length + (i + 1) = 14 ∧ (ms ++ rest).Nodup ∧ (∀ m ∈ ms, m ∈ pool) ∧ ∀ m ∈ rest, m ∈ pool := by
    rintro i d acc e hd ⟨o', ms, rest, rfl, rfl, h3, h4, h5, h6, h7, h8⟩
    have hi : i < k := (rng_get hd).1
    obtain ⟨o2, r, hr, q1, q2⟩ := marks_step (d := d) hn hk hi h3 h4 h5
    have perm : (ms ++ [rest[r]] ++ rest.eraseIdx r).Perm (ms ++ rest) := by
      rw [List.append_assoc]
      refine List.Perm.append_left ms ?_
      exact perm_erase hr
    refine ⟨_, _, q1, o2, _, _, rfl, rfl, q2, by simp [h4], by rw [List.length_eraseIdx]; split <;> omega, perm.nodup_iff.mpr h6, fun m hm => ?_, fun m hm => h8 m (List.mem_of_mem_eraseIdx hm)⟩
    rcases List.mem_append.mp hm with h | h
    · exact h7 m h
    · rw [List.mem_singleton.mp h]; exact h8 _ (List.getElem_mem hr)
  obtain ⟨acc, e, h1, o', ms, rest, h2, h3, h4, h5, h6, h7, h8, h9⟩ := lcL_inv _ st (acc := []) (e := [.io o, .v (.int k), .ow (.lst (txs pool)), .un]) ⟨o, [], pool, rfl, rfl, B, rfl, rfl, pool_nd, fun m h => (by cases h), fun m h => h⟩
  rw [rng_len] at h4 h5
  refine ⟨o', ms, ?_, h4, h5, (List.nodup_append.mp h7).1, h8⟩
  have hp : (txs pool) = [.str "a", .str "b", .str "c", .str "ab", .str "lamp", .str "marks", .str "nona", .str "x", .str "abcdefgh", .str "aa", .str "z", .str "kind", .str "y", .str "ba"] := rfl
  rw [hp] at h1
  subst h2 h3
  simp [↓bind_eq, Cm.m_law_marks, Cm.m_law_marks_b, mDef, rngD_nat (show k ≤ 1000000000 by omega), h1, gTuple]
end Pl

set_option Elab.async false
set_option linter.all false
set_option maxRecDepth 100000
set_option maxHeartbeats 4000000
/-! Pl4: rows of at most four marks, by evaluation -/
namespace Pl
open PySem Mi
def rowsS : Nat → List Str
  | 0 => [""]
  | n + 1 => (rowsS n).flatMap fun r => [r ++ ("0" : Str), r ++ ("1" : Str)]
def overS (a b : Str) : Bool := (a.cps.toList.zip b.cps.toList).all fun p => decide (p.2 ≤ p.1)
theorem g_law_rows : ∀ n ∈ [0, 1, 2, 3, 4], Cm.m_law_rows [.v (.int (n : Nat))] = .ok (.lst (txs (rowsS n))) [.v (.int (n : Nat))] := by decide +kernel
theorem g_all_rows : ∀ n ∈ [0, 1, 2, 3, 4], Cm.m_all_rows [.v (.int (n : Nat))] = .ok (.lst (txs (rowsS n))) [.v (.int (n : Nat))] := by decide +kernel
theorem g_is_row : ∀ n ∈ [0, 1, 2, 3, 4], ∀ a ∈ rowsS n, Cm.m_is_row [.v (.str a), .v (.int (n : Nat))] = .ok (.bl true) [.v (.str a), .v (.int (n : Nat))] := by decide +kernel
theorem g_over : ∀ n ∈ [0, 1, 2, 3, 4], ∀ a ∈ rowsS n, ∀ b ∈ rowsS n, Cm.m_is_over [.v (.str a), .v (.str b)] = .ok (.bl (overS a b)) [.v (.str a), .v (.str b)] := by decide +kernel
theorem g_law_over_2 : ∀ n ∈ [0, 1, 2, 3, 4], ∀ a ∈ rowsS n, ∀ b ∈ rowsS n, Cm.m_law_over_2 [.v (.str a), .v (.str b)] = .ok (.bl (overS a b)) [.v (.str a), .v (.str b)] := by decide +kernel
theorem g_name : ∀ m ∈ pool, Cm.m_is_name [.v (.str m)] = .ok (.bl true) [.v (.str m)] := by decide +kernel
theorem four {n : Nat} (h : n ≤ 4) : n ∈ [0, 1, 2, 3, 4] := by
  simp only [List.mem_cons, List.mem_nil_iff, or_false]
  omega
section
variable {n : Nat}
theorem r_law_rows (h : n ≤ 4) : Cm.m_law_rows [.v (.int (n : Nat))] = .ok (.lst (txs (rowsS n))) [.v (.int (n : Nat))] := g_law_rows n (four h)
theorem r_all_rows (h : n ≤ 4) : Cm.m_all_rows [.v (.int (n : Nat))] = .ok (.lst (txs (rowsS n))) [.v (.int (n : Nat))] := g_all_rows n (four h)
theorem r_is_row (h : n ≤ 4) {a : Str} (ha : a ∈ rowsS n) : Cm.m_is_row [.v (.str a), .v (.int (n : Nat))] = .ok (.bl true) [.v (.str a), .v (.int (n : Nat))] := g_is_row n (four h) a ha
theorem r_over (h : n ≤ 4) {a b : Str} (ha : a ∈ rowsS n) (hb : b ∈ rowsS n) : Cm.m_is_over [.v (.str a), .v (.str b)] = .ok (.bl (overS a b)) [.v (.str a), .v (.str b)] := g_over n (four h) a ha b hb
theorem r_law_over_2 (h : n ≤ 4) {a b : Str} (ha : a ∈ rowsS n) (hb : b ∈ rowsS n) : Cm.m_law_over_2 [.v (.str a), .v (.str b)] = .ok (.bl (overS a b)) [.v (.str a), .v (.str b)] := g_law_over_2 n (four h) a ha b hb
end
/-! ### the order of rows -/
def ones (a : Str) : Nat := (a.cps.toList.filter fun c => c == 49).length
theorem g_refl : ∀ n ∈ [0, 1, 2, 3, 4], ∀ a ∈ rowsS n, overS a a = true := by decide +kernel
theorem g_anti : ∀ n ∈ [0, 1, 2, 3, 4], ∀ a ∈ rowsS n, ∀ b ∈ rowsS n, overS a b = true → a ≠ b → ones b < ones a := by decide +kernel
theorem g_trans : ∀ n ∈ [0, 1, 2, 3, 4], ∀ a ∈ rowsS n, ∀ b ∈ rowsS n, overS a b = true → ∀ c ∈ rowsS n, overS b c = true → overS a c = true := by decide +kernel
theorem g_nodup : ∀ n ∈ [0, 1, 2, 3, 4], (rowsS n).Nodup := by decide +kernel
theorem g_sorted : ∀ n ∈ [0, 1, 2, 3, 4], (rowsS n).Pairwise fun a b => sLt a b = true := by decide +kernel
theorem g_len : ∀ n ∈ [0, 1, 2, 3, 4], (rowsS n).length ≤ 16 := by decide +kernel
theorem g_ok : ∀ n ∈ [0, 1, 2, 3, 4], ∀ a ∈ rowsS n, (a.cps.toList.all (fun c => decide (c < 16 ^ 8)) && decide (a.cps.size ≤ 4)) = true := by decide +kernel
end Pl

set_option Elab.async false
set_option linter.all false
set_option maxRecDepth 100000
set_option maxHeartbeats 4000000
/-! Pl5: equality of trees; marks are judged right -/
namespace Pl
open PySem Mi
theorem cut_to {ds : List D} {i : Nat} (h : i ≤ ds.length) : cutL ds none (some (i : Int)) = ds.take i := by
  unfold cutL
  rw [HT.sIx_none, HT.sIx_nat, Nat.min_eq_left h]
  simp
theorem cut_from {ds : List D} {i : Nat} (h : i ≤ ds.length) : cutL ds (some (i : Int)) none = ds.drop i := by
  unfold cutL
  rw [HT.sIx_none, HT.sIx_nat, Nat.min_eq_left h, List.take_of_length_le (by simp)]
theorem cut_to2 {ds : List D} {i : Nat} : cutL ds none (some (i : Int)) = ds.take i := by
  unfold cutL
  rw [HT.sIx_none, HT.sIx_nat]
  simp [List.take_eq_take_min]
theorem gSl_to (a : List D) (i : Nat) : gSl none (some ((i : Nat) : Int)) (.tup a) = some (.tup (a.take i)) := by
  simp only [gSl]
  rw [cut_to2]
/-! ### equality -/
def okS (x : Str) : Bool := PyData.canLay0 (.str x)
theorem shaped_i (i : Int) : SeqAt.shaped (.int i) = true := rfl
theorem gEq_ii (i j : Int) : gEq (.int i) (.int j) = some (.bl (i == j)) := by
  simp only [gEq, eqD, D.py, shaped_i, and_self, if_true, Option.map_some]
  rfl
theorem gNe_ii (i j : Int) : gNe (.int i) (.int j) = some (.bl (!(i == j))) := by
  simp only [gNe, eqD, D.py, shaped_i, and_self, if_true, Option.map_some]
  rfl
theorem shaped_s {x : Str} (h : okS x = true) : SeqAt.shaped (.str x) = true := by
  unfold SeqAt.shaped
  rw [show PyData.canLay0 (.str x) = true from h]
  rfl
theorem gEq_ss (x y : Str) : gEq (.str x) (.str y) = some (.bl (decide (x = y))) := rfl
theorem gNe_ss (x y : Str) : gNe (.str x) (.str y) = some (.bl (!decide (x = y))) := rfl
theorem pys_txs : ∀ a : List Str, D.py.pys (txs a) = some (a.map .str)
  | [] => rfl
  | x :: a => by
    show D.py.pys (.str x :: txs a) = _
    rw [D.py.pys, pys_txs a]
    rfl
theorem lay_txs : ∀ {a : List Str}, (∀ x ∈ a, okS x = true) → PyData.canLayAll0 (a.map .str) = true
  | [], _ => rfl
  | x :: a, h => by
    rw [List.map_cons, PyData.canLayAll0, lay_txs fun y hy => h y (List.mem_cons_of_mem _ hy)]
    rw [show PyData.canLay0 (.str x) = true from h x List.mem_cons_self]
    rfl
theorem depth_txs : ∀ a : List Str, PyData.depthAll (a.map .str) = 0
  | [] => rfl
  | x :: a => by
    rw [List.map_cons, PyData.depthAll, depth_txs a]
    rfl
theorem eqv_txs : ∀ a b : List Str, PyData.eqvAll (a.map .str) (b.map .str) = decide (a = b)
  | [], [] => rfl
  | [], _ :: _ => rfl
  | _ :: _, [] => rfl
  | x :: a, y :: b => by
    rw [List.map_cons, List.map_cons, PyData.eqvAll, eqv_txs a b]
    by_cases e : x = y
    · subst e; simp [PyData.eqv]
    · simp [PyData.eqv, e]
theorem shaped_t {a : List Str} (h : ∀ x ∈ a, okS x = true) : SeqAt.shaped (.tuple (a.map .str)) = true := by
  unfold SeqAt.shaped
  rw [show PyData.canLay0 (.tuple (a.map .str)) = true from lay_txs h, PyData.depth, depth_txs]
  rfl
theorem shaped_l {a : List Str} (h : ∀ x ∈ a, okS x = true) : SeqAt.shaped (.list (a.map .str)) = true := by
  unfold SeqAt.shaped
  rw [show PyData.canLay0 (.list (a.map .str)) = true from lay_txs h, PyData.depth, depth_txs]
  rfl
theorem py_tup (a : List Str) : (D.tup (txs a)).py = some (.tuple (a.map .str)) := by rw [D.py, pys_txs]; rfl
theorem py_lst (a : List Str) : (D.lst (txs a)).py = some (.list (a.map .str)) := by rw [D.py, pys_txs]; rfl
theorem eqD_tt {a b : List Str} (ha : ∀ x ∈ a, okS x = true) (hb : ∀ x ∈ b, okS x = true) : eqD (.tup (txs a)) (.tup (txs b)) = some (decide (a = b)) := by
  simp only [eqD, py_tup, shaped_t ha, shaped_t hb, and_self, if_true]
  rw [PyData.eqv, eqv_txs]
theorem gEq_tt {a b : List Str} (ha : ∀ x ∈ a, okS x = true) (hb : ∀ x ∈ b, okS x = true) : gEq (.tup (txs a)) (.tup (txs b)) = some (.bl (decide (a = b))) := by rw [gEq, eqD_tt ha hb]; rfl
theorem gNe_tt {a b : List Str} (ha : ∀ x ∈ a, okS x = true) (hb : ∀ x ∈ b, okS x = true) : gNe (.tup (txs a)) (.tup (txs b)) = some (.bl (!decide (a = b))) := by rw [gNe, eqD_tt ha hb]; rfl
theorem eqD_ll {a b : List Str} (ha : ∀ x ∈ a, okS x = true) (hb : ∀ x ∈ b, okS x = true) : eqD (.lst (txs a)) (.lst (txs b)) = some (decide (a = b)) := by
  simp only [eqD, py_lst, shaped_l ha, shaped_l hb, and_self, if_true]
  rw [PyData.eqv, eqv_txs]
theorem gEq_ll {a b : List Str} (ha : ∀ x ∈ a, okS x = true) (hb : ∀ x ∈ b, okS x = true) : gEq (.lst (txs a)) (.lst (txs b)) = some (.bl (decide (a = b))) := by rw [gEq, eqD_ll ha hb]; rfl
theorem gNe_ll {a b : List Str} (ha : ∀ x ∈ a, okS x = true) (hb : ∀ x ∈ b, okS x = true) : gNe (.lst (txs a)) (.lst (txs b)) = some (.bl (!decide (a = b))) := by rw [gNe, eqD_ll ha hb]; rfl
theorem gEq_tnil {a : List Str} (ha : ∀ x ∈ a, okS x = true) : gEq (.tup (txs a)) (.tup []) = some (.bl (decide (a = []))) := gEq_tt (b := []) ha (by simp)
theorem gEq_lnil {a : List Str} (ha : ∀ x ∈ a, okS x = true) : gEq (.lst (txs a)) (.lst []) = some (.bl (decide (a = []))) := gEq_ll (b := []) ha (by simp)
theorem gNe_lnil {a : List Str} (ha : ∀ x ∈ a, okS x = true) : gNe (.lst (txs a)) (.lst []) = some (.bl (!decide (a = []))) := gNe_ll (b := []) ha (by simp)
theorem g_okS : ∀ n ∈ [0, 1, 2, 3, 4], ∀ a ∈ rowsS n, okS a = true := by decide +kernel
theorem p_okS : ∀ a ∈ pool, okS a = true := by decide +kernel
/-! ### in -/
theorem flat_txs : ∀ a : List Str, (txs a).all isFlat = true
  | [] => rfl
  | x :: a => by
    show (isFlat (.str x) && (txs a).all isFlat) = true
    rw [flat_txs a]; rfl
theorem inF_txs (x : Str) : ∀ a : List Str, inF (.str x) (txs a) = decide (x ∈ a)
  | [] => rfl
  | y :: a => by
    have ih := inF_txs x a
    show (eqF (.str y) (.str x) || inF (.str x) (txs a)) = _
    rw [ih]
    by_cases e : x = y
    · subst e; simp [eqF]
    · simp [eqF, e, Ne.symm e]
theorem gIn_t (x : Str) (a : List Str) : gIn (.str x) (.tup (txs a)) = some (.bl (decide (x ∈ a))) := by
  simp only [gIn, gInB]
  rw [if_pos ⟨rfl, flat_txs a⟩, inF_txs]
  rfl
theorem gNotIn_t (x : Str) (a : List Str) : gNotIn (.str x) (.tup (txs a)) = some (.bl (!decide (x ∈ a))) := by
  simp only [gNotIn, gInB]
  rw [if_pos ⟨rfl, flat_txs a⟩, inF_txs]
  rfl
theorem gIn_l (x : Str) (a : List Str) : gIn (.str x) (.lst (txs a)) = some (.bl (decide (x ∈ a))) := by
  simp only [gIn, gInB]
  rw [if_pos ⟨rfl, flat_txs a⟩, inF_txs]
  rfl
/-! ### marks -/
theorem nm {m : Str} (h : m ∈ pool) : Cm.m_is_name [.v (.str m)] = .ok (.bl true) [.v (.str m)] := g_name m h
theorem take_txs (i : Nat) (a : List Str) : (txs a).take i = txs (a.take i) := by simp [txs, List.map_take]
theorem drop_txs (i : Nat) (a : List Str) : (txs a).drop i = txs (a.drop i) := by simp [txs, List.map_drop]
theorem len_txs (a : List Str) : (txs a).length = a.length := by simp [txs]
theorem enum_get {ds : List D} {i : Nat} {d : D} (h : (enumD ds)[i]? = some d) : ∃ x, ds[i]? = some x ∧ d = .tup [.int (i : Nat), x] := by
  simp only [enumD, List.getElem?_map, List.getElem?_zipIdx, Option.map_map, Option.map_eq_some_iff] at h
  obtain ⟨b, hb, rfl⟩ := h
  exact ⟨b, hb, by simp⟩
theorem enum_len (ds : List D) : (enumD ds).length = ds.length := by simp [enumD]
theorem txs_get {a : List Str} {i : Nat} {d : D} (h : (txs a)[i]? = some d) : ∃ x, a[i]? = some x ∧ d = .str x := by
  simp only [txs, List.getElem?_map, Option.map_eq_some_iff] at h
  obtain ⟨x, hx, rfl⟩ := h
  exact ⟨x, hx, rfl⟩
theorem nodup_take {α : Type} {a : List α} (h : a.Nodup) {i : Nat} {x : α} (hx : a[i]? = some x) : x ∉ a.take i := by
  intro hm
  obtain ⟨j, hj, e⟩ := List.mem_iff_getElem.mp hm
  obtain ⟨hi, e2⟩ := List.getElem?_eq_some_iff.mp hx
  rw [List.getElem_take] at e
  simp only [List.length_take] at hj
  have := (List.getElem_inj h).mp (e.trans e2.symm)
  omega
theorem wrong_mark_ok {k : Nat} {ms : List Str} (M : Marks k ms) (hk : k ≤ 4) : Cm.m_wrong_mark [.v (.tup (txs ms))] = .ok .non [.v (.tup (txs ms))] := by
  obtain ⟨hl, nd, mem⟩ := M
  have key := forL_inv (mg := gUnp 2 (gsCons (gSet 1) (gsCons (gSet 2) gsNil))) (mb := (mIf (ttOr (tB1 (x2 gEq (xVar 1) (xC (.int 4)))) (ttOr (ttNot (ttTru (xCall Cm.m_is_name (qVal (xVar 2) qNil)))) (tB1 (x2 gIn (xVar 2) (xSl (xVar 0) oNone (oSome (xVar 1))))))) (mRet (xVar 1)) mNx)) (ds := enumD (txs ms))
    (fun _ e => ∃ s1 s2, e = [.v (.tup (txs ms)), s1, s2] ∧ (s1 = .un ∨ ∃ d, s1 = .v d) ∧ (s2 = .un ∨ ∃ d, s2 = .v d)) (fun r => ∃ s1 s2, r = .ok .nx [.v (.tup (txs ms)), s1, s2])
    (fun i d e hd ⟨s1, s2, he, h1, h2⟩ => by
      subst he
      obtain ⟨x, hx, rfl⟩ := enum_get hd
      obtain ⟨m, hm, rfl⟩ := txs_get hx
      have hi : i < ms.length := (List.getElem?_eq_some_iff.mp hm).1
      have hmp := mem m (List.mem_of_getElem? hm)
      refine ⟨[.v (.tup (txs ms)), .v (.int (i : Nat)), .v (.str m)], ?_, ?_⟩
      · rcases h1 with rfl | ⟨d1, rfl⟩ <;> rcases h2 with rfl | ⟨d2, rfl⟩ <;> simp
      · have c1 : gEq (.int (i : Nat)) (.int 4) = some (.bl false) := by
          rw [gEq_ii]
          simp
          omega
        have c2 : gSl none (some ((i : Nat) : Int)) (.tup (txs ms)) = some (.tup (txs (ms.take i))) := by
          simp only [gSl]
          rw [cut_to (by rw [len_txs]; omega), take_txs]
        have c3 : gIn (.str m) (.tup (txs (ms.take i))) = some (.bl false) := by
          rw [gIn_t]
          simp [nodup_take nd hm]
        simp [↓bind_eq, c1, nm hmp, c2, c3, D.truth, isInt]
        exact ⟨_, _, ⟨rfl, rfl⟩, .inr ⟨_, rfl⟩, .inr ⟨_, rfl⟩⟩)
    (fun e ⟨s1, s2, he, _, _⟩ => ⟨s1, s2, by rw [he]⟩) (e := [.v (.tup (txs ms)), .un, .un]) ⟨.un, .un, rfl, .inl rfl, .inl rfl⟩
  obtain ⟨s1, s2, hr⟩ := key
  simp [↓bind_eq, Cm.m_wrong_mark, Cm.m_wrong_mark_b, mDef, iterD, hr]
theorem check_marks_ok {k : Nat} {ms : List Str} (M : Marks k ms) (hk : k ≤ 4) (h0 : 0 < k) : Cm.m_check_marks [.v (.tup (txs ms))] = .ok .non [.v (.tup (txs ms))] := by
  have c1 : gEq (.tup (txs ms)) (.tup []) = some (.bl false) := by
    rw [gEq_tnil fun x hx => p_okS x (M.2.2 x hx)]
    have : ms ≠ [] := fun e => by have := M.1; rw [e] at this; simp at this; omega
    simp [this]
  simp [↓bind_eq, Cm.m_check_marks, Cm.m_check_marks_b, mDef, isTupD, D.truth, c1, wrong_mark_ok M hk, gNotN, isNon]
end Pl

set_option Elab.async false
set_option linter.all false
set_option maxRecDepth 100000
set_option maxHeartbeats 4000000
/-! Pl6: lots of rows: what the program says of them -/
namespace Pl
open PySem Mi
/-- a comprehension over texts that changes nothing -/
theorem lcT {v : Nat} {e : En} {mt : En → Rs Bool} {me : En → Rs D} (hv : e[v]? = some .un) (a : List Str) (t : Str → Bool) (g : Str → D) (ht : ∀ x ∈ a, mt (e.set v (.v (.str x))) = .ok (t x) (e.set v (.v (.str x))))
    (hg : ∀ x ∈ a, t x = true → me (e.set v (.v (.str x))) = .ok (g x) (e.set v (.v (.str x)))) (hl : a.length ≤ 4000) : lcL [v] (gSet v) mt (lcPush me) (txs a) [] e = .ok ((a.filter t).map g) e := by
  have hlt : v < e.length := (List.getElem?_eq_some_iff.mp hv).1
  have back : ∀ x, wipeE (e.set v (.v (.str x))) [v] = e := fun x => by
    show ((e.set v (.v (.str x))).set v .un) = e
    rw [List.set_set]
    have hh := (List.getElem?_eq_some_iff.mp hv).2
    rw [← hh]
    exact List.set_getElem_self hlt
  have set1 : ∀ x, gSet v (.str x) e = some (e.set v (.v (.str x))) := fun x => by simp [hv]
  have key := lcL_pure (vs := [v]) (mg := gSet v) (mt := mt) (me := lcPush me) (fun d => match d with | .str x => if t x = true then [g x] else [] | _ => []) (e := e) (ds := txs a) (acc := []) (fun d hd acc hacc => by
    obtain ⟨x, hx, rfl⟩ := List.mem_map.mp hd
    by_cases h : t x = true
    · have h1 := ht x hx
      rw [h] at h1
      rw [lcStep_push (set1 x) h1 (hg x hx h) hacc, back]
      simp [h]
    · have h1 := ht x hx
      have h : t x = false := by simpa using h
      rw [h] at h1
      rw [lcStep_skip (set1 x) h1, back]
      simp [h]) (fun d hd => by
    obtain ⟨x, hx, rfl⟩ := List.mem_map.mp hd
    show (if t x = true then [g x] else []).length ≤ 1
    split <;> simp) (by simp [len_txs]; exact hl)
  rw [key]
  congr 1
  rw [List.nil_append]
  clear key ht hg hl
  induction a with
  | nil => rfl
  | cons x a ih =>
    rw [txs, List.map_cons, List.flatMap_cons, List.filter_cons]
    rw [show (a.map D.str).flatMap _ = _ from ih]
    by_cases h : t x = true
    · simp [h]
    · simp [h]
theorem filter_true {α : Type} (a : List α) : a.filter (fun _ => true) = a := List.filter_eq_self.mpr fun _ _ => rfl
theorem blsD_map (b : List Bool) : blsD (b.map .bl) = some b := by
  induction b with
  | nil => rfl
  | cons x b ih => simp [blsD, ih]
theorem gAny_map {α : Type} (f : α → Bool) (a : List α) : gAny [.lst (a.map fun x => .bl (f x))] = some (.bl (a.any f)) := by
  have : (a.map fun x => D.bl (f x)) = (a.map f).map .bl := by simp
  simp only [gAny]
  rw [this, blsD_map]
  simp
theorem gAll_map {α : Type} (f : α → Bool) (a : List α) : gAll [.lst (a.map fun x => .bl (f x))] = some (.bl (a.all f)) := by
  have : (a.map fun x => D.bl (f x)) = (a.map f).map .bl := by simp
  simp only [gAll]
  rw [this, blsD_map]
  simp
def InR (n : Nat) (a : List Str) : Prop := ∀ x ∈ a, x ∈ rowsS n
theorem InR.ok {n : Nat} {a : List Str} (h : InR n a) (hn : n ≤ 4) : ∀ x ∈ a, okS x = true := fun x hx => g_okS n (four hn) x (h x hx)
theorem rows_len {n : Nat} (hn : n ≤ 4) : (rowsS n).length ≤ 16 := g_len n (four hn)
/-! ### the upward closure -/
def risenS (n : Nat) (rows : List Str) : List Str := (rowsS n).filter fun o => rows.any fun r => overS o r
theorem risen_in (n : Nat) (rows : List Str) : InR n (risenS n rows) := fun x hx => (List.mem_filter.mp hx).1
theorem filter_map_str (a : List Str) (t : Str → Bool) : (a.filter t).map (fun x => D.str x) = txs (a.filter t) := rfl
theorem any_ne_nil {α : Type} (a : List α) (f : α → Bool) : (!decide (a.filter f = [])) = a.any f := by
  induction a with
  | nil => rfl
  | cons x a ih =>
    rw [List.filter_cons, List.any_cons]
    by_cases h : f x = true
    · simp [h]
    · have h : f x = false := by simpa using h
      simp only [h, Bool.false_or, ← ih]
      simp
theorem risen_ok {n : Nat} (hn : n ≤ 4) {rows : List Str} (h : InR n rows) (hl : rows.length ≤ 4000) : Cm.m_risen [.v (.tup (txs rows)), .v (.int (n : Nat))] = .ok (.tup (txs (risenS n rows))) [.v (.tup (txs rows)), .v (.int (n : Nat))] := by
  have in1 : ∀ o ∈ rowsS n, lcL [3] (gSet 3) ttYes (lcPush (xCall Cm.m_is_over (qVal (xVar 2) (qVal (xVar 3) qNil)))) (txs rows) [] [.v (.tup (txs rows)), .v (.int (n : Nat)), .v (.str o), .un] = .ok (rows.map fun r => .bl (overS o r)) [.v (.tup (txs rows)), .v (.int (n : Nat)), .v (.str o), .un] := fun o ho => by
    have := lcT (v := 3) (e := [.v (.tup (txs rows)), .v (.int (n : Nat)), .v (.str o), .un]) (mt := ttYes) (me := xCall Cm.m_is_over (qVal (xVar 2) (qVal (xVar 3) qNil))) rfl rows (fun _ => true) (fun r => .bl (overS o r)) (fun x hx => rfl) (fun x hx _ => by
      simp [↓bind_eq, r_over hn ho (h x hx)]) hl
    rw [filter_true] at this
    exact this
  have out := lcT (v := 2) (e := [.v (.tup (txs rows)), .v (.int (n : Nat)), .un, .un]) (mt := ttTru (xN gAny (xCons (xVal (mLc [3] (xIter (xVar 0)) (gSet 3) ttYes (lcPush (xCall Cm.m_is_over (qVal (xVar 2) (qVal (xVar 3) qNil)))))) xNil))) (me := xVar 2) rfl (rowsS n) (fun o => rows.any fun r => overS o r) (fun x => .str x)
    (fun o ho => by simp [↓bind_eq, iterD, in1 o ho, gAny_map, D.truth]) (fun x hx _ => by simp) (by have := rows_len hn; omega)
  simp [↓bind_eq, Cm.m_risen, Cm.m_risen_b, mDef, r_all_rows hn, iterD, out, gTuple, filter_map_str, risenS]
theorem law_risen_ok {n : Nat} (hn : n ≤ 4) {rows : List Str} (h : InR n rows) (hl : rows.length ≤ 4000) : Cm.m_law_risen [.v (.int (n : Nat)), .v (.tup (txs rows))] = .ok (.tup (txs (risenS n rows))) [.v (.int (n : Nat)), .v (.tup (txs rows))] := by
  have in1 : ∀ o ∈ rowsS n, lcL [3] (gSet 3) (ttTru (xCall Cm.m_law_over_2 (qVal (xVar 2) (qVal (xVar 3) qNil)))) (lcPush (xVar 3)) (txs rows) [] [.v (.int (n : Nat)), .v (.tup (txs rows)), .v (.str o), .un] = .ok (txs (rows.filter fun r => overS o r)) [.v (.int (n : Nat)), .v (.tup (txs rows)), .v (.str o), .un] := fun o ho =>
    lcT (v := 3) (e := [.v (.int (n : Nat)), .v (.tup (txs rows)), .v (.str o), .un]) rfl rows (fun r => overS o r) (fun x => .str x) (fun x hx => by
      simp [↓bind_eq, r_law_over_2 hn ho (h x hx), D.truth]) (fun x hx _ => by simp) hl
  have out := lcT (v := 2) (e := [.v (.int (n : Nat)), .v (.tup (txs rows)), .un, .un]) (mt := tB1 (x2 gNe (xVal (mLc [3] (xIter (xVar 1)) (gSet 3) (ttTru (xCall Cm.m_law_over_2 (qVal (xVar 2) (qVal (xVar 3) qNil)))) (lcPush (xVar 3)))) (xLst xNil))) (me := xVar 2) rfl (rowsS n) (fun o => rows.any fun r => overS o r) (fun x => .str x)
    (fun o ho => by
      have c1 := gNe_lnil (a := rows.filter fun r => overS o r) (fun x hx => h.ok hn x (List.mem_filter.mp hx).1)
      rw [any_ne_nil] at c1
      simp [↓bind_eq, iterD, in1 o ho, c1]) (fun x hx _ => by simp) (by have := rows_len hn; omega)
  simp [↓bind_eq, Cm.m_law_risen, Cm.m_law_risen_b, mDef, r_law_rows hn, iterD, out, gTuple, filter_map_str, risenS]
/-! ### rows are judged -/
theorem check_rows_ok {n : Nat} (hn : n ≤ 4) {rows : List Str} (h : InR n rows) : Cm.m_check_rows [.v (.tup (txs rows)), .v (.int (n : Nat))] = .ok .non [.v (.tup (txs rows)), .v (.int (n : Nat))] := by
  have key := forL_inv (mg := gUnp 2 (gsCons (gSet 2) (gsCons (gSet 3) gsNil))) (mb := (mIf (ttNot (ttTru (xCall Cm.m_is_row (qVal (xVar 3) (qVal (xVar 1) qNil))))) mBad mNx)) (ds := enumD (txs rows))
    (fun _ e => ∃ s1 s2, e = [.v (.tup (txs rows)), .v (.int (n : Nat)), s1, s2] ∧ (s1 = .un ∨ ∃ d, s1 = .v d) ∧ (s2 = .un ∨ ∃ d, s2 = .v d)) (fun r => ∃ s1 s2, r = .ok .nx [.v (.tup (txs rows)), .v (.int (n : Nat)), s1, s2])
    (fun i d e hd ⟨s1, s2, he, h1, h2⟩ => by
      subst he
      obtain ⟨x, hx, rfl⟩ := enum_get hd
      obtain ⟨m, hm, rfl⟩ := txs_get hx
      refine ⟨[.v (.tup (txs rows)), .v (.int (n : Nat)), .v (.int (i : Nat)), .v (.str m)], ?_, ?_⟩
      · rcases h1 with rfl | ⟨d1, rfl⟩ <;> rcases h2 with rfl | ⟨d2, rfl⟩ <;> simp
      · simp [↓bind_eq, r_is_row hn (h m (List.mem_of_getElem? hm)), D.truth]
        exact ⟨_, _, ⟨rfl, rfl⟩, .inr ⟨_, rfl⟩, .inr ⟨_, rfl⟩⟩)
    (fun e ⟨s1, s2, he, _, _⟩ => ⟨s1, s2, by rw [he]⟩) (e := [.v (.tup (txs rows)), .v (.int (n : Nat)), .un, .un]) ⟨.un, .un, rfl, .inl rfl, .inl rfl⟩
  obtain ⟨s1, s2, hr⟩ := key
  simp [↓bind_eq, Cm.m_check_rows, Cm.m_check_rows_b, mDef, isTupD, D.truth, iterD, hr]
theorem rising_ok {n : Nat} {ms : List Str} (M : Marks n ms) (hn : n ≤ 4) (h0 : 0 < n) {rows : List Str} (h : InR n rows) (hl : rows.length ≤ 4000) :
    Cm.m_rising [.v (.tup (txs ms)), .v (.tup (txs rows))] = .ok (.tup (txs (risenS n rows))) [.v (.tup (txs ms)), .v (.tup (txs rows))] := by
  have l : (txs ms).length = n := by rw [len_txs, M.1]
  simp [↓bind_eq, Cm.m_rising, Cm.m_rising_b, mDef, check_marks_ok M hn h0, gLen, l, check_rows_ok hn h, risen_ok hn h hl]
/-! ### lots -/
/-- a lot: rows in their order -/
def Lot (n : Nat) (a : List Str) : Prop := a.Sublist (rowsS n)
theorem Lot.inR {n : Nat} {a : List Str} (h : Lot n a) : InR n a := fun x hx => h.subset hx
theorem Lot.len {n : Nat} {a : List Str} (h : Lot n a) (hn : n ≤ 4) : a.length ≤ 16 := Nat.le_trans h.length_le (rows_len hn)
theorem Lot.up {n : Nat} {a : List Str} (h : Lot n a) (hn : n ≤ 4) : a.Pairwise fun x y => sLt x y = true := (g_sorted n (four hn)).sublist h
theorem gLe_ss (x y : Str) : gLe (.str x) (.str y) = some (.bl (!sLt y x)) := rfl
theorem gGt_ii (i j : Int) : gGt (.int i) (.int j) = some (.bl (decide (j < i))) := rfl
theorem wrong_in_lot_ok {n : Nat} (hn : n ≤ 4) {a : List Str} (h : Lot n a) : Cm.m_wrong_in_lot [.v (.tup (txs a)), .v (.int (n : Nat))] = .ok .non [.v (.tup (txs a)), .v (.int (n : Nat))] := by
  have key := forL_inv (mg := gUnp 2 (gsCons (gSet 2) (gsCons (gSet 3) gsNil))) (mb := (mIf (ttOr (ttNot (ttTru (xCall Cm.m_is_row (qVal (xVar 3) (qVal (xVar 1) qNil))))) (ttAnd (tB1 (x2 gGt (xVar 2) (xC (.int 0)))) (tB1 (x2 gLe (xVar 3) (x2 gIx (xVar 0) (x2 Mi.gSub (xVar 2) (xC (.int 1)))))))) (mRet (xVar 2)) mNx)) (ds := enumD (txs a))
    (fun _ e => ∃ s1 s2, e = [.v (.tup (txs a)), .v (.int (n : Nat)), s1, s2] ∧ (s1 = .un ∨ ∃ d, s1 = .v d) ∧ (s2 = .un ∨ ∃ d, s2 = .v d)) (fun r => ∃ s1 s2, r = .ok .nx [.v (.tup (txs a)), .v (.int (n : Nat)), s1, s2])
    (fun i d e hd ⟨s1, s2, he, h1, h2⟩ => by
      subst he
      obtain ⟨x, hx, rfl⟩ := enum_get hd
      obtain ⟨m, hm, rfl⟩ := txs_get hx
      obtain ⟨hi, em⟩ := List.getElem?_eq_some_iff.mp hm
      refine ⟨[.v (.tup (txs a)), .v (.int (n : Nat)), .v (.int (i : Nat)), .v (.str m)], ?_, ?_⟩
      · rcases h1 with rfl | ⟨d1, rfl⟩ <;> rcases h2 with rfl | ⟨d2, rfl⟩ <;> simp
      · by_cases h0 : i = 0
        · subst h0
          simp [↓bind_eq, r_is_row hn (h.inR m (List.mem_of_getElem? hm)), D.truth, gGt_ii]
          exact ⟨_, _, ⟨rfl, rfl⟩, .inr ⟨_, rfl⟩, .inr ⟨_, rfl⟩⟩
        · have hi1 : i - 1 < a.length := by omega
          have c1 : gGt (.int (i : Nat)) (.int 0) = some (.bl true) := by
            rw [gGt_ii]
            simp
            omega
          have c2 : gIx (.tup (txs a)) (.int ((i : Nat) - 1 : Int)) = some (.str a[i - 1]) := by
            have e1 : ((i : Nat) - 1 : Int) = ((i - 1 : Nat) : Int) := by omega
            rw [e1]
            simp only [gIx]
            refine atI_nat ?_
            simp [txs, hi1]
          have c3 : gLe (.str m) (.str a[i - 1]) = some (.bl false) := by
            rw [gLe_ss]
            have : sLt a[i - 1] a[i] = true := List.pairwise_iff_getElem.mp (h.up hn) (i - 1) i hi1 hi (by omega)
            rw [← em, this]
            rfl
          simp [↓bind_eq, r_is_row hn (h.inR m (List.mem_of_getElem? hm)), D.truth, c1, c2, c3]
          exact ⟨_, _, ⟨rfl, rfl⟩, .inr ⟨_, rfl⟩, .inr ⟨_, rfl⟩⟩)
    (fun e ⟨s1, s2, he, _, _⟩ => ⟨s1, s2, by rw [he]⟩) (e := [.v (.tup (txs a)), .v (.int (n : Nat)), .un, .un]) ⟨.un, .un, rfl, .inl rfl, .inl rfl⟩
  obtain ⟨s1, s2, hr⟩ := key
  simp [↓bind_eq, Cm.m_wrong_in_lot, Cm.m_wrong_in_lot_b, mDef, iterD, hr]
theorem check_lot_ok {n : Nat} (hn : n ≤ 4) {a : List Str} (h : Lot n a) : Cm.m_check_lot [.v (.tup (txs a)), .v (.int (n : Nat))] = .ok .non [.v (.tup (txs a)), .v (.int (n : Nat))] := by
  simp [↓bind_eq, Cm.m_check_lot, Cm.m_check_lot_b, mDef, isTupD, D.truth, wrong_in_lot_ok hn h, gNotN, isNon]
/-- no row lacks what stands above it -/
def lackB (n : Nat) (a : List Str) (r : Str) : Bool := (rowsS n).any fun o => overS o r && !decide (o ∈ a)
theorem lack_step {n : Nat} (hn : n ≤ 4) {a : List Str} (h : InR n a) {s3 : Sl} (hs : s3 = .un) {r : Str} (hr : r ∈ rowsS n) :
    ttTru (xN gAny (xCons (xVal (mLc [3] (xIter (xCall Cm.m_all_rows (qVal (xVar 1) qNil))) (gSet 3) ttYes (lcPush (xAnd (xCall Cm.m_is_over (qVal (xVar 3) (qVal (xVar 2) qNil))) (x2 gNotIn (xVar 3) (xVar 0)))))) xNil)) [.v (.tup (txs a)), .v (.int (n : Nat)), .v (.str r), s3] =
      .ok (lackB n a r) [.v (.tup (txs a)), .v (.int (n : Nat)), .v (.str r), s3] := by
  subst hs
  have in1 := lcT (v := 3) (e := [.v (.tup (txs a)), .v (.int (n : Nat)), .v (.str r), .un]) (mt := ttYes) (me := xAnd (xCall Cm.m_is_over (qVal (xVar 3) (qVal (xVar 2) qNil))) (x2 gNotIn (xVar 3) (xVar 0))) rfl (rowsS n) (fun _ => true) (fun o => .bl (overS o r && !decide (o ∈ a))) (fun x hx => rfl) (fun x hx _ => by
    cases ho : overS x r with
    | true => simp [↓bind_eq, r_over hn hx hr, ho, gNotIn_t]
    | false => simp [↓bind_eq, r_over hn hx hr, ho]) (by have := rows_len hn; omega)
  rw [filter_true] at in1
  simp [↓bind_eq, r_all_rows hn, iterD, in1, gAny_map, D.truth, lackB]
theorem lacking_row_ok {n : Nat} (hn : n ≤ 4) {a : List Str} (h : Lot n a) : ∃ d, Cm.m_lacking_row [.v (.tup (txs a)), .v (.int (n : Nat))] = .ok d [.v (.tup (txs a)), .v (.int (n : Nat))] ∧ isNon d = a.all (fun r => !lackB n a r) := by
  have key := forL_inv (mg := gSet 2) (mb := mIf (ttTru (xN gAny (xCons (xVal (mLc [3] (xIter (xCall Cm.m_all_rows (qVal (xVar 1) qNil))) (gSet 3) ttYes (lcPush (xAnd (xCall Cm.m_is_over (qVal (xVar 3) (qVal (xVar 2) qNil))) (x2 gNotIn (xVar 3) (xVar 0)))))) xNil))) (mRet (xVar 2)) mNx) (ds := txs a)
    (fun i e => ∃ s2, e = [.v (.tup (txs a)), .v (.int (n : Nat)), s2, .un] ∧ (s2 = .un ∨ ∃ d, s2 = .v d) ∧ ∀ x ∈ a.take i, lackB n a x = false)
    (fun r => (∃ s2 x, r = .ok (.rt (.str x)) [.v (.tup (txs a)), .v (.int (n : Nat)), s2, .un] ∧ x ∈ a ∧ lackB n a x = true) ∨ ∃ s2, r = .ok .nx [.v (.tup (txs a)), .v (.int (n : Nat)), s2, .un] ∧ ∀ x ∈ a, lackB n a x = false)
    (fun i d e hd ⟨s2, he, h2, h3⟩ => by
      subst he
      obtain ⟨m, hm, rfl⟩ := txs_get hd
      obtain ⟨hi, em⟩ := List.getElem?_eq_some_iff.mp hm
      have hmem := List.mem_of_getElem? hm
      refine ⟨[.v (.tup (txs a)), .v (.int (n : Nat)), .v (.str m), .un], ?_, ?_⟩
      · rcases h2 with rfl | ⟨d1, rfl⟩ <;> simp
      · rw [ev_mIf, lack_step hn h.inR rfl (h.inR m hmem)]
        cases hb : lackB n a m with
        | true =>
          simp [↓bind_eq]
          exact ⟨_, m, ⟨rfl, rfl⟩, hmem, hb⟩
        | false =>
          simp [↓bind_eq]
          intro x hx
          rw [List.take_add_one, hm] at hx
          rcases List.mem_append.mp hx with q | q
          · exact h3 x q
          · simp at q; rw [q]; exact hb)
    (fun e ⟨s2, he, _, h3⟩ => .inr ⟨s2, by rw [he], by rw [len_txs, List.take_length] at h3; exact h3⟩) (e := [.v (.tup (txs a)), .v (.int (n : Nat)), .un, .un]) ⟨.un, rfl, .inl rfl, by simp⟩
  rcases key with ⟨s2, x, hr, hx, hl⟩ | ⟨s2, hr, hl⟩
  · refine ⟨.str x, ?_, ?_⟩
    · simp [↓bind_eq, Cm.m_lacking_row, Cm.m_lacking_row_b, mDef, iterD, hr]
    · show false = _
      symm
      rw [Bool.eq_false_iff]
      intro q
      have := List.all_eq_true.mp q x hx
      rw [hl] at this
      cases this
  · refine ⟨.non, ?_, ?_⟩
    · simp [↓bind_eq, Cm.m_lacking_row, Cm.m_lacking_row_b, mDef, iterD, hr]
    · show true = _
      symm
      rw [List.all_eq_true]
      intro x hx
      rw [hl x hx]
      rfl
theorem is_rising_ok0 {n : Nat} {ms : List Str} (M : Marks n ms) (hn : n ≤ 4) (h0 : 0 < n) {a : List Str} (h : Lot n a) :
    Cm.m_is_rising [.v (.tup (txs ms)), .v (.tup (txs a))] = .ok (.bl (a.all fun r => !lackB n a r)) [.v (.tup (txs ms)), .v (.tup (txs a))] := by
  have l : (txs ms).length = n := by rw [len_txs, M.1]
  obtain ⟨d, h1, h2⟩ := lacking_row_ok hn h
  simp [↓bind_eq, Cm.m_is_rising, Cm.m_is_rising_b, mDef, check_marks_ok M hn h0, gLen, l, check_lot_ok hn h, h1, gIsN, h2]
/-! ### plain -/
theorem sub_filter {α : Type} [DecidableEq α] {a b : List α} (s : a.Sublist b) : b.Nodup → a = b.filter fun x => decide (x ∈ a) := by
  induction s with
  | slnil => intro _; rfl
  | @cons a b x s ih =>
    intro nd
    have nd2 := List.nodup_cons.mp nd
    have : x ∉ a := fun q => nd2.1 (s.subset q)
    rw [List.filter_cons, if_neg (by simpa using this)]
    exact ih nd2.2
  | @cons_cons a b x s ih =>
    intro nd
    have nd2 := List.nodup_cons.mp nd
    rw [List.filter_cons, if_pos (by simp)]
    congr 1
    conv => lhs; rw [ih nd2.2]
    apply List.filter_congr
    intro y hy
    have : y ≠ x := fun e => nd2.1 (e ▸ hy)
    simp [this]
theorem lot_filter {n : Nat} (hn : n ≤ 4) {a : List Str} (h : Lot n a) : a = (rowsS n).filter fun x => decide (x ∈ a) := sub_filter h (g_nodup n (four hn))
theorem mem_risen {n : Nat} {rows : List Str} {o : Str} : o ∈ risenS n rows ↔ o ∈ rowsS n ∧ ∃ r ∈ rows, overS o r = true := by
  unfold risenS
  rw [List.mem_filter, List.any_eq_true]
theorem risen_lot (n : Nat) (rows : List Str) : Lot n (risenS n rows) := List.filter_sublist
theorem up_iff {n : Nat} (hn : n ≤ 4) {a : List Str} (h : Lot n a) : (a.all fun r => !lackB n a r) = decide (a = risenS n a) := by
  have refl := g_refl n (four hn)
  rw [Bool.eq_iff_iff, List.all_eq_true, decide_eq_true_eq]
  constructor
  · intro q
    rw [lot_filter hn h]
    conv => rhs; unfold risenS
    apply List.filter_congr
    intro o ho
    rw [← lot_filter hn h, Bool.eq_iff_iff, decide_eq_true_eq, List.any_eq_true]
    constructor
    · exact fun m => ⟨o, m, refl o ho⟩
    · rintro ⟨r, hr, ov⟩
      have := q r hr
      unfold lackB at this
      by_cases m : o ∈ a
      · exact m
      · exfalso
        have z : ((rowsS n).any fun o => overS o r && !decide (o ∈ a)) = true := List.any_eq_true.mpr ⟨o, ho, by simp [ov, m]⟩
        rw [z] at this
        cases this
  · intro e r hr
    unfold lackB
    rw [Bool.not_eq_true', Bool.eq_false_iff]
    intro z
    obtain ⟨o, ho, q⟩ := List.any_eq_true.mp z
    simp only [Bool.and_eq_true, Bool.not_eq_true', decide_eq_false_iff_not] at q
    refine q.2 ?_
    rw [e]
    exact mem_risen.mpr ⟨ho, r, hr, q.1⟩
theorem is_rising_ok {n : Nat} {ms : List Str} (M : Marks n ms) (hn : n ≤ 4) (h0 : 0 < n) {a : List Str} (h : Lot n a) :
    Cm.m_is_rising [.v (.tup (txs ms)), .v (.tup (txs a))] = .ok (.bl (decide (a = risenS n a))) [.v (.tup (txs ms)), .v (.tup (txs a))] := by
  rw [is_rising_ok0 M hn h0 h, up_iff hn h]
end Pl

set_option Elab.async false
set_option linter.all false
set_option maxRecDepth 100000
set_option maxHeartbeats 4000000
/-! Pl7: least rows, drawn lots, repr -/
namespace Pl
open PySem Mi
theorem risen_self {n : Nat} (hn : n ≤ 4) {a : List Str} (h : Lot n a) (e : a = risenS n a) : (a.all fun r => !lackB n a r) = true := by
  rw [up_iff hn h]
  simpa using e
theorem check_rising_ok {n : Nat} (hn : n ≤ 4) {a : List Str} (h : Lot n a) (e : a = risenS n a) : Cm.m_check_rising [.v (.tup (txs a)), .v (.int (n : Nat))] = .ok .non [.v (.tup (txs a)), .v (.int (n : Nat))] := by
  obtain ⟨d, h1, h2⟩ := lacking_row_ok hn h
  rw [risen_self hn h e] at h2
  have hd : d = .non := by cases d <;> first | rfl | cases h2
  subst hd
  simp [↓bind_eq, Cm.m_check_rising, Cm.m_check_rising_b, mDef, check_lot_ok hn h, h1, gNotN, isNon]
/-- the least rows -/
def leastS (a : List Str) : List Str := a.filter fun r => !(a.any fun o => !decide (o = r) && overS r o)
theorem least_of_ok {n : Nat} (hn : n ≤ 4) {a : List Str} (h : InR n a) (hl : a.length ≤ 4000) : Cm.m_least_of [.v (.tup (txs a))] = .ok (.tup (txs (leastS a))) [.v (.tup (txs a))] := by
  have in1 : ∀ r ∈ a, lcL [2] (gSet 2) ttYes (lcPush (xAnd (x2 gNe (xVar 2) (xVar 1)) (xCall Cm.m_is_over (qVal (xVar 1) (qVal (xVar 2) qNil))))) (txs a) [] [.v (.tup (txs a)), .v (.str r), .un] = .ok (a.map fun o => .bl (!decide (o = r) && overS r o)) [.v (.tup (txs a)), .v (.str r), .un] := fun r hr => by
    have := lcT (v := 2) (e := [.v (.tup (txs a)), .v (.str r), .un]) (mt := ttYes) (me := xAnd (x2 gNe (xVar 2) (xVar 1)) (xCall Cm.m_is_over (qVal (xVar 1) (qVal (xVar 2) qNil)))) rfl a (fun _ => true) (fun o => .bl (!decide (o = r) && overS r o)) (fun x hx => rfl) (fun x hx _ => by
      by_cases e : x = r
      · simp [↓bind_eq, gNe_ss, e]
      · simp [↓bind_eq, gNe_ss, e, r_over hn (h r hr) (h x hx)]) hl
    rw [filter_true] at this
    exact this
  have out := lcT (v := 1) (e := [.v (.tup (txs a)), .un, .un]) (mt := ttNot (ttTru (xN gAny (xCons (xVal (mLc [2] (xIter (xVar 0)) (gSet 2) ttYes (lcPush (xAnd (x2 gNe (xVar 2) (xVar 1)) (xCall Cm.m_is_over (qVal (xVar 1) (qVal (xVar 2) qNil))))))) xNil)))) (me := xVar 1) rfl a (fun r => !(a.any fun o => !decide (o = r) && overS r o)) (fun x => .str x)
    (fun r hr => by simp [↓bind_eq, iterD, in1 r hr, gAny_map, D.truth]) (fun x hx _ => by simp) hl
  simp [↓bind_eq, Cm.m_least_of, Cm.m_least_of_b, mDef, iterD, out, gTuple, filter_map_str, leastS]
theorem least_rows_ok {n : Nat} {ms : List Str} (M : Marks n ms) (hn : n ≤ 4) (h0 : 0 < n) {a : List Str} (h : Lot n a) (e : a = risenS n a) :
    Cm.m_least_rows [.v (.tup (txs ms)), .v (.tup (txs a))] = .ok (.tup (txs (leastS a))) [.v (.tup (txs ms)), .v (.tup (txs a))] := by
  have l : (txs ms).length = n := by rw [len_txs, M.1]
  have hl := h.len hn
  simp [↓bind_eq, Cm.m_least_rows, Cm.m_least_rows_b, mDef, check_marks_ok M hn h0, gLen, l, check_rising_ok hn h e, least_of_ok hn h.inR (by omega)]
/-! ### plain: the least rows of an upward closure -/
theorem least_some {n : Nat} (hn : n ≤ 4) {some : List Str} (h : InR n some) : ∀ m ∈ leastS (risenS n some), m ∈ some := by
  intro m hm
  obtain ⟨h1, h2⟩ := List.mem_filter.mp hm
  obtain ⟨h3, s, hs, ov⟩ := mem_risen.mp h1
  by_cases e : s = m
  · rw [← e]; exact hs
  · exfalso
    have hsu : s ∈ risenS n some := mem_risen.mpr ⟨h s hs, s, hs, g_refl n (four hn) s (h s hs)⟩
    have : ((risenS n some).any fun o => !decide (o = m) && overS m o) = true := List.any_eq_true.mpr ⟨s, hsu, by simp [e, ov]⟩
    rw [this] at h2
    cases h2
theorem least_below {n : Nat} (hn : n ≤ 4) {a : List Str} (h : InR n a) : ∀ k : Nat, ∀ u ∈ a, ones u ≤ k → ∃ m ∈ leastS a, overS u m = true := by
  intro k
  induction k with
  | zero =>
    intro u hu hk
    refine ⟨u, List.mem_filter.mpr ⟨hu, ?_⟩, g_refl n (four hn) u (h u hu)⟩
    rw [Bool.not_eq_true', Bool.eq_false_iff]
    intro z
    obtain ⟨o, ho, q⟩ := List.any_eq_true.mp z
    simp only [Bool.and_eq_true, Bool.not_eq_true', decide_eq_false_iff_not] at q
    have := g_anti n (four hn) u (h u hu) o (h o ho) q.2 (Ne.symm q.1)
    omega
  | succ k ih =>
    intro u hu hk
    by_cases z : (a.any fun o => !decide (o = u) && overS u o) = true
    · obtain ⟨o, ho, q⟩ := List.any_eq_true.mp z
      simp only [Bool.and_eq_true, Bool.not_eq_true', decide_eq_false_iff_not] at q
      have := g_anti n (four hn) u (h u hu) o (h o ho) q.2 (Ne.symm q.1)
      obtain ⟨m, hm, ov⟩ := ih o ho (by omega)
      exact ⟨m, hm, g_trans n (four hn) u (h u hu) o (h o ho) q.2 m (h m (List.mem_filter.mp hm).1) ov⟩
    · exact ⟨u, List.mem_filter.mpr ⟨hu, by simpa using z⟩, g_refl n (four hn) u (h u hu)⟩
theorem risen_least {n : Nat} (hn : n ≤ 4) {some : List Str} (h : InR n some) : risenS n (leastS (risenS n some)) = risenS n some := by
  have hin := risen_in n some
  have lo := risen_lot n some
  conv => rhs; rw [lot_filter hn lo]
  conv => lhs; unfold risenS
  apply List.filter_congr
  intro o ho
  rw [Bool.eq_iff_iff, decide_eq_true_eq, List.any_eq_true]
  constructor
  · rintro ⟨r, hr, ov⟩
    obtain ⟨h1, s, hs, ov2⟩ := mem_risen.mp (List.mem_filter.mp hr).1
    refine mem_risen.mpr ⟨ho, s, hs, ?_⟩
    exact g_trans n (four hn) o ho r h1 ov s (h s hs) ov2
  · intro m
    exact least_below hn hin _ o m (Nat.le_refl _)
/-! ### drawn lots -/
theorem take_snoc {α : Type} {l : List α} {i : Nat} {x : α} (h : l[i]? = some x) : l.take (i + 1) = l.take i ++ [x] := by
  rw [List.take_add_one, h]
  rfl
theorem law_lot_ok {m n : Nat} {o : Ob} (B : Bag m o) (hm : m + 20 < 2 ^ 40) (hn : n ≤ 4) :
    ∃ (o' : Ob) (a : List Str), Cm.m_law_lot [.io o, .v (.int (n : Nat))] = .ok (.tup (txs a)) [.io o', .v (.int (n : Nat))] ∧ Bag (m + 17) o' ∧ Lot n a := by
  obtain ⟨o1, d, q1, B1, hd⟩ := one_lst B (by omega) [.int 2, .int 2, .int 3, .int 5] (by decide) (by decide)
  have hw : ∃ w : Nat, d = .int (w : Nat) ∧ 0 < w ∧ w < 1000 := by
    simp only [List.mem_cons, List.mem_nil_iff, or_false] at hd
    rcases hd with rfl | rfl | rfl | rfl
    · exact ⟨2, rfl, by decide, by decide⟩
    · exact ⟨2, rfl, by decide, by decide⟩
    · exact ⟨3, rfl, by decide, by decide⟩
    · exact ⟨5, rfl, by decide, by decide⟩
  obtain ⟨w, rfl, w0, w1⟩ := hw
  have hlen := rows_len hn
  have st : ∀ i d acc e, (txs (rowsS n))[i]? = some d → (∃ o' a, acc = txs a ∧ e = [.io o', .v (.int (n : Nat)), .v (.int (w : Nat)), .un] ∧ Bag (m + 1 + i) o' ∧ a.Sublist ((rowsS n).take i)) →
      ∃ acc' e', lcStep [3] (gSet 3) (tB1 (x2 gEq (xCall Cm.m_law_draw (qIo 0 (qVal (xVar 2) qNil))) (xC (.int 0)))) (lcPush (xVar 3)) d acc e = .ok acc' e' ∧
        ∃ o' a, acc' = txs a ∧ e' = [.io o', .v (.int (n : Nat)), .v (.int (w : Nat)), .un] ∧ Bag (m + 1 + (i + 1)) o' ∧ a.Sublist ((rowsS n).take (i + 1)) := by
    rintro i d acc e hd ⟨o', a, rfl, rfl, B2, hs⟩
    obtain ⟨x, hx, rfl⟩ := txs_get hd
    have hi : i < (rowsS n).length := (List.getElem?_eq_some_iff.mp hx).1
    obtain ⟨o2, r, q2, B3, hr⟩ := draw B2 (by omega) w w0 w1
    have hal : (txs a).length < 4000 := by
      rw [len_txs]
      have := hs.length_le
      simp only [List.length_take] at this
      omega
    have g1 : gSet 3 (.str x) [.io o', .v (.int (n : Nat)), .v (.int (w : Nat)), .un] = some [.io o', .v (.int (n : Nat)), .v (.int (w : Nat)), .v (.str x)] := by simp
    have t1 : tB1 (x2 gEq (xCall Cm.m_law_draw (qIo 0 (qVal (xVar 2) qNil))) (xC (.int 0))) [.io o', .v (.int (n : Nat)), .v (.int (w : Nat)), .v (.str x)] = .ok ((r : Int) == 0) [.io o2, .v (.int (n : Nat)), .v (.int (w : Nat)), .v (.str x)] := by
      simp [↓bind_eq, q2, gEq_ii]
    cases hb : ((r : Int) == 0) with
    | true =>
      rw [hb] at t1
      refine ⟨txs (a ++ [x]), [.io o2, .v (.int (n : Nat)), .v (.int (w : Nat)), .un], ?_, o2, a ++ [x], rfl, rfl, B3, ?_⟩
      · rw [lcStep_push (z := .str x) (e4 := [.io o2, .v (.int (n : Nat)), .v (.int (w : Nat)), .v (.str x)]) g1 t1 (by simp) hal]
        simp [txs]
      · rw [take_snoc hx]
        exact hs.append (List.Sublist.refl _)
    | false =>
      rw [hb] at t1
      refine ⟨txs a, [.io o2, .v (.int (n : Nat)), .v (.int (w : Nat)), .un], ?_, o2, a, rfl, rfl, B3, ?_⟩
      · rw [lcStep_skip g1 t1]
        simp
      · rw [take_snoc hx]
        exact hs.trans (List.sublist_append_left _ _)
  obtain ⟨acc, e, h1, o', a, rfl, rfl, B4, hs⟩ := lcL_inv _ st (acc := []) (e := [.io o1, .v (.int (n : Nat)), .v (.int (w : Nat)), .un]) ⟨o1, [], rfl, rfl, B1, by simp⟩
  rw [len_txs] at B4 hs
  rw [List.take_length] at hs
  refine ⟨o', a, ?_, B4.mono (by omega), hs⟩
  simp [↓bind_eq, Cm.m_law_lot, Cm.m_law_lot_b, mDef, q1, r_law_rows hn, iterD, h1, gTuple]
/-! ### repr -/
theorem gRepr_of {d : D} {p : PyData} (hp : d.py = some p) (c : canRepr p = true) : ∃ S, gRepr [d] = some (.str S) := ⟨p.shown, by simp [gRepr, hp, c]⟩
theorem bb_can : ∀ b c : Bool, canRepr (.list [.bool b, .bool c]) = true := by decide +kernel
theorem gRepr_bb (b c : Bool) : ∃ S, gRepr [.lst [.bl b, .bl c]] = some (.str S) := gRepr_of (d := .lst [.bl b, .bl c]) (p := .list [.bool b, .bool c]) rfl (bb_can b c)
theorem pysP (p q : PyData) (d e : D) (h1 : d.py = some p) (h2 : e.py = some q) : (D.lst [d, e]).py = some (.list [p, q]) := by
  simp [D.py, D.py.pys, h1, h2]
theorem showable_txs : ∀ a : List Str, PyData.showableAll (a.map .str) = true
  | [] => rfl
  | x :: a => by
    rw [List.map_cons, PyData.showableAll, showable_txs a]
    rfl
theorem short_txs : ∀ {a : List Str}, (∀ x ∈ a, (x.cps.toList.all fun c => decide (c < 16 ^ 8)) = true) → PyData.leavesShortAll 2000 (a.map .str) = true
  | [], _ => rfl
  | x :: a, h => by
    rw [List.map_cons, PyData.leavesShortAll, short_txs fun y hy => h y (List.mem_cons_of_mem _ hy)]
    rw [show PyData.leavesShort 2000 (.str x) = true from h x List.mem_cons_self]
    rfl
theorem weight_txs : ∀ {a : List Str} {k : Nat}, (∀ x ∈ a, x.cps.size ≤ k) → PyData.weightAll (a.map .str) ≤ (k + 1) * a.length
  | [], _, _ => Nat.zero_le _
  | x :: a, k, h => by
    have ih := weight_txs (a := a) (k := k) fun y hy => h y (List.mem_cons_of_mem _ hy)
    have hx := h x List.mem_cons_self
    rw [List.map_cons, PyData.weightAll, List.length_cons, Nat.mul_succ]
    have : PyData.weight (.str x) = x.cps.size := rfl
    omega
theorem gRepr_tt {n : Nat} (hn : n ≤ 4) {a b : List Str} (ha : InR n a) (hb : InR n b) (la : a.length ≤ 100) (lb : b.length ≤ 100) : ∃ S, gRepr [.lst [.tup (txs a), .tup (txs b)]] = some (.str S) := by
  have ok := g_ok n (four hn)
  have sh : ∀ a, InR n a → ∀ x ∈ a, (x.cps.toList.all fun c => decide (c < 16 ^ 8)) = true ∧ x.cps.size ≤ 4 := fun a h x hx => by
    have := ok x (h x hx)
    rw [Bool.and_eq_true, decide_eq_true_eq] at this
    exact this
  have wa := weight_txs (a := a) (k := 4) fun x hx => (sh a ha x hx).2
  have wb := weight_txs (a := b) (k := 4) fun x hx => (sh b hb x hx).2
  have hp := pysP _ _ _ _ (py_tup a) (py_tup b)
  have c : canRepr (.list [.tuple (a.map .str), .tuple (b.map .str)]) = true := by
    have h1 : PyData.showable (.list [.tuple (a.map .str), .tuple (b.map .str)]) = true := by
      simp only [PyData.showable, PyData.showableAll, showable_txs]
      rfl
    have h2 : PyData.leavesShort 2000 (.list [.tuple (a.map .str), .tuple (b.map .str)]) = true := by
      simp only [PyData.leavesShort, PyData.leavesShortAll, short_txs fun x hx => (sh a ha x hx).1, short_txs fun x hx => (sh b hb x hx).1]
      rfl
    have h3 : PyData.weight (.list [.tuple (a.map .str), .tuple (b.map .str)]) ≤ 8000 := by
      simp only [PyData.weight, PyData.weightAll]
      omega
    have h4 : PyData.depth (.list [.tuple (a.map .str), .tuple (b.map .str)]) ≤ 60 := by
      simp only [PyData.depth, PyData.depthAll, depth_txs]
      decide
    simp [canRepr, h1, h2, h3, h4]
  exact gRepr_of hp c
end Pl

set_option Elab.async false
set_option linter.all false
set_option maxRecDepth 100000
set_option maxHeartbeats 4000000
/-! Pl8: the bag is made; the law's own loop -/
namespace Pl
open PySem Mi
theorem ints_get {ns : List Int} {i : Nat} {d : D} (h : (ns.map D.int)[i]? = some d) : ∃ n, ns[i]? = some n ∧ d = .int n := by
  simp only [List.getElem?_map, Option.map_eq_some_iff] at h
  obtain ⟨x, hx, rfl⟩ := h
  exact ⟨x, hx, rfl⟩
theorem gSl_fz (a : List D) (i : Nat) : gSl none (some ((i : Nat) : Int)) (.fz a) = some (.lst (a.take i)) := by
  simp only [gSl]
  rw [cut_to2]
theorem gLt_ii (i j : Int) : gLt (.int i) (.int j) = some (.bl (decide (i < j))) := rfl
theorem gGe_ii (i j : Int) : gGe (.int i) (.int j) = some (.bl (decide (j ≤ i))) := rfl
/-- the seed's loop -/
theorem seed_ok (ns : List Int) (k : Nat) (hk : k < 100) (h : Int) (s0 : Int) (hs : s0.natAbs < 2 ^ 31) (ds : List D) (hd : ∀ d ∈ ds, ∃ i, d = .int i) (s4 s5 : Sl) (h4 : isIoS s4 = false) :
    ∃ (s : Int) (s4' : Sl), forL (gSet 4) (mAsg (gSet 3) (x2 Mi.gMod (xN gInt (xCons (x2 Mi.gAdd (x2 Mi.gAdd (x2 Mi.gMul (xVar 3) (xC (.int 51713))) (x2 Mi.gMod (xN gInt (xCons (xVar 4) xNil)) (xC (.int 1000121)))) (x2 Mi.gMul (xC (.int 17)) (xVar 1))) xNil)) (xC (.int 2147483549)))) ds
      [.v (.fz (ns.map .int)), .v (.int (k : Nat)), .v (.int h), .v (.int s0), s4, s5] = .ok .nx [.v (.fz (ns.map .int)), .v (.int (k : Nat)), .v (.int h), .v (.int s), s4', s5] ∧ s.natAbs < 2 ^ 31 ∧ isIoS s4' = false := by
  have key := forL_inv (mg := gSet 4) (mb := mAsg (gSet 3) (x2 Mi.gMod (xN gInt (xCons (x2 Mi.gAdd (x2 Mi.gAdd (x2 Mi.gMul (xVar 3) (xC (.int 51713))) (x2 Mi.gMod (xN gInt (xCons (xVar 4) xNil)) (xC (.int 1000121)))) (x2 Mi.gMul (xC (.int 17)) (xVar 1))) xNil)) (xC (.int 2147483549)))) (ds := ds)
    (fun _ e => ∃ s s4', e = [.v (.fz (ns.map .int)), .v (.int (k : Nat)), .v (.int h), .v (.int s), s4', s5] ∧ s.natAbs < 2 ^ 31 ∧ isIoS s4' = false)
    (fun r => ∃ s s4', r = .ok .nx [.v (.fz (ns.map .int)), .v (.int (k : Nat)), .v (.int h), .v (.int s), s4', s5] ∧ s.natAbs < 2 ^ 31 ∧ isIoS s4' = false)
    (fun i d e hd' ⟨s, s4', he, hs, h4⟩ => by
      subst he
      obtain ⟨j, rfl⟩ := hd d (List.mem_of_getElem? hd')
      refine ⟨[.v (.fz (ns.map .int)), .v (.int (k : Nat)), .v (.int h), .v (.int s), .v (.int j), s5], by simp [h4], ?_⟩
      have m1 : ∀ i, gMod (.int i) (.int 1000121) = some (.int (i % 1000121)) := fun i => gMod_ok (by decide)
      have m2 : ∀ i, gMod (.int i) (.int 2147483549) = some (.int (i % 2147483549)) := fun i => gMod_ok (by decide)
      have u1 : gMul (.int s) (.int 51713) = some (.int (s * 51713)) := gMul_ok (by omega) (by decide)
      have u2 : gMul (.int 17) (.int (k : Nat)) = some (.int (17 * (k : Nat))) := gMul_ok (by decide) (by omega)
      simp [↓bind_eq, m1, m2, u1, u2]
      refine ⟨_, _, ⟨rfl, rfl⟩, ?_, rfl⟩
      omega)
    (fun e ⟨s, s4', he, hs, h4⟩ => ⟨s, s4', by rw [he], hs, h4⟩) (e := [.v (.fz (ns.map .int)), .v (.int (k : Nat)), .v (.int h), .v (.int s0), s4, s5]) ⟨s0, s4, rfl, hs, h4⟩
  obtain ⟨s, s4', hr, hs, h4⟩ := key
  exact ⟨s, s4', hr, hs, h4⟩
theorem bag_ok (ns : List Int) (k : Nat) (hk : k < 100) : ∃ o e, Cm.m_law_bag [.fz (ns.map .int), .int (k : Nat)] = .ok o e ∧ Bag 0 o := by
  -- what the script holds at k
  have hh : ∃ h : Int, xIf (tB1 (x2 gLt (xVar 1) (xN gLen (xCons (xVar 0) xNil)))) (xN gInt (xCons (x2 gIx (xVar 0) (xVar 1)) xNil)) (xC (.int 0)) [.v (.fz (ns.map .int)), .v (.int (k : Nat)), .un, .un, .un, .un] = .ok (.int h) [.v (.fz (ns.map .int)), .v (.int (k : Nat)), .un, .un, .un, .un] := by
    by_cases hl : k < ns.length
    · refine ⟨ns[k], ?_⟩
      have c : gIx (.fz (ns.map .int)) (.int (k : Nat)) = some (.int ns[k]) := by
        simp only [gIx]
        exact atI_nat (by simp [hl])
      have c2 : gLt (.int (k : Nat)) (.int ((ns.length : Nat) : Int)) = some (.bl true) := by
        rw [gLt_ii]
        simp
        omega
      simp [↓bind_eq, gLen, c, c2]
    · refine ⟨0, ?_⟩
      have c2 : gLt (.int (k : Nat)) (.int ((ns.length : Nat) : Int)) = some (.bl false) := by
        rw [gLt_ii]
        simp
        omega
      simp [↓bind_eq, gLen, c2]
  obtain ⟨h, hh⟩ := hh
  have u1 : gMul (.int 99013) (.int ((k : Nat) + 5 : Int)) = some (.int (99013 * ((k : Nat) + 5))) := gMul_ok (by decide) (by omega)
  obtain ⟨s, s4', q1, q2, q3⟩ := seed_ok ns k hk h (99013 * ((k : Nat) + 5)) (by omega) ((ns.map .int).take 7) (fun d hd => by
    obtain ⟨i, _, rfl⟩ := List.mem_map.mp (List.mem_of_mem_take hd)
    exact ⟨i, rfl⟩) .un .un rfl
  have c1 := gSl_fz (ns.map .int) 7
  replace c1 : gSl none (some 7) (.fz (ns.map .int)) = some (.lst ((ns.map .int).take 7)) := c1
  have p1 : gPow (.int 10) (.int 15) = some (.int 1000000000000000) := by decide +kernel
  have m1 : ∀ i, gMod (.int i) (.int 999931) = some (.int (i % 999931)) := fun i => gMod_ok (by decide)
  have m2 : ∀ i, gMod (.int i) (.int 2147483549) = some (.int (i % 2147483549)) := fun i => gMod_ok (by decide)
  have u2 : gMul (.int 99991) (.int (h % 999931)) = some (.int (99991 * (h % 999931))) := gMul_ok (by decide) (by omega)
  have held : ∃ a : Int, xIf (ttOr (tB1 (x2 gLt (xVar 2) (xC (.int 0)))) (tB1 (x2 gGe (xVar 2) (x2 Mi.gPow (xC (.int 10)) (xC (.int 15)))))) (xN gAbs (xCons (xVar 2) xNil)) (xC (.int 0)) [.v (.fz (ns.map .int)), .v (.int (k : Nat)), .v (.int h), .v (.int s), s4', .un] = .ok (.int a) [.v (.fz (ns.map .int)), .v (.int (k : Nat)), .v (.int h), .v (.int s), s4', .un] := by
    by_cases b1 : h < 0
    · refine ⟨-h, ?_⟩
      simp [↓bind_eq, gLt_ii, b1, gAbs]
    · by_cases b2 : 1000000000000000 ≤ h
      · refine ⟨h, ?_⟩
        simp [↓bind_eq, gLt_ii, gGe_ii, b1, b2, gAbs, p1]
      · refine ⟨0, ?_⟩
        simp [↓bind_eq, gLt_ii, gGe_ii, b1, b2, gAbs, p1]
  obtain ⟨a, held⟩ := held
  refine ⟨bagO a ((s + 99991 * (h % 999931)) % 2147483549) 0, [.v (.fz (ns.map .int)), .v (.int (k : Nat)), .v (.int h), .v (.int s), s4', .v (.int a)], ?_, a, _, 0, rfl, by omega, by decide⟩
  simp [↓bind_eq, ↓hh, ↓held, Cm.m_law_bag, mDefN, Cm.m_law_bag_b, nSeq, isInt, u1, c1, iterD, q1, q3, m1, m2, u2]
/-- the law's loop: each turn holds -/
theorem loop_ok {m_right : En → Rs D} (hr : ∀ o, Bag 0 o → ∃ e, m_right [.io o] = .ok (.bl true) e) (ns : List Int) (n : Nat) (hn : n ≤ 90) :
    lcL [1] (gSet 1) ttYes (lcPush (xCallF m_right (xCallN Cm.m_law_bag (xCons (xVar 0) (xCons (xVar 1) xNil))))) (rng n) [] [.v (.fz (ns.map .int)), .un] = .ok (List.replicate n (.bl true)) [.v (.fz (ns.map .int)), .un] := by
  have st : ∀ i d acc e, (rng n)[i]? = some d → (acc = List.replicate i (.bl true) ∧ e = [.v (.fz (ns.map .int)), .un]) →
      ∃ acc' e', lcStep [1] (gSet 1) ttYes (lcPush (xCallF m_right (xCallN Cm.m_law_bag (xCons (xVar 0) (xCons (xVar 1) xNil))))) d acc e = .ok acc' e' ∧ (acc' = List.replicate (i + 1) (.bl true) ∧ e' = [.v (.fz (ns.map .int)), .un]) := by
    rintro i d acc e hd ⟨rfl, rfl⟩
    obtain ⟨hi, rfl⟩ := rng_get hd
    obtain ⟨o, e1, q1, B⟩ := bag_ok ns i (by omega)
    obtain ⟨e2, q2⟩ := hr o B
    refine ⟨_, _, ?_, rfl, rfl⟩
    rw [lcStep_push (z := .bl true) (e2 := [.v (.fz (ns.map .int)), .v (.int (i : Nat))]) (e3 := [.v (.fz (ns.map .int)), .v (.int (i : Nat))]) (e4 := [.v (.fz (ns.map .int)), .v (.int (i : Nat))]) (by simp) (by simp) (by simp [↓bind_eq, q1, q2]) (by simp; omega)]
    simp [List.replicate_succ']
  obtain ⟨acc, e, h1, h2, h3⟩ := lcL_inv _ st (acc := []) (e := [.v (.fz (ns.map .int)), .un]) ⟨rfl, rfl⟩
  rw [rng_len] at h2
  rw [h1, h2, h3]
theorem all_true (n : Nat) : gAll [.lst (List.replicate n (.bl true))] = some (.bl true) := by
  have : List.replicate n (D.bl true) = (List.replicate n true).map .bl := by simp
  simp only [gAll]
  rw [this, blsD_map]
  simp
/-- how many turns -/
theorem turns (ns : List Int) (c : Nat) (hc : c ≤ 90) : ∃ n : Nat, n ≤ 90 ∧ (if (if (c : Int) < (ns.length : Int) then (c : Int) else (ns.length : Int)) > 2 then (if (c : Int) < (ns.length : Int) then (c : Int) else (ns.length : Int)) else 2) = (n : Nat) := by
  refine ⟨if (if c < ns.length then c else ns.length) > 2 then (if c < ns.length then c else ns.length) else 2, ?_, ?_⟩
  · split <;> split at * <;> omega
  · split <;> split <;> split <;> split <;> omega
end Pl

set_option Elab.async false
set_option linter.all false
set_option maxRecDepth 100000
set_option maxHeartbeats 4000000
/-! the mirrors of the defs of k07 alone; printed by gen.py -/
namespace Lk07
open PySem Mi
def m_law_right_f1 : En → Rs Fl :=
  (mSeq (mAsg (gSet 2) (xCall Cm.m_law_marks (qIo 0 (qVal (x2 Mi.gAdd (xC (.int 1)) (xCall Cm.m_law_draw (qIo 0 (qVal (xC (.int 4)) qNil)))) qNil))))
  (mSeq (mAsg (gUnp 2 (gsCons (gSet 3) (gsCons (gSet 4) gsNil))) (xTup (xCons (xN gLen (xCons (xVar 2) xNil)) (xCons (xCall Cm.m_law_rows (qVal (xN gLen (xCons (xVar 2) xNil)) qNil)) xNil))))
  (mSeq (mAsg (gSet 5) (xCall Cm.m_law_lot (qIo 0 (qVal (xVar 3) qNil))))
  (mSeq (mAsg (gSet 5) (xCall Cm.m_law_one (qIo 0 (qVal (xLst (xCons (xVar 5) (xCons (xCall Cm.m_law_risen (qVal (xVar 3) (qVal (xSl (xVar 5) oNone (oSome (xC (.int 2)))) qNil))) (xCons (xTup xNil) (xCons (xN gTuple (xCons (xVar 4) xNil)) xNil))))) qNil))))
  (mSeq (mAsg (gSet 6) (x2 gEq (xVar 5) (xCall Cm.m_law_risen (qVal (xVar 3) (qVal (xVar 5) qNil)))))
  (mSeq (mIf (tB1 (x2 gNe (xN gRepr (xCons (xLst (xCons (xCall Cm.m_is_rising (qVal (xVar 2) (qVal (xVar 5) qNil))) (xCons (xCall Cm.m_is_rising (qPick [1, 0] (qVal (xVar 5) (qVal (xVar 2) qNil)))) xNil))) xNil)) (xN gRepr (xCons (xLst (xCons (xVar 6) (xCons (xVar 6) xNil))) xNil)))) (mRet (xC (.bl false))) mNx)
  (mSeq (mAsg (gSet 7) (xN gTuple (xCons (xVal (mLc [10] (xRng1 (xCons (xCall Cm.m_law_draw (qIo 0 (qVal (xC (.int 5)) qNil))) xNil)) (gSet 10) ttYes (lcPush (xCall Cm.m_law_one (qIo 0 (qVal (xVar 4) qNil)))))) xNil)))
  (mSeq (mAsg (gSet 8) (xCall Cm.m_law_risen (qVal (xVar 3) (qVal (xVar 7) qNil))))
  (mSeq (mIf (tB1 (x2 gNe (xN gRepr (xCons (xLst (xCons (xCall Cm.m_rising (qVal (xVar 2) (qVal (xVar 7) qNil))) (xCons (xCall Cm.m_rising (qPick [1, 0] (qVal (xVar 7) (qVal (xVar 2) qNil)))) xNil))) xNil)) (xN gRepr (xCons (xLst (xCons (xVar 8) (xCons (xVar 8) xNil))) xNil)))) (mRet (xC (.bl false))) mNx)
  (mSeq (mAsg (gSet 9) (xN gTuple (xCons (xVal (mLc [11] (xIter (xVar 8)) (gSet 11) (tB1 (x2 gEq (xVal (mLc [12] (xIter (xVar 8)) (gSet 12) (ttAnd (tB1 (x2 gNe (xVar 12) (xVar 11))) (ttTru (xCall Cm.m_law_over_2 (qVal (xVar 11) (qVal (xVar 12) qNil))))) (lcPush (xVar 12)))) (xLst xNil))) (lcPush (xVar 11)))) xNil)))
  (mSeq (mIf (tB1 (x2 gNe (xN gRepr (xCons (xLst (xCons (xCall Cm.m_least_rows (qVal (xVar 2) (qVal (xVar 8) qNil))) (xCons (xCall Cm.m_least_rows (qPick [1, 0] (qVal (xVar 8) (qVal (xVar 2) qNil)))) xNil))) xNil)) (xN gRepr (xCons (xLst (xCons (xVar 9) (xCons (xVar 9) xNil))) xNil)))) (mRet (xC (.bl false))) mNx)
  (mIf (ttOr (tB1 (x2 gNe (xCall Cm.m_rising (qVal (xVar 2) (qVal (xVar 9) qNil))) (xVar 8))) (tB1 (x2 gNe (xVal (mLc [11] (xIter (xVar 9)) (gSet 11) (tB1 (x2 gNotIn (xVar 11) (xVar 7))) (lcPush (xVar 11)))) (xLst xNil)))) (mRet (xC (.bl false))) mNx))))))))))))
def m_law_right_b : En → Rs Fl :=
  (mSeq (mFor (xRng1 (xCons (xC (.int 5)) xNil)) (gSet 1) m_law_right_f1)
  (mRet (xC (.bl true))))
def m_law_right : En → Rs D := mDef 1 13 m_law_right_b
def m_law_b : En → Rs Fl :=
  (mRet (xN gAll (xCons (xVal (mLc [1] (xRng1 (xCons (xN gMax2 (xCons (xC (.int 2)) (xCons (xN gMin2 (xCons (xN gLen (xCons (xVar 0) xNil)) (xCons (xC (.int 5)) xNil))) xNil))) xNil)) (gSet 1) ttYes (lcPush (xCallF m_law_right (xCallN Cm.m_law_bag (xCons (xVar 0) (xCons (xVar 1) xNil))))))) xNil)))
def m_law : En → Rs D := mDef 1 2 m_law_b
end Lk07

set_option Elab.async false
set_option linter.all false
set_option maxRecDepth 100000
set_option maxHeartbeats 4000000
/-! the defs of k07 keep their mirrors; printed by gen.py -/
namespace Lk07
open PySem PySem.Spec Mi L2
abbrev top (i : Nat) : Stmt := PySem.Challenge.pw_wishesrise_k07_whole_rising_lots.main.body.getD i (.Pass ⟨0, 0, 0, 0⟩)
abbrev s_law_draw : Stmt := top 30
abbrev s_law_marks : Stmt := top 32
abbrev s_law_one : Stmt := top 31
abbrev s_law_rows : Stmt := top 33
abbrev s_law_lot : Stmt := top 35
abbrev s_law_over : Stmt := top 34
abbrev s_law_risen : Stmt := top 36
abbrev s_is_name : Stmt := top 11
abbrev s_wrong_mark : Stmt := top 12
abbrev s_check_marks : Stmt := top 13
abbrev s_is_row : Stmt := top 15
abbrev s_check_rows : Stmt := top 25
abbrev s_all_rows : Stmt := top 14
abbrev s_is_over : Stmt := top 16
abbrev s_risen : Stmt := top 22
abbrev s_rising : Stmt := top 26
abbrev s_wrong_in_lot : Stmt := top 18
abbrev s_check_lot : Stmt := top 19
abbrev s_lacking_row : Stmt := top 20
abbrev s_is_rising : Stmt := top 24
abbrev s_check_rising : Stmt := top 21
abbrev s_least_of : Stmt := top 23
abbrev s_least_rows : Stmt := top 27
abbrev s_law_right : Stmt := top 37
abbrev s_law_bag : Stmt := top 29
abbrev s_law : Stmt := top 38
abbrev d_law_draw : He.DefD := ⟨("_law_draw", none), "_law_draw", "_law_draw", defArgs s_law_draw, defBody s_law_draw, defScope s_law_draw, [], []⟩
abbrev d_law_marks : He.DefD := ⟨("_law_marks", none), "_law_marks", "_law_marks", defArgs s_law_marks, defBody s_law_marks, defScope s_law_marks, [], []⟩
abbrev d_law_one : He.DefD := ⟨("_law_one", none), "_law_one", "_law_one", defArgs s_law_one, defBody s_law_one, defScope s_law_one, [], []⟩
abbrev d_law_rows : He.DefD := ⟨("_law_rows", none), "_law_rows", "_law_rows", defArgs s_law_rows, defBody s_law_rows, defScope s_law_rows, [], []⟩
abbrev d_law_lot : He.DefD := ⟨("_law_lot", none), "_law_lot", "_law_lot", defArgs s_law_lot, defBody s_law_lot, defScope s_law_lot, [], []⟩
abbrev d_law_over : He.DefD := ⟨("_law_over", none), "_law_over", "_law_over", defArgs s_law_over, defBody s_law_over, defScope s_law_over, [], []⟩
abbrev d_law_risen : He.DefD := ⟨("_law_risen", none), "_law_risen", "_law_risen", defArgs s_law_risen, defBody s_law_risen, defScope s_law_risen, [], []⟩
abbrev d_is_name : He.DefD := ⟨("is_name", none), "is_name", "is_name", defArgs s_is_name, defBody s_is_name, defScope s_is_name, [], []⟩
abbrev d_wrong_mark : He.DefD := ⟨("wrong_mark", none), "wrong_mark", "wrong_mark", defArgs s_wrong_mark, defBody s_wrong_mark, defScope s_wrong_mark, [], []⟩
abbrev d_check_marks : He.DefD := ⟨("check_marks", none), "check_marks", "check_marks", defArgs s_check_marks, defBody s_check_marks, defScope s_check_marks, [], []⟩
abbrev d_is_row : He.DefD := ⟨("is_row", none), "is_row", "is_row", defArgs s_is_row, defBody s_is_row, defScope s_is_row, [], []⟩
abbrev d_check_rows : He.DefD := ⟨("check_rows", none), "check_rows", "check_rows", defArgs s_check_rows, defBody s_check_rows, defScope s_check_rows, [], []⟩
abbrev d_all_rows : He.DefD := ⟨("all_rows", none), "all_rows", "all_rows", defArgs s_all_rows, defBody s_all_rows, defScope s_all_rows, [], []⟩
abbrev d_is_over : He.DefD := ⟨("is_over", none), "is_over", "is_over", defArgs s_is_over, defBody s_is_over, defScope s_is_over, [], []⟩
abbrev d_risen : He.DefD := ⟨("risen", none), "risen", "risen", defArgs s_risen, defBody s_risen, defScope s_risen, [], []⟩
abbrev d_rising : He.DefD := ⟨("rising", none), "rising", "rising", defArgs s_rising, defBody s_rising, defScope s_rising, [], []⟩
abbrev d_wrong_in_lot : He.DefD := ⟨("wrong_in_lot", none), "wrong_in_lot", "wrong_in_lot", defArgs s_wrong_in_lot, defBody s_wrong_in_lot, defScope s_wrong_in_lot, [], []⟩
abbrev d_check_lot : He.DefD := ⟨("check_lot", none), "check_lot", "check_lot", defArgs s_check_lot, defBody s_check_lot, defScope s_check_lot, [], []⟩
abbrev d_lacking_row : He.DefD := ⟨("lacking_row", none), "lacking_row", "lacking_row", defArgs s_lacking_row, defBody s_lacking_row, defScope s_lacking_row, [], []⟩
abbrev d_is_rising : He.DefD := ⟨("is_rising", none), "is_rising", "is_rising", defArgs s_is_rising, defBody s_is_rising, defScope s_is_rising, [], []⟩
abbrev d_check_rising : He.DefD := ⟨("check_rising", none), "check_rising", "check_rising", defArgs s_check_rising, defBody s_check_rising, defScope s_check_rising, [], []⟩
abbrev d_least_of : He.DefD := ⟨("least_of", none), "least_of", "least_of", defArgs s_least_of, defBody s_least_of, defScope s_least_of, [], []⟩
abbrev d_least_rows : He.DefD := ⟨("least_rows", none), "least_rows", "least_rows", defArgs s_least_rows, defBody s_least_rows, defScope s_least_rows, [], []⟩
abbrev d_law_right : He.DefD := ⟨("_law_right", none), "_law_right", "_law_right", defArgs s_law_right, defBody s_law_right, defScope s_law_right, [], []⟩
abbrev d_law_bag : He.DefD := ⟨("_law_bag", none), "_law_bag", "_law_bag", defArgs s_law_bag, defBody s_law_bag, defScope s_law_bag, [], []⟩
abbrev d_law : He.DefD := ⟨("law", none), "law", "law", defArgs s_law, defBody s_law, defScope s_law, [], []⟩
abbrev fn : List He.DefD := [d_law_draw, d_law_marks, d_law_one, d_law_rows, d_law_lot, d_law_over, d_law_risen, d_is_name, d_wrong_mark, d_check_marks, d_is_row, d_check_rows, d_all_rows, d_is_over, d_risen, d_rising, d_wrong_in_lot, d_check_lot, d_lacking_row, d_is_rising, d_check_rising, d_least_of, d_least_rows, d_law_right, d_law_bag, d_law]
abbrev fa : List He.Fa := [.glo "_law_draw", .glo "_law_marks", .glo "_law_one", .glo "_law_rows", .glo "_law_lot", .glo "_law_over", .glo "_law_risen", .glo "is_name", .glo "wrong_mark", .glo "check_marks", .glo "is_row", .glo "check_rows", .glo "all_rows", .glo "is_over", .glo "risen", .glo "rising", .glo "wrong_in_lot", .glo "check_lot", .glo "lacking_row", .glo "is_rising", .glo "check_rising", .glo "least_of", .glo "least_rows", .glo "_law_right", .glo "_law_bag", .glo "law", .free "abs", .free "all", .free "any", .free "enumerate", .free "int", .free "isinstance", .free "len", .free "max", .free "min", .free "range", .free "repr", .free "str", .free "tuple", .free "zip", .int "MOST_MARKS" 4, .int "MOST_NAME" 8, .str "LETTERS" "abcdefghijklmnopqrstuvwxyz", .str "SIGNS" "01"]
abbrev N_law_draw : List Str := ["_law_bag_here", "_law_wide", "_law_figure", "_law_kept", "_law_times"]
abbrev N_law_marks : List Str := ["_law_bag_here", "_law_many", "_law_pool", "_law_k"]
abbrev N_law_one : List Str := ["_law_bag_here", "_law_some"]
abbrev N_law_rows : List Str := ["_law_many", "_law_found", "_law_turn", "_law_longer", "_law_head"]
abbrev N_law_lot : List Str := ["_law_bag_here", "_law_many", "_law_few", "_law_row"]
abbrev N_law_over : List Str := ["_law_row", "_law_other", "_law_k"]
abbrev N_law_risen : List Str := ["_law_many", "_law_rows_here", "_law_row", "_law_each"]
abbrev N_is_name : List Str := ["value", "letter"]
abbrev N_wrong_mark : List Str := ["value", "index", "name"]
abbrev N_check_marks : List Str := ["marks", "wrong"]
abbrev N_is_row : List Str := ["value", "many", "sign"]
abbrev N_check_rows : List Str := ["rows", "many", "index", "row"]
abbrev N_all_rows : List Str := ["many", "found", "turn", "head", "sign"]
abbrev N_is_over : List Str := ["row", "other", "one", "two"]
abbrev N_risen : List Str := ["rows", "many", "other", "row"]
abbrev N_rising : List Str := ["marks", "rows"]
abbrev N_wrong_in_lot : List Str := ["value", "many", "index", "row"]
abbrev N_check_lot : List Str := ["value", "many", "wrong"]
abbrev N_lacking_row : List Str := ["lot", "many", "row", "other"]
abbrev N_is_rising : List Str := ["marks", "one"]
abbrev N_check_rising : List Str := ["value", "many", "row"]
abbrev N_least_of : List Str := ["lot", "row", "other"]
abbrev N_least_rows : List Str := ["marks", "one"]
abbrev N_law_right : List Str := ["_law_bag_here", "_law_turn", "_law_marks_here", "_law_many", "_law_rows_here", "_law_lot_here", "_law_due", "_law_some", "_law_up", "_law_least", "_law_k", "_law_row", "_law_each"]
abbrev N_law_bag : List Str := ["_law_script", "_law_k", "_law_held_cell", "_law_seed", "_law_this", "_law_held_signs"]
abbrev N_law : List Str := ["_law_script", "_law_k"]
section
variable {P : Program} {w : World} {K : PySem.W.Frag} {mg : Str → Option Value} {base h : Heap} {f : Addr} {fd : FuncData}
theorem ok_law_draw (KX : K.In h) (G : h.Ns mainGlobals mg) (c : He.SaysD fa fn K) (F : Fun K "_law_draw" "_law_draw" s_law_draw f fd) : FnG P w K mg base 1 f fd ["_law_bag_here", "_law_wide"] (spM K 2 Cm.m_law_draw) := by
  have n_int_ := He.free_ok KX G (c.fact 30 (f := .free "int") rfl)
  have sc : FnScope N_law_draw ["_law_bag_here", "_law_wide"] (defScope s_law_draw) := ⟨rfl, rfl, rfl, by decide +kernel, rfl, by decide +kernel, by decide +kernel⟩
  exact okM (k := 0) F sc fun cdv A outer s H E W co tk =>
  (es_cons (es_sto st_m (ps_asg (ev_op op_addM s_add (ev_bor (ep_ix co (ep_var (pv 0)) (ep_c (d := .int 2) pe_int rfl))) (ev_c (d := .int 1) pe_int rfl)) (pg_sub (pv 0) (ev_c (d := .int 2) pe_int rfl) (set_m (hu_of co.hr)))))
  (es_cons (es_if (et_cmp op_gtM s_ord (ev_bor (ep_ix co (ep_var (pv 0)) (ep_c (d := .int 0) pe_int rfl))) (ev_c (d := .int 0) pe_int rfl) (by first | exact nomark _ | rfl)) (es_cons (es_set (i := 2) (ev_op op_mod s_mod (ev_t cr_int n_int n_int_ (en_cons (ev_bor (ep_ix co (ep_var (pv 0)) (ep_c (d := .int 0) pe_int rfl))) en_nil)) (ev_var (pv 1))) sc.nd rfl (by first | exact .inl rfl | exact .inr rfl))
  (es_cons (es_sto st_m (ps_asg (ev_op op_fdivW s_fdiv (ev_bor (ep_ix co (ep_var (pv 0)) (ep_c (d := .int 0) pe_int rfl))) (ev_var (pv 1))) (pg_sub (pv 0) (ev_c (d := .int 0) pe_int rfl) (set_m (hu_of co.hr)))))
  (es_one (es_ret (ev_var (pv 2)))))) es_nil)
  (es_cons (es_set (i := 3) (ev_op op_addM s_add (ev_t cr_int n_int n_int_ (en_cons (ev_bor (ep_ix co (ep_var (pv 0)) (ep_c (d := .int 1) pe_int rfl))) en_nil)) (ev_op op_mulM s_mul (ev_c (d := .int 65003) pe_int rfl) (ev_bor (ep_ix co (ep_var (pv 0)) (ep_c (d := .int 2) pe_int rfl))))) sc.nd rfl (by first | exact .inl rfl | exact .inr rfl))
  (es_cons (es_set (i := 4) (ev_op op_addM s_add (ev_op op_mod s_mod (ev_t cr_int n_int n_int_ (en_cons (ev_var (pv 3)) en_nil)) (ev_c (d := .int 60013) pe_int rfl)) (ev_c (d := .int 49003) pe_int rfl)) sc.nd rfl (by first | exact .inl rfl | exact .inr rfl))
  (es_cons (es_sto st_m (ps_asg (ev_op op_mod s_mod (ev_t cr_int n_int n_int_ (en_cons (ev_op op_addM s_add (ev_op op_addM s_add (ev_op op_mulM s_mul (ev_var (pv 3)) (ev_var (pv 4))) (ev_op op_mulM s_mul (ev_c (d := .int 11) pe_int rfl) (ev_bor (ep_ix co (ep_var (pv 0)) (ep_c (d := .int 2) pe_int rfl))))) (ev_c (d := .int 19) pe_int rfl)) en_nil)) (ev_c (d := .int 2147483549) pe_int rfl)) (pg_sub (pv 0) (ev_c (d := .int 1) pe_int rfl) (set_m (hu_of co.hr)))))
  (es_one (es_ret (ev_op op_mod s_mod (ev_op op_fdivW s_fdiv (ev_t cr_int n_int n_int_ (en_cons (ev_bor (ep_ix co (ep_var (pv 0)) (ep_c (d := .int 1) pe_int rfl))) en_nil)) (ev_c (d := .int 509) pe_int rfl)) (ev_var (pv 1))))))))))
theorem ok_law_marks (KX : K.In h) (G : h.Ns mainGlobals mg) (c : He.SaysD fa fn K) (F : Fun K "_law_marks" "_law_marks" s_law_marks f fd) : FnG P w K mg base 2 f fd ["_law_bag_here", "_law_many"] (spM K 2 Cm.m_law_marks) := by
  have n_len_ := He.free_ok KX G (c.fact 32 (f := .free "len") rfl)
  have n_range_ := He.free_ok KX G (c.fact 35 (f := .free "range") rfl)
  have n_tuple_ := He.free_ok KX G (c.fact 38 (f := .free "tuple") rfl)
  have g__law_draw := He.glo_ok KX G (c.fact 0 (f := .glo "_law_draw") rfl)
  obtain ⟨fd__law_draw, F__law_draw⟩ := c.def_ 0 (d := d_law_draw) rfl
  replace F__law_draw : Fun K "_law_draw" "_law_draw" s_law_draw _ fd__law_draw := fun_of_D F__law_draw
  have K__law_draw := ok_law_draw (P := P) (w := w) (mg := mg) (base := base) KX G c F__law_draw
  have b__law_draw : Binds K fd__law_draw ["_law_bag_here", "_law_wide"] [] := F__law_draw.binds fun _ _ _ _ _ _ us hl => match us, hl with | [_, _], _ => rfl
  have sc : FnScope N_law_marks ["_law_bag_here", "_law_many"] (defScope s_law_marks) := ⟨rfl, rfl, rfl, by decide +kernel, rfl, by decide +kernel, by decide +kernel⟩
  exact okM (k := 1) F sc fun cdv A outer s H E W co tk =>
  (es_cons (es_ow (i := 2) (fun te h => ps_set sc.nd rfl (by first | exact .inl rfl | exact .inr rfl) h) (ef_lst (en_cons (ev_c (d := .str "a") pe_str rfl) (en_cons (ev_c (d := .str "b") pe_str rfl) (en_cons (ev_c (d := .str "c") pe_str rfl) (en_cons (ev_c (d := .str "ab") pe_str rfl) (en_cons (ev_c (d := .str "lamp") pe_str rfl) (en_cons (ev_c (d := .str "marks") pe_str rfl) (en_cons (ev_c (d := .str "nona") pe_str rfl) (en_cons (ev_c (d := .str "x") pe_str rfl) (en_cons (ev_c (d := .str "abcdefgh") pe_str rfl) (en_cons (ev_c (d := .str "aa") pe_str rfl) (en_cons (ev_c (d := .str "z") pe_str rfl) (en_cons (ev_c (d := .str "kind") pe_str rfl) (en_cons (ev_c (d := .str "y") pe_str rfl) (en_cons (ev_c (d := .str "ba") pe_str rfl) en_nil))))))))))))))))
  (es_one (es_ret (ev_t call_tuple_of n_tuple n_tuple_ (en_cons (ev_new (ef_lc (own := [("_law_k", 3)]) co.calm sc.nd  (ei_rng1 rfl n_range_ (en_cons (ev_var (pv 1)) en_nil)) (blkOk_of (by kernel_rfl)) (fun _ _ _ _ _ => (eg_name (pg_name sc.nd (i := 3) rfl (by first | exact .inl rfl | exact .inr rfl)))) (fun _ _ _ _ _ => ets_nil) (fun _ _ _ _ _ => (ev_meth mu_popAt (pe_bm PySem.F.plainAttrs_list PySem.F.slot_list_pop PySem.F.type_list_pop mt_popAt (pv 2) (en_cons (ev_call (K__law_draw.mono (by decide)) (co.blk _ _ _ _ _) (takes0 _) g__law_draw F__law_draw.kp b__law_draw (eq_io (pv 0) (eq_val (ev_bor (ep_b cr_len n_len n_len_ (eps_cons (ep_var (pv 2)) eps_nil))) eq_nil))) en_nil).pa))) (by decide))) en_nil)))))
theorem ok_law_one (KX : K.In h) (G : h.Ns mainGlobals mg) (c : He.SaysD fa fn K) (F : Fun K "_law_one" "_law_one" s_law_one f fd) : FnG P w K mg base 2 f fd ["_law_bag_here", "_law_some"] (spM K 2 Cm.m_law_one) := by
  have n_len_ := He.free_ok KX G (c.fact 32 (f := .free "len") rfl)
  have g__law_draw := He.glo_ok KX G (c.fact 0 (f := .glo "_law_draw") rfl)
  obtain ⟨fd__law_draw, F__law_draw⟩ := c.def_ 0 (d := d_law_draw) rfl
  replace F__law_draw : Fun K "_law_draw" "_law_draw" s_law_draw _ fd__law_draw := fun_of_D F__law_draw
  have K__law_draw := ok_law_draw (P := P) (w := w) (mg := mg) (base := base) KX G c F__law_draw
  have b__law_draw : Binds K fd__law_draw ["_law_bag_here", "_law_wide"] [] := F__law_draw.binds fun _ _ _ _ _ _ us hl => match us, hl with | [_, _], _ => rfl
  have sc : FnScope N_law_one ["_law_bag_here", "_law_some"] (defScope s_law_one) := ⟨rfl, rfl, rfl, by decide +kernel, rfl, by decide +kernel, by decide +kernel⟩
  exact okM (k := 1) F sc fun cdv A outer s H E W co tk =>
  (es_one (es_ret (ev_ix co (ev_var (pv 1)) (ev_call (K__law_draw.mono (by decide)) co tk g__law_draw F__law_draw.kp b__law_draw (eq_io (pv 0) (eq_val (ev_b cr_len n_len n_len_ (en_cons (ev_var (pv 1)) en_nil)) eq_nil))))))
theorem ok_law_rows (KX : K.In h) (G : h.Ns mainGlobals mg) (c : He.SaysD fa fn K) (F : Fun K "_law_rows" "_law_rows" s_law_rows f fd) : FnG P w K mg base 1 f fd ["_law_many"] (spM K 1 Cm.m_law_rows) := by
  have n_range_ := He.free_ok KX G (c.fact 35 (f := .free "range") rfl)
  have sc : FnScope N_law_rows ["_law_many"] (defScope s_law_rows) := ⟨rfl, rfl, rfl, by decide +kernel, rfl, by decide +kernel, by decide +kernel⟩
  exact okM (k := 0) F sc fun cdv A outer s H E W co tk =>
  (es_cons (es_set (i := 1) (ev_lst (en_cons (ev_c (d := .str "") pe_str rfl) en_nil)) sc.nd rfl (by first | exact .inl rfl | exact .inr rfl))
  (es_cons (es_for (passes_of rfl) co.calm (ei_rng1 rfl n_range_ (en_cons (ev_var (pv 0)) en_nil)) (eg_name (pg_name sc.nd (i := 2) rfl (by first | exact .inl rfl | exact .inr rfl))) (es_cons (es_set (i := 3) (ev_lst en_nil) sc.nd rfl (by first | exact .inl rfl | exact .inr rfl))
  (es_cons (es_for (passes_of rfl) co.calm (ei_of (ev_var (pv 1))) (eg_name (pg_name sc.nd (i := 4) rfl (by first | exact .inl rfl | exact .inr rfl))) (es_one (es_set (i := 3) (ev_op op_addM s_add (ev_var (pv 3)) (ev_lst (en_cons (ev_op op_addM s_add (ev_var (pv 4)) (ev_c (d := .str "0") pe_str rfl)) (en_cons (ev_op op_addM s_add (ev_var (pv 4)) (ev_c (d := .str "1") pe_str rfl)) en_nil)))) sc.nd rfl (by first | exact .inl rfl | exact .inr rfl))))
  (es_one (es_set (i := 1) (ev_var (pv 3)) sc.nd rfl (by first | exact .inl rfl | exact .inr rfl))))))
  (es_one (es_ret (ev_var (pv 1))))))
theorem ok_law_lot (KX : K.In h) (G : h.Ns mainGlobals mg) (c : He.SaysD fa fn K) (F : Fun K "_law_lot" "_law_lot" s_law_lot f fd) : FnG P w K mg base 3 f fd ["_law_bag_here", "_law_many"] (spM K 2 Cm.m_law_lot) := by
  have n_tuple_ := He.free_ok KX G (c.fact 38 (f := .free "tuple") rfl)
  have g__law_draw := He.glo_ok KX G (c.fact 0 (f := .glo "_law_draw") rfl)
  obtain ⟨fd__law_draw, F__law_draw⟩ := c.def_ 0 (d := d_law_draw) rfl
  replace F__law_draw : Fun K "_law_draw" "_law_draw" s_law_draw _ fd__law_draw := fun_of_D F__law_draw
  have K__law_draw := ok_law_draw (P := P) (w := w) (mg := mg) (base := base) KX G c F__law_draw
  have b__law_draw : Binds K fd__law_draw ["_law_bag_here", "_law_wide"] [] := F__law_draw.binds fun _ _ _ _ _ _ us hl => match us, hl with | [_, _], _ => rfl
  have g__law_one := He.glo_ok KX G (c.fact 2 (f := .glo "_law_one") rfl)
  obtain ⟨fd__law_one, F__law_one⟩ := c.def_ 2 (d := d_law_one) rfl
  replace F__law_one : Fun K "_law_one" "_law_one" s_law_one _ fd__law_one := fun_of_D F__law_one
  have K__law_one := ok_law_one (P := P) (w := w) (mg := mg) (base := base) KX G c F__law_one
  have b__law_one : Binds K fd__law_one ["_law_bag_here", "_law_some"] [] := F__law_one.binds fun _ _ _ _ _ _ us hl => match us, hl with | [_, _], _ => rfl
  have g__law_rows := He.glo_ok KX G (c.fact 3 (f := .glo "_law_rows") rfl)
  obtain ⟨fd__law_rows, F__law_rows⟩ := c.def_ 3 (d := d_law_rows) rfl
  replace F__law_rows : Fun K "_law_rows" "_law_rows" s_law_rows _ fd__law_rows := fun_of_D F__law_rows
  have K__law_rows := ok_law_rows (P := P) (w := w) (mg := mg) (base := base) KX G c F__law_rows
  have b__law_rows : Binds K fd__law_rows ["_law_many"] [] := F__law_rows.binds fun _ _ _ _ _ _ us hl => match us, hl with | [_], _ => rfl
  have sc : FnScope N_law_lot ["_law_bag_here", "_law_many"] (defScope s_law_lot) := ⟨rfl, rfl, rfl, by decide +kernel, rfl, by decide +kernel, by decide +kernel⟩
  exact okM (k := 2) F sc fun cdv A outer s H E W co tk =>
  (es_cons (es_set (i := 2) (ev_call (K__law_one.mono (by decide)) co tk g__law_one F__law_one.kp b__law_one (eq_io (pv 0) (eq_val (ev_lst (en_cons (ev_c (d := .int 2) pe_int rfl) (en_cons (ev_c (d := .int 2) pe_int rfl) (en_cons (ev_c (d := .int 3) pe_int rfl) (en_cons (ev_c (d := .int 5) pe_int rfl) en_nil))))) eq_nil))) sc.nd rfl (by first | exact .inl rfl | exact .inr rfl))
  (es_one (es_ret (ev_t call_tuple_of n_tuple n_tuple_ (en_cons (ev_new (ef_lc (own := [("_law_row", 3)]) co.calm sc.nd  (ei_of (ev_call (K__law_rows.mono (by decide)) co tk g__law_rows F__law_rows.kp b__law_rows (eq_val (ev_var (pv 1)) eq_nil))) (blkOk_of (by kernel_rfl)) (fun _ _ _ _ _ => (eg_name (pg_name sc.nd (i := 3) rfl (by first | exact .inl rfl | exact .inr rfl)))) (fun _ _ _ _ _ => (ets_one (et_cmp (op_eqM (co.blk _ _ _ _ _).hr.units) s_eq (ev_call (K__law_draw.mono (by decide)) (co.blk _ _ _ _ _) (takes0 _) g__law_draw F__law_draw.kp b__law_draw (eq_io (pv 0) (eq_val (ev_var (pv 2)) eq_nil))) (ev_c (d := .int 0) pe_int rfl) (by first | exact nomark _ | rfl)))) (fun _ _ _ _ _ => (ev_var (pv 3))) (by decide))) en_nil)))))
theorem ok_law_over (KX : K.In h) (G : h.Ns mainGlobals mg) (c : He.SaysD fa fn K) (F : Fun K "_law_over" "_law_over" s_law_over f fd) : FnG P w K mg base 1 f fd ["_law_row", "_law_other"] (spM K 2 Cm.m_law_over_2) := by
  have n_len_ := He.free_ok KX G (c.fact 32 (f := .free "len") rfl)
  have n_range_ := He.free_ok KX G (c.fact 35 (f := .free "range") rfl)
  have sc : FnScope N_law_over ["_law_row", "_law_other"] (defScope s_law_over) := ⟨rfl, rfl, rfl, by decide +kernel, rfl, by decide +kernel, by decide +kernel⟩
  exact okM (k := 0) F sc fun cdv A outer s H E W co tk =>
  (es_one (es_ret (ev_cmp (op_eqM co.hr.units) s_eq (ev_new (ef_lc (own := [("_law_k", 2)]) co.calm sc.nd  (ei_rng1 rfl n_range_ (en_cons (ev_b cr_len n_len n_len_ (en_cons (ev_var (pv 0)) en_nil)) en_nil)) (blkOk_of (by kernel_rfl)) (fun _ _ _ _ _ => (eg_name (pg_name sc.nd (i := 2) rfl (by first | exact .inl rfl | exact .inr rfl)))) (fun _ _ _ _ _ => (ets_one (et_cmp op_ltM s_ord (ev_ix (co.blk _ _ _ _ _) (ev_var (pv 0)) (ev_var (pv 2))) (ev_ix (co.blk _ _ _ _ _) (ev_var (pv 1)) (ev_var (pv 2))) (by first | exact nomark _ | rfl)))) (fun _ _ _ _ _ => (ev_var (pv 2))) (by decide))) (ev_lst en_nil) (by first | exact nomark _ | rfl))))
theorem ok_law_risen (KX : K.In h) (G : h.Ns mainGlobals mg) (c : He.SaysD fa fn K) (F : Fun K "_law_risen" "_law_risen" s_law_risen f fd) : FnG P w K mg base 2 f fd ["_law_many", "_law_rows_here"] (spM K 2 Cm.m_law_risen) := by
  have n_tuple_ := He.free_ok KX G (c.fact 38 (f := .free "tuple") rfl)
  have g__law_over := He.glo_ok KX G (c.fact 5 (f := .glo "_law_over") rfl)
  obtain ⟨fd__law_over, F__law_over⟩ := c.def_ 5 (d := d_law_over) rfl
  replace F__law_over : Fun K "_law_over" "_law_over" s_law_over _ fd__law_over := fun_of_D F__law_over
  have K__law_over := ok_law_over (P := P) (w := w) (mg := mg) (base := base) KX G c F__law_over
  have b__law_over : Binds K fd__law_over ["_law_row", "_law_other"] [] := F__law_over.binds fun _ _ _ _ _ _ us hl => match us, hl with | [_, _], _ => rfl
  have g__law_rows := He.glo_ok KX G (c.fact 3 (f := .glo "_law_rows") rfl)
  obtain ⟨fd__law_rows, F__law_rows⟩ := c.def_ 3 (d := d_law_rows) rfl
  replace F__law_rows : Fun K "_law_rows" "_law_rows" s_law_rows _ fd__law_rows := fun_of_D F__law_rows
  have K__law_rows := ok_law_rows (P := P) (w := w) (mg := mg) (base := base) KX G c F__law_rows
  have b__law_rows : Binds K fd__law_rows ["_law_many"] [] := F__law_rows.binds fun _ _ _ _ _ _ us hl => match us, hl with | [_], _ => rfl
  have sc : FnScope N_law_risen ["_law_many", "_law_rows_here"] (defScope s_law_risen) := ⟨rfl, rfl, rfl, by decide +kernel, rfl, by decide +kernel, by decide +kernel⟩
  exact okM (k := 1) F sc fun cdv A outer s H E W co tk =>
  (es_one (es_ret (ev_t call_tuple_of n_tuple n_tuple_ (en_cons (ev_new (ef_lc (own := [("_law_row", 2)]) co.calm sc.nd  (ei_of (ev_call (K__law_rows.mono (by decide)) co tk g__law_rows F__law_rows.kp b__law_rows (eq_val (ev_var (pv 0)) eq_nil))) (blkOk_of (by kernel_rfl)) (fun _ _ _ _ _ => (eg_name (pg_name sc.nd (i := 2) rfl (by first | exact .inl rfl | exact .inr rfl)))) (fun _ _ _ _ _ => (ets_one (et_cmp (op_neM (co.blk _ _ _ _ _).hr.units) s_ne (ev_new (ef_lc (own := [("_law_each", 3)]) (co.blk _ _ _ _ _).calm sc.nd  (ei_of (ev_var (pv 1))) (blkOk_of (by kernel_rfl)) (fun _ _ _ _ _ => (eg_name (pg_name sc.nd (i := 3) rfl (by first | exact .inl rfl | exact .inr rfl)))) (fun _ _ _ _ _ => (ets_one (et_tru (ev_call (K__law_over.mono (by decide)) ((co.blk _ _ _ _ _).blk _ _ _ _ _) (takes0 _) g__law_over F__law_over.kp b__law_over (eq_val (ev_var (pv 2)) (eq_val (ev_var (pv 3)) eq_nil)))))) (fun _ _ _ _ _ => (ev_var (pv 3))) (by decide))) (ev_lst en_nil) (by first | exact nomark _ | rfl)))) (fun _ _ _ _ _ => (ev_var (pv 2))) (by decide))) en_nil))))
theorem ok_is_name (KX : K.In h) (G : h.Ns mainGlobals mg) (c : He.SaysD fa fn K) (F : Fun K "is_name" "is_name" s_is_name f fd) : FnG P w K mg base 1 f fd ["value"] (spM K 1 Cm.m_is_name) := by
  have n_all_ := He.free_ok KX G (c.fact 27 (f := .free "all") rfl)
  have n_isinstance_ := He.free_ok KX G (c.fact 31 (f := .free "isinstance") rfl)
  have n_len_ := He.free_ok KX G (c.fact 32 (f := .free "len") rfl)
  have n_str_ := He.free_ok KX G (c.fact 37 (f := .free "str") rfl)
  obtain ⟨t_MOST_NAME, g_MOST_NAME⟩ := He.int_ok KX G (c.fact 41 (f := .int "MOST_NAME" 8) rfl)
  obtain ⟨t_LETTERS, g_LETTERS⟩ := He.str_ok KX G (c.fact 42 (f := .str "LETTERS" "abcdefghijklmnopqrstuvwxyz") rfl)
  have sc : FnScope N_is_name ["value"] (defScope s_is_name) := ⟨rfl, rfl, rfl, by decide +kernel, rfl, by decide +kernel, by decide +kernel⟩
  exact okM (k := 0) F sc fun cdv A outer s H E W co tk =>
  (es_cons (es_if (et_w (ew_or (et_not (et_tru (ev_isi is_str (ev_var (pv 0)) (pe_bltn rfl n_str_ (by decide +kernel) rfl) rfl n_isinstance_))) (ew_or1 (et_not (et_chain op_leM op_leM s_ord s_ord (ev_c (d := .int 1) pe_int rfl) (ev_b cr_len n_len n_len_ (en_cons (ev_var (pv 0)) en_nil)) (ev_c (d := (.int 8)) (pe_glob (v := .int 8) rfl g_MOST_NAME ⟨_, rfl⟩) rfl)))))) (es_one (es_ret (ev_c (d := .bl false) pe_bl rfl))) es_nil)
  (es_one (es_ret (ev_b (cr_all co.calm) n_all n_all_ (en_cons (ev_new (ef_lc (own := [("letter", 1)]) co.calm sc.nd  (ei_of (ev_var (pv 0))) (blkOk_of (by kernel_rfl)) (fun _ _ _ _ _ => (eg_name (pg_name sc.nd (i := 1) rfl (by first | exact .inl rfl | exact .inr rfl)))) (fun _ _ _ _ _ => ets_nil) (fun _ _ _ _ _ => (ev_cmp (op_inM (hu_of (co.blk _ _ _ _ _).hr)) s_in (ev_var (pv 1)) (ev_c (d := (.str "abcdefghijklmnopqrstuvwxyz")) (pe_glob (v := .str "abcdefghijklmnopqrstuvwxyz") rfl g_LETTERS ⟨_, rfl⟩) rfl) (by first | exact nomark _ | rfl))) (by decide))) en_nil)))))
theorem ok_wrong_mark (KX : K.In h) (G : h.Ns mainGlobals mg) (c : He.SaysD fa fn K) (F : Fun K "wrong_mark" "wrong_mark" s_wrong_mark f fd) : FnG P w K mg base 2 f fd ["value"] (spM K 1 Cm.m_wrong_mark) := by
  have n_enumerate_ := He.free_ok KX G (c.fact 29 (f := .free "enumerate") rfl)
  obtain ⟨t_MOST_MARKS, g_MOST_MARKS⟩ := He.int_ok KX G (c.fact 40 (f := .int "MOST_MARKS" 4) rfl)
  have g_is_name := He.glo_ok KX G (c.fact 7 (f := .glo "is_name") rfl)
  obtain ⟨fd_is_name, F_is_name⟩ := c.def_ 7 (d := d_is_name) rfl
  replace F_is_name : Fun K "is_name" "is_name" s_is_name _ fd_is_name := fun_of_D F_is_name
  have K_is_name := ok_is_name (P := P) (w := w) (mg := mg) (base := base) KX G c F_is_name
  have b_is_name : Binds K fd_is_name ["value"] [] := F_is_name.binds fun _ _ _ _ _ _ us hl => match us, hl with | [_], _ => rfl
  have sc : FnScope N_wrong_mark ["value"] (defScope s_wrong_mark) := ⟨rfl, rfl, rfl, by decide +kernel, rfl, by decide +kernel, by decide +kernel⟩
  exact okM (k := 1) F sc fun cdv A outer s H E W co tk =>
  (es_cons (es_for (passes_of rfl) co.calm (ei_enum rfl n_enumerate_ (en_cons (ev_var (pv 0)) en_nil)) (eg_unp (n := 2) co.calm (eg_cons (eg_name (pg_name sc.nd (i := 1) rfl (by first | exact .inl rfl | exact .inr rfl))) (eg_cons (eg_name (pg_name sc.nd (i := 2) rfl (by first | exact .inl rfl | exact .inr rfl))) eg_nil))) (es_one (es_if (et_w (ew_or (et_cmp (op_eqM co.hr.units) s_eq (ev_var (pv 1)) (ev_c (d := (.int 4)) (pe_glob (v := .int 4) rfl g_MOST_MARKS ⟨_, rfl⟩) rfl) (by first | exact nomark _ | rfl)) (ew_or (et_not (et_tru (ev_call (K_is_name.mono (by decide)) co tk g_is_name F_is_name.kp b_is_name (eq_val (ev_var (pv 2)) eq_nil)))) (ew_or1 (et_cmp (op_inM (hu_of co.hr)) s_in (ev_var (pv 2)) (ev_sl (ev_var (pv 0)) eo_none (eo_some (ev_var (pv 1)))) (by first | exact nomark _ | rfl)))))) (es_one (es_ret (ev_var (pv 1)))) es_nil)))
  (es_one (es_ret (ev_c (d := .non) pe_non rfl))))
theorem ok_check_marks (KX : K.In h) (G : h.Ns mainGlobals mg) (c : He.SaysD fa fn K) (F : Fun K "check_marks" "check_marks" s_check_marks f fd) : FnG P w K mg base 3 f fd ["marks"] (spM K 1 Cm.m_check_marks) := by
  have n_isinstance_ := He.free_ok KX G (c.fact 31 (f := .free "isinstance") rfl)
  have n_tuple_ := He.free_ok KX G (c.fact 38 (f := .free "tuple") rfl)
  have g_wrong_mark := He.glo_ok KX G (c.fact 8 (f := .glo "wrong_mark") rfl)
  obtain ⟨fd_wrong_mark, F_wrong_mark⟩ := c.def_ 8 (d := d_wrong_mark) rfl
  replace F_wrong_mark : Fun K "wrong_mark" "wrong_mark" s_wrong_mark _ fd_wrong_mark := fun_of_D F_wrong_mark
  have K_wrong_mark := ok_wrong_mark (P := P) (w := w) (mg := mg) (base := base) KX G c F_wrong_mark
  have b_wrong_mark : Binds K fd_wrong_mark ["value"] [] := F_wrong_mark.binds fun _ _ _ _ _ _ us hl => match us, hl with | [_], _ => rfl
  have sc : FnScope N_check_marks ["marks"] (defScope s_check_marks) := ⟨rfl, rfl, rfl, by decide +kernel, rfl, by decide +kernel, by decide +kernel⟩
  exact okM (k := 2) F sc fun cdv A outer s H E W co tk =>
  (es_cons (es_if (et_w (ew_or (et_not (et_tru (ev_isi is_tup (ev_var (pv 0)) (pe_bltn rfl n_tuple_ (by decide +kernel) rfl) rfl n_isinstance_))) (ew_or1 (et_cmp (op_eqM co.hr.units) s_eq (ev_var (pv 0)) (ev_tup en_nil) (by first | exact nomark _ | rfl))))) (es_one es_bad) es_nil)
  (es_cons (es_set (i := 1) (ev_call (K_wrong_mark.mono (by decide)) co tk g_wrong_mark F_wrong_mark.kp b_wrong_mark (eq_val (ev_var (pv 0)) eq_nil)) sc.nd rfl (by first | exact .inl rfl | exact .inr rfl))
  (es_one (es_if (et_cmp op_notN s_notN (ev_var (pv 1)) (ev_c (d := .non) pe_non rfl) (by first | exact nomark _ | rfl)) (es_one es_bad) es_nil))))
theorem ok_is_row (KX : K.In h) (G : h.Ns mainGlobals mg) (c : He.SaysD fa fn K) (F : Fun K "is_row" "is_row" s_is_row f fd) : FnG P w K mg base 1 f fd ["value", "many"] (spM K 2 Cm.m_is_row) := by
  have n_all_ := He.free_ok KX G (c.fact 27 (f := .free "all") rfl)
  have n_isinstance_ := He.free_ok KX G (c.fact 31 (f := .free "isinstance") rfl)
  have n_len_ := He.free_ok KX G (c.fact 32 (f := .free "len") rfl)
  have n_str_ := He.free_ok KX G (c.fact 37 (f := .free "str") rfl)
  obtain ⟨t_SIGNS, g_SIGNS⟩ := He.str_ok KX G (c.fact 43 (f := .str "SIGNS" "01") rfl)
  have sc : FnScope N_is_row ["value", "many"] (defScope s_is_row) := ⟨rfl, rfl, rfl, by decide +kernel, rfl, by decide +kernel, by decide +kernel⟩
  exact okM (k := 0) F sc fun cdv A outer s H E W co tk =>
  (es_one (es_ret (ev_and (ev_isi is_str (ev_var (pv 0)) (pe_bltn rfl n_str_ (by decide +kernel) rfl) rfl n_isinstance_) (ev_and (ev_cmp (op_eqM co.hr.units) s_eq (ev_b cr_len n_len n_len_ (en_cons (ev_var (pv 0)) en_nil)) (ev_var (pv 1)) (by first | exact nomark _ | rfl)) (ev_last (ev_b (cr_all co.calm) n_all n_all_ (en_cons (ev_new (ef_lc (own := [("sign", 2)]) co.calm sc.nd  (ei_of (ev_var (pv 0))) (blkOk_of (by kernel_rfl)) (fun _ _ _ _ _ => (eg_name (pg_name sc.nd (i := 2) rfl (by first | exact .inl rfl | exact .inr rfl)))) (fun _ _ _ _ _ => ets_nil) (fun _ _ _ _ _ => (ev_cmp (op_inM (hu_of (co.blk _ _ _ _ _).hr)) s_in (ev_var (pv 2)) (ev_c (d := (.str "01")) (pe_glob (v := .str "01") rfl g_SIGNS ⟨_, rfl⟩) rfl) (by first | exact nomark _ | rfl))) (by decide))) en_nil)))))))
theorem ok_check_rows (KX : K.In h) (G : h.Ns mainGlobals mg) (c : He.SaysD fa fn K) (F : Fun K "check_rows" "check_rows" s_check_rows f fd) : FnG P w K mg base 2 f fd ["rows", "many"] (spM K 2 Cm.m_check_rows) := by
  have n_enumerate_ := He.free_ok KX G (c.fact 29 (f := .free "enumerate") rfl)
  have n_isinstance_ := He.free_ok KX G (c.fact 31 (f := .free "isinstance") rfl)
  have n_tuple_ := He.free_ok KX G (c.fact 38 (f := .free "tuple") rfl)
  have g_is_row := He.glo_ok KX G (c.fact 10 (f := .glo "is_row") rfl)
  obtain ⟨fd_is_row, F_is_row⟩ := c.def_ 10 (d := d_is_row) rfl
  replace F_is_row : Fun K "is_row" "is_row" s_is_row _ fd_is_row := fun_of_D F_is_row
  have K_is_row := ok_is_row (P := P) (w := w) (mg := mg) (base := base) KX G c F_is_row
  have b_is_row : Binds K fd_is_row ["value", "many"] [] := F_is_row.binds fun _ _ _ _ _ _ us hl => match us, hl with | [_, _], _ => rfl
  have sc : FnScope N_check_rows ["rows", "many"] (defScope s_check_rows) := ⟨rfl, rfl, rfl, by decide +kernel, rfl, by decide +kernel, by decide +kernel⟩
  exact okM (k := 1) F sc fun cdv A outer s H E W co tk =>
  (es_cons (es_if (et_not (et_tru (ev_isi is_tup (ev_var (pv 0)) (pe_bltn rfl n_tuple_ (by decide +kernel) rfl) rfl n_isinstance_))) (es_one es_bad) es_nil)
  (es_one (es_for (passes_of rfl) co.calm (ei_enum rfl n_enumerate_ (en_cons (ev_var (pv 0)) en_nil)) (eg_unp (n := 2) co.calm (eg_cons (eg_name (pg_name sc.nd (i := 2) rfl (by first | exact .inl rfl | exact .inr rfl))) (eg_cons (eg_name (pg_name sc.nd (i := 3) rfl (by first | exact .inl rfl | exact .inr rfl))) eg_nil))) (es_one (es_if (et_not (et_tru (ev_call (K_is_row.mono (by decide)) co tk g_is_row F_is_row.kp b_is_row (eq_val (ev_var (pv 3)) (eq_val (ev_var (pv 1)) eq_nil))))) (es_one es_bad) es_nil)))))
theorem ok_all_rows (KX : K.In h) (G : h.Ns mainGlobals mg) (c : He.SaysD fa fn K) (F : Fun K "all_rows" "all_rows" s_all_rows f fd) : FnG P w K mg base 1 f fd ["many"] (spM K 1 Cm.m_all_rows) := by
  have n_range_ := He.free_ok KX G (c.fact 35 (f := .free "range") rfl)
  obtain ⟨t_SIGNS, g_SIGNS⟩ := He.str_ok KX G (c.fact 43 (f := .str "SIGNS" "01") rfl)
  have sc : FnScope N_all_rows ["many"] (defScope s_all_rows) := ⟨rfl, rfl, rfl, by decide +kernel, rfl, by decide +kernel, by decide +kernel⟩
  exact okM (k := 0) F sc fun cdv A outer s H E W co tk =>
  (es_cons (es_set (i := 1) (ev_lst (en_cons (ev_c (d := .str "") pe_str rfl) en_nil)) sc.nd rfl (by first | exact .inl rfl | exact .inr rfl))
  (es_cons (es_for (passes_of rfl) co.calm (ei_rng1 rfl n_range_ (en_cons (ev_var (pv 0)) en_nil)) (eg_name (pg_name sc.nd (i := 2) rfl (by first | exact .inl rfl | exact .inr rfl))) (es_one (es_setLc2V (i := 1) (own := [("head", 3), ("sign", 4)]) (vs1 := [4]) co.calm sc.nd rfl rfl (sw_true rfl rfl rfl (by decide +kernel))  (ei_of (ev_var (pv 1))) (blkOk_of (by kernel_rfl)) (by decide) (fun _ _ _ _ _ => (eg_name (pg_name sc.nd (i := 3) rfl (by first | exact .inl rfl | exact .inr rfl)))) (fun _ _ _ _ _ => ets_nil) (fun _ _ _ _ _ => (ei_of (ev_c (d := (.str "01")) (pe_glob (v := .str "01") rfl g_SIGNS ⟨_, rfl⟩) rfl))) (fun _ _ _ _ _ => (eg_name (pg_name sc.nd (i := 4) rfl (by first | exact .inl rfl | exact .inr rfl)))) (fun _ _ _ _ _ => ets_nil) (fun _ _ _ _ _ => (ev_op op_addM s_add (ev_var (pv 3)) (ev_var (pv 4)))) (by decide) (by decide))))
  (es_one (es_ret (ev_var (pv 1))))))
theorem ok_is_over (KX : K.In h) (G : h.Ns mainGlobals mg) (c : He.SaysD fa fn K) (F : Fun K "is_over" "is_over" s_is_over f fd) : FnG P w K mg base 1 f fd ["row", "other"] (spM K 2 Cm.m_is_over) := by
  have n_all_ := He.free_ok KX G (c.fact 27 (f := .free "all") rfl)
  have n_zip_ := He.free_ok KX G (c.fact 39 (f := .free "zip") rfl)
  have sc : FnScope N_is_over ["row", "other"] (defScope s_is_over) := ⟨rfl, rfl, rfl, by decide +kernel, rfl, by decide +kernel, by decide +kernel⟩
  exact okM (k := 0) F sc fun cdv A outer s H E W co tk =>
  (es_one (es_ret (ev_b (cr_all co.calm) n_all n_all_ (en_cons (ev_new (ef_lc (own := [("one", 2), ("two", 3)]) co.calm sc.nd  (ei_zip rfl n_zip_ (en_cons (ev_var (pv 0)) (en_cons (ev_var (pv 1)) en_nil))) (blkOk_of (by kernel_rfl)) (fun _ _ _ _ _ => (eg_unp (n := 2) (co.blk _ _ _ _ _).calm (eg_cons (eg_name (pg_name sc.nd (i := 2) rfl (by first | exact .inl rfl | exact .inr rfl))) (eg_cons (eg_name (pg_name sc.nd (i := 3) rfl (by first | exact .inl rfl | exact .inr rfl))) eg_nil)))) (fun _ _ _ _ _ => ets_nil) (fun _ _ _ _ _ => (ev_cmp op_geM s_ord (ev_var (pv 2)) (ev_var (pv 3)) (by first | exact nomark _ | rfl))) (by decide))) en_nil))))
theorem ok_risen (KX : K.In h) (G : h.Ns mainGlobals mg) (c : He.SaysD fa fn K) (F : Fun K "risen" "risen" s_risen f fd) : FnG P w K mg base 2 f fd ["rows", "many"] (spM K 2 Cm.m_risen) := by
  have n_any_ := He.free_ok KX G (c.fact 28 (f := .free "any") rfl)
  have n_tuple_ := He.free_ok KX G (c.fact 38 (f := .free "tuple") rfl)
  have g_all_rows := He.glo_ok KX G (c.fact 12 (f := .glo "all_rows") rfl)
  obtain ⟨fd_all_rows, F_all_rows⟩ := c.def_ 12 (d := d_all_rows) rfl
  replace F_all_rows : Fun K "all_rows" "all_rows" s_all_rows _ fd_all_rows := fun_of_D F_all_rows
  have K_all_rows := ok_all_rows (P := P) (w := w) (mg := mg) (base := base) KX G c F_all_rows
  have b_all_rows : Binds K fd_all_rows ["many"] [] := F_all_rows.binds fun _ _ _ _ _ _ us hl => match us, hl with | [_], _ => rfl
  have g_is_over := He.glo_ok KX G (c.fact 13 (f := .glo "is_over") rfl)
  obtain ⟨fd_is_over, F_is_over⟩ := c.def_ 13 (d := d_is_over) rfl
  replace F_is_over : Fun K "is_over" "is_over" s_is_over _ fd_is_over := fun_of_D F_is_over
  have K_is_over := ok_is_over (P := P) (w := w) (mg := mg) (base := base) KX G c F_is_over
  have b_is_over : Binds K fd_is_over ["row", "other"] [] := F_is_over.binds fun _ _ _ _ _ _ us hl => match us, hl with | [_, _], _ => rfl
  have sc : FnScope N_risen ["rows", "many"] (defScope s_risen) := ⟨rfl, rfl, rfl, by decide +kernel, rfl, by decide +kernel, by decide +kernel⟩
  exact okM (k := 1) F sc fun cdv A outer s H E W co tk =>
  (es_one (es_ret (ev_t call_tuple_of n_tuple n_tuple_ (en_cons (ev_new (ef_lc (own := [("other", 2)]) co.calm sc.nd  (ei_of (ev_call (K_all_rows.mono (by decide)) co tk g_all_rows F_all_rows.kp b_all_rows (eq_val (ev_var (pv 1)) eq_nil))) (blkOk_of (by kernel_rfl)) (fun _ _ _ _ _ => (eg_name (pg_name sc.nd (i := 2) rfl (by first | exact .inl rfl | exact .inr rfl)))) (fun _ _ _ _ _ => (ets_one (et_tru (ev_b (cr_any (co.blk _ _ _ _ _).calm) n_any n_any_ (en_cons (ev_new (ef_lc (own := [("row", 3)]) (co.blk _ _ _ _ _).calm sc.nd  (ei_of (ev_var (pv 0))) (blkOk_of (by kernel_rfl)) (fun _ _ _ _ _ => (eg_name (pg_name sc.nd (i := 3) rfl (by first | exact .inl rfl | exact .inr rfl)))) (fun _ _ _ _ _ => ets_nil) (fun _ _ _ _ _ => (ev_call (K_is_over.mono (by decide)) ((co.blk _ _ _ _ _).blk _ _ _ _ _) (takes0 _) g_is_over F_is_over.kp b_is_over (eq_val (ev_var (pv 2)) (eq_val (ev_var (pv 3)) eq_nil)))) (by decide))) en_nil))))) (fun _ _ _ _ _ => (ev_var (pv 2))) (by decide))) en_nil))))
theorem ok_rising (KX : K.In h) (G : h.Ns mainGlobals mg) (c : He.SaysD fa fn K) (F : Fun K "rising" "rising" s_rising f fd) : FnG P w K mg base 4 f fd ["marks", "rows"] (spM K 2 Cm.m_rising) := by
  have n_len_ := He.free_ok KX G (c.fact 32 (f := .free "len") rfl)
  have g_check_marks := He.glo_ok KX G (c.fact 9 (f := .glo "check_marks") rfl)
  obtain ⟨fd_check_marks, F_check_marks⟩ := c.def_ 9 (d := d_check_marks) rfl
  replace F_check_marks : Fun K "check_marks" "check_marks" s_check_marks _ fd_check_marks := fun_of_D F_check_marks
  have K_check_marks := ok_check_marks (P := P) (w := w) (mg := mg) (base := base) KX G c F_check_marks
  have b_check_marks : Binds K fd_check_marks ["marks"] [] := F_check_marks.binds fun _ _ _ _ _ _ us hl => match us, hl with | [_], _ => rfl
  have g_check_rows := He.glo_ok KX G (c.fact 11 (f := .glo "check_rows") rfl)
  obtain ⟨fd_check_rows, F_check_rows⟩ := c.def_ 11 (d := d_check_rows) rfl
  replace F_check_rows : Fun K "check_rows" "check_rows" s_check_rows _ fd_check_rows := fun_of_D F_check_rows
  have K_check_rows := ok_check_rows (P := P) (w := w) (mg := mg) (base := base) KX G c F_check_rows
  have b_check_rows : Binds K fd_check_rows ["rows", "many"] [] := F_check_rows.binds fun _ _ _ _ _ _ us hl => match us, hl with | [_, _], _ => rfl
  have g_risen := He.glo_ok KX G (c.fact 14 (f := .glo "risen") rfl)
  obtain ⟨fd_risen, F_risen⟩ := c.def_ 14 (d := d_risen) rfl
  replace F_risen : Fun K "risen" "risen" s_risen _ fd_risen := fun_of_D F_risen
  have K_risen := ok_risen (P := P) (w := w) (mg := mg) (base := base) KX G c F_risen
  have b_risen : Binds K fd_risen ["rows", "many"] [] := F_risen.binds fun _ _ _ _ _ _ us hl => match us, hl with | [_, _], _ => rfl
  have sc : FnScope N_rising ["marks", "rows"] (defScope s_rising) := ⟨rfl, rfl, rfl, by decide +kernel, rfl, by decide +kernel, by decide +kernel⟩
  exact okM (k := 3) F sc fun cdv A outer s H E W co tk =>
  (es_cons (es_expr (ev_call (K_check_marks.mono (by decide)) co tk g_check_marks F_check_marks.kp b_check_marks (eq_val (ev_var (pv 0)) eq_nil)))
  (es_cons (es_expr (ev_call (K_check_rows.mono (by decide)) co tk g_check_rows F_check_rows.kp b_check_rows (eq_val (ev_var (pv 1)) (eq_val (ev_b cr_len n_len n_len_ (en_cons (ev_var (pv 0)) en_nil)) eq_nil))))
  (es_one (es_ret (ev_call (K_risen.mono (by decide)) co tk g_risen F_risen.kp b_risen (eq_val (ev_var (pv 1)) (eq_val (ev_b cr_len n_len n_len_ (en_cons (ev_var (pv 0)) en_nil)) eq_nil)))))))
theorem ok_wrong_in_lot (KX : K.In h) (G : h.Ns mainGlobals mg) (c : He.SaysD fa fn K) (F : Fun K "wrong_in_lot" "wrong_in_lot" s_wrong_in_lot f fd) : FnG P w K mg base 2 f fd ["value", "many"] (spM K 2 Cm.m_wrong_in_lot) := by
  have n_enumerate_ := He.free_ok KX G (c.fact 29 (f := .free "enumerate") rfl)
  have g_is_row := He.glo_ok KX G (c.fact 10 (f := .glo "is_row") rfl)
  obtain ⟨fd_is_row, F_is_row⟩ := c.def_ 10 (d := d_is_row) rfl
  replace F_is_row : Fun K "is_row" "is_row" s_is_row _ fd_is_row := fun_of_D F_is_row
  have K_is_row := ok_is_row (P := P) (w := w) (mg := mg) (base := base) KX G c F_is_row
  have b_is_row : Binds K fd_is_row ["value", "many"] [] := F_is_row.binds fun _ _ _ _ _ _ us hl => match us, hl with | [_, _], _ => rfl
  have sc : FnScope N_wrong_in_lot ["value", "many"] (defScope s_wrong_in_lot) := ⟨rfl, rfl, rfl, by decide +kernel, rfl, by decide +kernel, by decide +kernel⟩
  exact okM (k := 1) F sc fun cdv A outer s H E W co tk =>
  (es_cons (es_for (passes_of rfl) co.calm (ei_enum rfl n_enumerate_ (en_cons (ev_var (pv 0)) en_nil)) (eg_unp (n := 2) co.calm (eg_cons (eg_name (pg_name sc.nd (i := 2) rfl (by first | exact .inl rfl | exact .inr rfl))) (eg_cons (eg_name (pg_name sc.nd (i := 3) rfl (by first | exact .inl rfl | exact .inr rfl))) eg_nil))) (es_one (es_if (et_w (ew_or (et_not (et_tru (ev_call (K_is_row.mono (by decide)) co tk g_is_row F_is_row.kp b_is_row (eq_val (ev_var (pv 3)) (eq_val (ev_var (pv 1)) eq_nil))))) (ew_or1 (et_w (ew_and (et_cmp op_gtM s_ord (ev_var (pv 2)) (ev_c (d := .int 0) pe_int rfl) (by first | exact nomark _ | rfl)) (ew_and1 (et_cmp op_leM s_ord (ev_var (pv 3)) (ev_ix co (ev_var (pv 0)) (ev_op op_sub s_sub (ev_var (pv 2)) (ev_c (d := .int 1) pe_int rfl))) (by first | exact nomark _ | rfl)))))))) (es_one (es_ret (ev_var (pv 2)))) es_nil)))
  (es_one (es_ret (ev_c (d := .non) pe_non rfl))))
theorem ok_check_lot (KX : K.In h) (G : h.Ns mainGlobals mg) (c : He.SaysD fa fn K) (F : Fun K "check_lot" "check_lot" s_check_lot f fd) : FnG P w K mg base 3 f fd ["value", "many"] (spM K 2 Cm.m_check_lot) := by
  have n_isinstance_ := He.free_ok KX G (c.fact 31 (f := .free "isinstance") rfl)
  have n_tuple_ := He.free_ok KX G (c.fact 38 (f := .free "tuple") rfl)
  have g_wrong_in_lot := He.glo_ok KX G (c.fact 16 (f := .glo "wrong_in_lot") rfl)
  obtain ⟨fd_wrong_in_lot, F_wrong_in_lot⟩ := c.def_ 16 (d := d_wrong_in_lot) rfl
  replace F_wrong_in_lot : Fun K "wrong_in_lot" "wrong_in_lot" s_wrong_in_lot _ fd_wrong_in_lot := fun_of_D F_wrong_in_lot
  have K_wrong_in_lot := ok_wrong_in_lot (P := P) (w := w) (mg := mg) (base := base) KX G c F_wrong_in_lot
  have b_wrong_in_lot : Binds K fd_wrong_in_lot ["value", "many"] [] := F_wrong_in_lot.binds fun _ _ _ _ _ _ us hl => match us, hl with | [_, _], _ => rfl
  have sc : FnScope N_check_lot ["value", "many"] (defScope s_check_lot) := ⟨rfl, rfl, rfl, by decide +kernel, rfl, by decide +kernel, by decide +kernel⟩
  exact okM (k := 2) F sc fun cdv A outer s H E W co tk =>
  (es_cons (es_if (et_not (et_tru (ev_isi is_tup (ev_var (pv 0)) (pe_bltn rfl n_tuple_ (by decide +kernel) rfl) rfl n_isinstance_))) (es_one es_bad) es_nil)
  (es_cons (es_set (i := 2) (ev_call (K_wrong_in_lot.mono (by decide)) co tk g_wrong_in_lot F_wrong_in_lot.kp b_wrong_in_lot (eq_val (ev_var (pv 0)) (eq_val (ev_var (pv 1)) eq_nil))) sc.nd rfl (by first | exact .inl rfl | exact .inr rfl))
  (es_one (es_if (et_cmp op_notN s_notN (ev_var (pv 2)) (ev_c (d := .non) pe_non rfl) (by first | exact nomark _ | rfl)) (es_one es_bad) es_nil))))
theorem ok_lacking_row (KX : K.In h) (G : h.Ns mainGlobals mg) (c : He.SaysD fa fn K) (F : Fun K "lacking_row" "lacking_row" s_lacking_row f fd) : FnG P w K mg base 2 f fd ["lot", "many"] (spM K 2 Cm.m_lacking_row) := by
  have n_any_ := He.free_ok KX G (c.fact 28 (f := .free "any") rfl)
  have g_all_rows := He.glo_ok KX G (c.fact 12 (f := .glo "all_rows") rfl)
  obtain ⟨fd_all_rows, F_all_rows⟩ := c.def_ 12 (d := d_all_rows) rfl
  replace F_all_rows : Fun K "all_rows" "all_rows" s_all_rows _ fd_all_rows := fun_of_D F_all_rows
  have K_all_rows := ok_all_rows (P := P) (w := w) (mg := mg) (base := base) KX G c F_all_rows
  have b_all_rows : Binds K fd_all_rows ["many"] [] := F_all_rows.binds fun _ _ _ _ _ _ us hl => match us, hl with | [_], _ => rfl
  have g_is_over := He.glo_ok KX G (c.fact 13 (f := .glo "is_over") rfl)
  obtain ⟨fd_is_over, F_is_over⟩ := c.def_ 13 (d := d_is_over) rfl
  replace F_is_over : Fun K "is_over" "is_over" s_is_over _ fd_is_over := fun_of_D F_is_over
  have K_is_over := ok_is_over (P := P) (w := w) (mg := mg) (base := base) KX G c F_is_over
  have b_is_over : Binds K fd_is_over ["row", "other"] [] := F_is_over.binds fun _ _ _ _ _ _ us hl => match us, hl with | [_, _], _ => rfl
  have sc : FnScope N_lacking_row ["lot", "many"] (defScope s_lacking_row) := ⟨rfl, rfl, rfl, by decide +kernel, rfl, by decide +kernel, by decide +kernel⟩
  exact okM (k := 1) F sc fun cdv A outer s H E W co tk =>
  (es_cons (es_for (passes_of rfl) co.calm (ei_of (ev_var (pv 0))) (eg_name (pg_name sc.nd (i := 2) rfl (by first | exact .inl rfl | exact .inr rfl))) (es_one (es_if (et_tru (ev_b (cr_any co.calm) n_any n_any_ (en_cons (ev_new (ef_lc (own := [("other", 3)]) co.calm sc.nd  (ei_of (ev_call (K_all_rows.mono (by decide)) co tk g_all_rows F_all_rows.kp b_all_rows (eq_val (ev_var (pv 1)) eq_nil))) (blkOk_of (by kernel_rfl)) (fun _ _ _ _ _ => (eg_name (pg_name sc.nd (i := 3) rfl (by first | exact .inl rfl | exact .inr rfl)))) (fun _ _ _ _ _ => ets_nil) (fun _ _ _ _ _ => (ev_and (ev_call (K_is_over.mono (by decide)) (co.blk _ _ _ _ _) (takes0 _) g_is_over F_is_over.kp b_is_over (eq_val (ev_var (pv 3)) (eq_val (ev_var (pv 2)) eq_nil))) (ev_last (ev_cmp (op_notInM (hu_of (co.blk _ _ _ _ _).hr)) s_notIn (ev_var (pv 3)) (ev_var (pv 0)) (by first | exact nomark _ | rfl))))) (by decide))) en_nil))) (es_one (es_ret (ev_var (pv 2)))) es_nil)))
  (es_one (es_ret (ev_c (d := .non) pe_non rfl))))
theorem ok_is_rising (KX : K.In h) (G : h.Ns mainGlobals mg) (c : He.SaysD fa fn K) (F : Fun K "is_rising" "is_rising" s_is_rising f fd) : FnG P w K mg base 4 f fd ["marks", "one"] (spM K 2 Cm.m_is_rising) := by
  have n_len_ := He.free_ok KX G (c.fact 32 (f := .free "len") rfl)
  have g_check_lot := He.glo_ok KX G (c.fact 17 (f := .glo "check_lot") rfl)
  obtain ⟨fd_check_lot, F_check_lot⟩ := c.def_ 17 (d := d_check_lot) rfl
  replace F_check_lot : Fun K "check_lot" "check_lot" s_check_lot _ fd_check_lot := fun_of_D F_check_lot
  have K_check_lot := ok_check_lot (P := P) (w := w) (mg := mg) (base := base) KX G c F_check_lot
  have b_check_lot : Binds K fd_check_lot ["value", "many"] [] := F_check_lot.binds fun _ _ _ _ _ _ us hl => match us, hl with | [_, _], _ => rfl
  have g_check_marks := He.glo_ok KX G (c.fact 9 (f := .glo "check_marks") rfl)
  obtain ⟨fd_check_marks, F_check_marks⟩ := c.def_ 9 (d := d_check_marks) rfl
  replace F_check_marks : Fun K "check_marks" "check_marks" s_check_marks _ fd_check_marks := fun_of_D F_check_marks
  have K_check_marks := ok_check_marks (P := P) (w := w) (mg := mg) (base := base) KX G c F_check_marks
  have b_check_marks : Binds K fd_check_marks ["marks"] [] := F_check_marks.binds fun _ _ _ _ _ _ us hl => match us, hl with | [_], _ => rfl
  have g_lacking_row := He.glo_ok KX G (c.fact 18 (f := .glo "lacking_row") rfl)
  obtain ⟨fd_lacking_row, F_lacking_row⟩ := c.def_ 18 (d := d_lacking_row) rfl
  replace F_lacking_row : Fun K "lacking_row" "lacking_row" s_lacking_row _ fd_lacking_row := fun_of_D F_lacking_row
  have K_lacking_row := ok_lacking_row (P := P) (w := w) (mg := mg) (base := base) KX G c F_lacking_row
  have b_lacking_row : Binds K fd_lacking_row ["lot", "many"] [] := F_lacking_row.binds fun _ _ _ _ _ _ us hl => match us, hl with | [_, _], _ => rfl
  have sc : FnScope N_is_rising ["marks", "one"] (defScope s_is_rising) := ⟨rfl, rfl, rfl, by decide +kernel, rfl, by decide +kernel, by decide +kernel⟩
  exact okM (k := 3) F sc fun cdv A outer s H E W co tk =>
  (es_cons (es_expr (ev_call (K_check_marks.mono (by decide)) co tk g_check_marks F_check_marks.kp b_check_marks (eq_val (ev_var (pv 0)) eq_nil)))
  (es_cons (es_expr (ev_call (K_check_lot.mono (by decide)) co tk g_check_lot F_check_lot.kp b_check_lot (eq_val (ev_var (pv 1)) (eq_val (ev_b cr_len n_len n_len_ (en_cons (ev_var (pv 0)) en_nil)) eq_nil))))
  (es_one (es_ret (ev_cmp op_isN s_isN (ev_call (K_lacking_row.mono (by decide)) co tk g_lacking_row F_lacking_row.kp b_lacking_row (eq_val (ev_var (pv 1)) (eq_val (ev_b cr_len n_len n_len_ (en_cons (ev_var (pv 0)) en_nil)) eq_nil))) (ev_c (d := .non) pe_non rfl) (by first | exact nomark _ | rfl))))))
theorem ok_check_rising (KX : K.In h) (G : h.Ns mainGlobals mg) (c : He.SaysD fa fn K) (F : Fun K "check_rising" "check_rising" s_check_rising f fd) : FnG P w K mg base 4 f fd ["value", "many"] (spM K 2 Cm.m_check_rising) := by
  have g_check_lot := He.glo_ok KX G (c.fact 17 (f := .glo "check_lot") rfl)
  obtain ⟨fd_check_lot, F_check_lot⟩ := c.def_ 17 (d := d_check_lot) rfl
  replace F_check_lot : Fun K "check_lot" "check_lot" s_check_lot _ fd_check_lot := fun_of_D F_check_lot
  have K_check_lot := ok_check_lot (P := P) (w := w) (mg := mg) (base := base) KX G c F_check_lot
  have b_check_lot : Binds K fd_check_lot ["value", "many"] [] := F_check_lot.binds fun _ _ _ _ _ _ us hl => match us, hl with | [_, _], _ => rfl
  have g_lacking_row := He.glo_ok KX G (c.fact 18 (f := .glo "lacking_row") rfl)
  obtain ⟨fd_lacking_row, F_lacking_row⟩ := c.def_ 18 (d := d_lacking_row) rfl
  replace F_lacking_row : Fun K "lacking_row" "lacking_row" s_lacking_row _ fd_lacking_row := fun_of_D F_lacking_row
  have K_lacking_row := ok_lacking_row (P := P) (w := w) (mg := mg) (base := base) KX G c F_lacking_row
  have b_lacking_row : Binds K fd_lacking_row ["lot", "many"] [] := F_lacking_row.binds fun _ _ _ _ _ _ us hl => match us, hl with | [_, _], _ => rfl
  have sc : FnScope N_check_rising ["value", "many"] (defScope s_check_rising) := ⟨rfl, rfl, rfl, by decide +kernel, rfl, by decide +kernel, by decide +kernel⟩
  exact okM (k := 3) F sc fun cdv A outer s H E W co tk =>
  (es_cons (es_expr (ev_call (K_check_lot.mono (by decide)) co tk g_check_lot F_check_lot.kp b_check_lot (eq_val (ev_var (pv 0)) (eq_val (ev_var (pv 1)) eq_nil))))
  (es_cons (es_set (i := 2) (ev_call (K_lacking_row.mono (by decide)) co tk g_lacking_row F_lacking_row.kp b_lacking_row (eq_val (ev_var (pv 0)) (eq_val (ev_var (pv 1)) eq_nil))) sc.nd rfl (by first | exact .inl rfl | exact .inr rfl))
  (es_one (es_if (et_cmp op_notN s_notN (ev_var (pv 2)) (ev_c (d := .non) pe_non rfl) (by first | exact nomark _ | rfl)) (es_one es_bad) es_nil))))
theorem ok_least_of (KX : K.In h) (G : h.Ns mainGlobals mg) (c : He.SaysD fa fn K) (F : Fun K "least_of" "least_of" s_least_of f fd) : FnG P w K mg base 2 f fd ["lot"] (spM K 1 Cm.m_least_of) := by
  have n_any_ := He.free_ok KX G (c.fact 28 (f := .free "any") rfl)
  have n_tuple_ := He.free_ok KX G (c.fact 38 (f := .free "tuple") rfl)
  have g_is_over := He.glo_ok KX G (c.fact 13 (f := .glo "is_over") rfl)
  obtain ⟨fd_is_over, F_is_over⟩ := c.def_ 13 (d := d_is_over) rfl
  replace F_is_over : Fun K "is_over" "is_over" s_is_over _ fd_is_over := fun_of_D F_is_over
  have K_is_over := ok_is_over (P := P) (w := w) (mg := mg) (base := base) KX G c F_is_over
  have b_is_over : Binds K fd_is_over ["row", "other"] [] := F_is_over.binds fun _ _ _ _ _ _ us hl => match us, hl with | [_, _], _ => rfl
  have sc : FnScope N_least_of ["lot"] (defScope s_least_of) := ⟨rfl, rfl, rfl, by decide +kernel, rfl, by decide +kernel, by decide +kernel⟩
  exact okM (k := 1) F sc fun cdv A outer s H E W co tk =>
  (es_one (es_ret (ev_t call_tuple_of n_tuple n_tuple_ (en_cons (ev_new (ef_lc (own := [("row", 1)]) co.calm sc.nd  (ei_of (ev_var (pv 0))) (blkOk_of (by kernel_rfl)) (fun _ _ _ _ _ => (eg_name (pg_name sc.nd (i := 1) rfl (by first | exact .inl rfl | exact .inr rfl)))) (fun _ _ _ _ _ => (ets_one (et_not (et_tru (ev_b (cr_any (co.blk _ _ _ _ _).calm) n_any n_any_ (en_cons (ev_new (ef_lc (own := [("other", 2)]) (co.blk _ _ _ _ _).calm sc.nd  (ei_of (ev_var (pv 0))) (blkOk_of (by kernel_rfl)) (fun _ _ _ _ _ => (eg_name (pg_name sc.nd (i := 2) rfl (by first | exact .inl rfl | exact .inr rfl)))) (fun _ _ _ _ _ => ets_nil) (fun _ _ _ _ _ => (ev_and (ev_cmp (op_neM ((co.blk _ _ _ _ _).blk _ _ _ _ _).hr.units) s_ne (ev_var (pv 2)) (ev_var (pv 1)) (by first | exact nomark _ | rfl)) (ev_last (ev_call (K_is_over.mono (by decide)) ((co.blk _ _ _ _ _).blk _ _ _ _ _) (takes0 _) g_is_over F_is_over.kp b_is_over (eq_val (ev_var (pv 1)) (eq_val (ev_var (pv 2)) eq_nil)))))) (by decide))) en_nil)))))) (fun _ _ _ _ _ => (ev_var (pv 1))) (by decide))) en_nil))))
theorem ok_least_rows (KX : K.In h) (G : h.Ns mainGlobals mg) (c : He.SaysD fa fn K) (F : Fun K "least_rows" "least_rows" s_least_rows f fd) : FnG P w K mg base 5 f fd ["marks", "one"] (spM K 2 Cm.m_least_rows) := by
  have n_len_ := He.free_ok KX G (c.fact 32 (f := .free "len") rfl)
  have g_check_marks := He.glo_ok KX G (c.fact 9 (f := .glo "check_marks") rfl)
  obtain ⟨fd_check_marks, F_check_marks⟩ := c.def_ 9 (d := d_check_marks) rfl
  replace F_check_marks : Fun K "check_marks" "check_marks" s_check_marks _ fd_check_marks := fun_of_D F_check_marks
  have K_check_marks := ok_check_marks (P := P) (w := w) (mg := mg) (base := base) KX G c F_check_marks
  have b_check_marks : Binds K fd_check_marks ["marks"] [] := F_check_marks.binds fun _ _ _ _ _ _ us hl => match us, hl with | [_], _ => rfl
  have g_check_rising := He.glo_ok KX G (c.fact 20 (f := .glo "check_rising") rfl)
  obtain ⟨fd_check_rising, F_check_rising⟩ := c.def_ 20 (d := d_check_rising) rfl
  replace F_check_rising : Fun K "check_rising" "check_rising" s_check_rising _ fd_check_rising := fun_of_D F_check_rising
  have K_check_rising := ok_check_rising (P := P) (w := w) (mg := mg) (base := base) KX G c F_check_rising
  have b_check_rising : Binds K fd_check_rising ["value", "many"] [] := F_check_rising.binds fun _ _ _ _ _ _ us hl => match us, hl with | [_, _], _ => rfl
  have g_least_of := He.glo_ok KX G (c.fact 21 (f := .glo "least_of") rfl)
  obtain ⟨fd_least_of, F_least_of⟩ := c.def_ 21 (d := d_least_of) rfl
  replace F_least_of : Fun K "least_of" "least_of" s_least_of _ fd_least_of := fun_of_D F_least_of
  have K_least_of := ok_least_of (P := P) (w := w) (mg := mg) (base := base) KX G c F_least_of
  have b_least_of : Binds K fd_least_of ["lot"] [] := F_least_of.binds fun _ _ _ _ _ _ us hl => match us, hl with | [_], _ => rfl
  have sc : FnScope N_least_rows ["marks", "one"] (defScope s_least_rows) := ⟨rfl, rfl, rfl, by decide +kernel, rfl, by decide +kernel, by decide +kernel⟩
  exact okM (k := 4) F sc fun cdv A outer s H E W co tk =>
  (es_cons (es_expr (ev_call (K_check_marks.mono (by decide)) co tk g_check_marks F_check_marks.kp b_check_marks (eq_val (ev_var (pv 0)) eq_nil)))
  (es_cons (es_expr (ev_call (K_check_rising.mono (by decide)) co tk g_check_rising F_check_rising.kp b_check_rising (eq_val (ev_var (pv 1)) (eq_val (ev_b cr_len n_len n_len_ (en_cons (ev_var (pv 0)) en_nil)) eq_nil))))
  (es_one (es_ret (ev_call (K_least_of.mono (by decide)) co tk g_least_of F_least_of.kp b_least_of (eq_val (ev_var (pv 1)) eq_nil))))))
theorem ok_law_right (KX : K.In h) (G : h.Ns mainGlobals mg) (c : He.SaysD fa fn K) (F : Fun K "_law_right" "_law_right" s_law_right f fd) : FnG P w K mg base 6 f fd ["_law_bag_here"] (spM K 1 m_law_right) := by
  have n_len_ := He.free_ok KX G (c.fact 32 (f := .free "len") rfl)
  have n_range_ := He.free_ok KX G (c.fact 35 (f := .free "range") rfl)
  have n_repr_ := He.free_ok KX G (c.fact 36 (f := .free "repr") rfl)
  have n_tuple_ := He.free_ok KX G (c.fact 38 (f := .free "tuple") rfl)
  have g__law_draw := He.glo_ok KX G (c.fact 0 (f := .glo "_law_draw") rfl)
  obtain ⟨fd__law_draw, F__law_draw⟩ := c.def_ 0 (d := d_law_draw) rfl
  replace F__law_draw : Fun K "_law_draw" "_law_draw" s_law_draw _ fd__law_draw := fun_of_D F__law_draw
  have K__law_draw := ok_law_draw (P := P) (w := w) (mg := mg) (base := base) KX G c F__law_draw
  have b__law_draw : Binds K fd__law_draw ["_law_bag_here", "_law_wide"] [] := F__law_draw.binds fun _ _ _ _ _ _ us hl => match us, hl with | [_, _], _ => rfl
  have g__law_lot := He.glo_ok KX G (c.fact 4 (f := .glo "_law_lot") rfl)
  obtain ⟨fd__law_lot, F__law_lot⟩ := c.def_ 4 (d := d_law_lot) rfl
  replace F__law_lot : Fun K "_law_lot" "_law_lot" s_law_lot _ fd__law_lot := fun_of_D F__law_lot
  have K__law_lot := ok_law_lot (P := P) (w := w) (mg := mg) (base := base) KX G c F__law_lot
  have b__law_lot : Binds K fd__law_lot ["_law_bag_here", "_law_many"] [] := F__law_lot.binds fun _ _ _ _ _ _ us hl => match us, hl with | [_, _], _ => rfl
  have g__law_marks := He.glo_ok KX G (c.fact 1 (f := .glo "_law_marks") rfl)
  obtain ⟨fd__law_marks, F__law_marks⟩ := c.def_ 1 (d := d_law_marks) rfl
  replace F__law_marks : Fun K "_law_marks" "_law_marks" s_law_marks _ fd__law_marks := fun_of_D F__law_marks
  have K__law_marks := ok_law_marks (P := P) (w := w) (mg := mg) (base := base) KX G c F__law_marks
  have b__law_marks : Binds K fd__law_marks ["_law_bag_here", "_law_many"] [] := F__law_marks.binds fun _ _ _ _ _ _ us hl => match us, hl with | [_, _], _ => rfl
  have g__law_one := He.glo_ok KX G (c.fact 2 (f := .glo "_law_one") rfl)
  obtain ⟨fd__law_one, F__law_one⟩ := c.def_ 2 (d := d_law_one) rfl
  replace F__law_one : Fun K "_law_one" "_law_one" s_law_one _ fd__law_one := fun_of_D F__law_one
  have K__law_one := ok_law_one (P := P) (w := w) (mg := mg) (base := base) KX G c F__law_one
  have b__law_one : Binds K fd__law_one ["_law_bag_here", "_law_some"] [] := F__law_one.binds fun _ _ _ _ _ _ us hl => match us, hl with | [_, _], _ => rfl
  have g__law_over := He.glo_ok KX G (c.fact 5 (f := .glo "_law_over") rfl)
  obtain ⟨fd__law_over, F__law_over⟩ := c.def_ 5 (d := d_law_over) rfl
  replace F__law_over : Fun K "_law_over" "_law_over" s_law_over _ fd__law_over := fun_of_D F__law_over
  have K__law_over := ok_law_over (P := P) (w := w) (mg := mg) (base := base) KX G c F__law_over
  have b__law_over : Binds K fd__law_over ["_law_row", "_law_other"] [] := F__law_over.binds fun _ _ _ _ _ _ us hl => match us, hl with | [_, _], _ => rfl
  have g__law_risen := He.glo_ok KX G (c.fact 6 (f := .glo "_law_risen") rfl)
  obtain ⟨fd__law_risen, F__law_risen⟩ := c.def_ 6 (d := d_law_risen) rfl
  replace F__law_risen : Fun K "_law_risen" "_law_risen" s_law_risen _ fd__law_risen := fun_of_D F__law_risen
  have K__law_risen := ok_law_risen (P := P) (w := w) (mg := mg) (base := base) KX G c F__law_risen
  have b__law_risen : Binds K fd__law_risen ["_law_many", "_law_rows_here"] [] := F__law_risen.binds fun _ _ _ _ _ _ us hl => match us, hl with | [_, _], _ => rfl
  have g__law_rows := He.glo_ok KX G (c.fact 3 (f := .glo "_law_rows") rfl)
  obtain ⟨fd__law_rows, F__law_rows⟩ := c.def_ 3 (d := d_law_rows) rfl
  replace F__law_rows : Fun K "_law_rows" "_law_rows" s_law_rows _ fd__law_rows := fun_of_D F__law_rows
  have K__law_rows := ok_law_rows (P := P) (w := w) (mg := mg) (base := base) KX G c F__law_rows
  have b__law_rows : Binds K fd__law_rows ["_law_many"] [] := F__law_rows.binds fun _ _ _ _ _ _ us hl => match us, hl with | [_], _ => rfl
  have g_is_rising := He.glo_ok KX G (c.fact 19 (f := .glo "is_rising") rfl)
  obtain ⟨fd_is_rising, F_is_rising⟩ := c.def_ 19 (d := d_is_rising) rfl
  replace F_is_rising : Fun K "is_rising" "is_rising" s_is_rising _ fd_is_rising := fun_of_D F_is_rising
  have K_is_rising := ok_is_rising (P := P) (w := w) (mg := mg) (base := base) KX G c F_is_rising
  have b_is_rising : Binds K fd_is_rising ["marks", "one"] [] := F_is_rising.binds fun _ _ _ _ _ _ us hl => match us, hl with | [_, _], _ => rfl
  have g_least_rows := He.glo_ok KX G (c.fact 22 (f := .glo "least_rows") rfl)
  obtain ⟨fd_least_rows, F_least_rows⟩ := c.def_ 22 (d := d_least_rows) rfl
  replace F_least_rows : Fun K "least_rows" "least_rows" s_least_rows _ fd_least_rows := fun_of_D F_least_rows
  have K_least_rows := ok_least_rows (P := P) (w := w) (mg := mg) (base := base) KX G c F_least_rows
  have b_least_rows : Binds K fd_least_rows ["marks", "one"] [] := F_least_rows.binds fun _ _ _ _ _ _ us hl => match us, hl with | [_, _], _ => rfl
  have g_rising := He.glo_ok KX G (c.fact 15 (f := .glo "rising") rfl)
  obtain ⟨fd_rising, F_rising⟩ := c.def_ 15 (d := d_rising) rfl
  replace F_rising : Fun K "rising" "rising" s_rising _ fd_rising := fun_of_D F_rising
  have K_rising := ok_rising (P := P) (w := w) (mg := mg) (base := base) KX G c F_rising
  have b_rising : Binds K fd_rising ["marks", "rows"] [] := F_rising.binds fun _ _ _ _ _ _ us hl => match us, hl with | [_, _], _ => rfl
  have kb_is_rising_1_0 : KB K fd_is_rising ["marks", "one"] ["one", "marks"] [1, 0] := Mi.Fun.kb F_is_rising fun _ _ _ _ _ _ us hl => match us, hl with | [_, _], _ => rfl
  have kb_least_rows_1_0 : KB K fd_least_rows ["marks", "one"] ["one", "marks"] [1, 0] := Mi.Fun.kb F_least_rows fun _ _ _ _ _ _ us hl => match us, hl with | [_, _], _ => rfl
  have kb_rising_1_0 : KB K fd_rising ["marks", "rows"] ["rows", "marks"] [1, 0] := Mi.Fun.kb F_rising fun _ _ _ _ _ _ us hl => match us, hl with | [_, _], _ => rfl
  have sc : FnScope N_law_right ["_law_bag_here"] (defScope s_law_right) := ⟨rfl, rfl, rfl, by decide +kernel, rfl, by decide +kernel, by decide +kernel⟩
  exact okM (k := 5) F sc fun cdv A outer s H E W co tk =>
  (es_cons (es_for (passes_of rfl) co.calm (ei_rng1 rfl n_range_ (en_cons (ev_c (d := .int 5) pe_int rfl) en_nil)) (eg_name (pg_name sc.nd (i := 1) rfl (by first | exact .inl rfl | exact .inr rfl))) (es_cons (es_set (i := 2) (ev_call (K__law_marks.mono (by decide)) co tk g__law_marks F__law_marks.kp b__law_marks (eq_io (pv 0) (eq_val (ev_op op_addM s_add (ev_c (d := .int 1) pe_int rfl) (ev_call (K__law_draw.mono (by decide)) co tk g__law_draw F__law_draw.kp b__law_draw (eq_io (pv 0) (eq_val (ev_c (d := .int 4) pe_int rfl) eq_nil)))) eq_nil))) sc.nd rfl (by first | exact .inl rfl | exact .inr rfl))
  (es_cons (es_asg (ev_tup (en_cons (ev_b cr_len n_len n_len_ (en_cons (ev_var (pv 2)) en_nil)) (en_cons (ev_call (K__law_rows.mono (by decide)) co tk g__law_rows F__law_rows.kp b__law_rows (eq_val (ev_b cr_len n_len n_len_ (en_cons (ev_var (pv 2)) en_nil)) eq_nil)) en_nil))) (eg_unp (n := 2) co.calm (eg_cons (eg_name (pg_name sc.nd (i := 3) rfl (by first | exact .inl rfl | exact .inr rfl))) (eg_cons (eg_name (pg_name sc.nd (i := 4) rfl (by first | exact .inl rfl | exact .inr rfl))) eg_nil))))
  (es_cons (es_set (i := 5) (ev_call (K__law_lot.mono (by decide)) co tk g__law_lot F__law_lot.kp b__law_lot (eq_io (pv 0) (eq_val (ev_var (pv 3)) eq_nil))) sc.nd rfl (by first | exact .inl rfl | exact .inr rfl))
  (es_cons (es_set (i := 5) (ev_call (K__law_one.mono (by decide)) co tk g__law_one F__law_one.kp b__law_one (eq_io (pv 0) (eq_val (ev_lst (en_cons (ev_var (pv 5)) (en_cons (ev_call (K__law_risen.mono (by decide)) co tk g__law_risen F__law_risen.kp b__law_risen (eq_val (ev_var (pv 3)) (eq_val (ev_sl (ev_var (pv 5)) eo_none (eo_some (ev_c (d := .int 2) pe_int rfl))) eq_nil))) (en_cons (ev_tup en_nil) (en_cons (ev_t call_tuple_of n_tuple n_tuple_ (en_cons (ev_var (pv 4)) en_nil)) en_nil))))) eq_nil))) sc.nd rfl (by first | exact .inl rfl | exact .inr rfl))
  (es_cons (es_set (i := 6) (ev_cmp (op_eqM co.hr.units) s_eq (ev_var (pv 5)) (ev_call (K__law_risen.mono (by decide)) co tk g__law_risen F__law_risen.kp b__law_risen (eq_val (ev_var (pv 3)) (eq_val (ev_var (pv 5)) eq_nil))) (by first | exact nomark _ | rfl)) sc.nd rfl (by first | exact .inl rfl | exact .inr rfl))
  (es_cons (es_if (et_cmp (op_neM co.hr.units) s_ne (ev_b (cr_repr co) n_repr n_repr_ (en_cons (ev_lst (en_cons (ev_call (K_is_rising.mono (by decide)) co tk g_is_rising F_is_rising.kp b_is_rising (eq_val (ev_var (pv 2)) (eq_val (ev_var (pv 5)) eq_nil))) (en_cons (ev_callK (K_is_rising.mono (by decide)) co tk g_is_rising F_is_rising.kp kb_is_rising_1_0 (ks := ["one", "marks"]) (ek_val (ev_var (pv 5)) (ek_val (ev_var (pv 2)) ek_nil)) (fun as h => by match as, h with | [_, _], _ => rfl)) en_nil))) en_nil)) (ev_b (cr_repr co) n_repr n_repr_ (en_cons (ev_lst (en_cons (ev_var (pv 6)) (en_cons (ev_var (pv 6)) en_nil))) en_nil)) (by first | exact nomark _ | rfl)) (es_one (es_ret (ev_c (d := .bl false) pe_bl rfl))) es_nil)
  (es_cons (es_set (i := 7) (ev_t call_tuple_of n_tuple n_tuple_ (en_cons (ev_new (ef_lc (own := [("_law_k", 10)]) co.calm sc.nd  (ei_rng1 rfl n_range_ (en_cons (ev_call (K__law_draw.mono (by decide)) co tk g__law_draw F__law_draw.kp b__law_draw (eq_io (pv 0) (eq_val (ev_c (d := .int 5) pe_int rfl) eq_nil))) en_nil)) (blkOk_of (by kernel_rfl)) (fun _ _ _ _ _ => (eg_name (pg_name sc.nd (i := 10) rfl (by first | exact .inl rfl | exact .inr rfl)))) (fun _ _ _ _ _ => ets_nil) (fun _ _ _ _ _ => (ev_call (K__law_one.mono (by decide)) (co.blk _ _ _ _ _) (takes0 _) g__law_one F__law_one.kp b__law_one (eq_io (pv 0) (eq_val (ev_var (pv 4)) eq_nil)))) (by decide))) en_nil)) sc.nd rfl (by first | exact .inl rfl | exact .inr rfl))
  (es_cons (es_set (i := 8) (ev_call (K__law_risen.mono (by decide)) co tk g__law_risen F__law_risen.kp b__law_risen (eq_val (ev_var (pv 3)) (eq_val (ev_var (pv 7)) eq_nil))) sc.nd rfl (by first | exact .inl rfl | exact .inr rfl))
  (es_cons (es_if (et_cmp (op_neM co.hr.units) s_ne (ev_b (cr_repr co) n_repr n_repr_ (en_cons (ev_lst (en_cons (ev_call (K_rising.mono (by decide)) co tk g_rising F_rising.kp b_rising (eq_val (ev_var (pv 2)) (eq_val (ev_var (pv 7)) eq_nil))) (en_cons (ev_callK (K_rising.mono (by decide)) co tk g_rising F_rising.kp kb_rising_1_0 (ks := ["rows", "marks"]) (ek_val (ev_var (pv 7)) (ek_val (ev_var (pv 2)) ek_nil)) (fun as h => by match as, h with | [_, _], _ => rfl)) en_nil))) en_nil)) (ev_b (cr_repr co) n_repr n_repr_ (en_cons (ev_lst (en_cons (ev_var (pv 8)) (en_cons (ev_var (pv 8)) en_nil))) en_nil)) (by first | exact nomark _ | rfl)) (es_one (es_ret (ev_c (d := .bl false) pe_bl rfl))) es_nil)
  (es_cons (es_set (i := 9) (ev_t call_tuple_of n_tuple n_tuple_ (en_cons (ev_new (ef_lc (own := [("_law_row", 11)]) co.calm sc.nd  (ei_of (ev_var (pv 8))) (blkOk_of (by kernel_rfl)) (fun _ _ _ _ _ => (eg_name (pg_name sc.nd (i := 11) rfl (by first | exact .inl rfl | exact .inr rfl)))) (fun _ _ _ _ _ => (ets_one (et_cmp (op_eqM (co.blk _ _ _ _ _).hr.units) s_eq (ev_new (ef_lc (own := [("_law_each", 12)]) (co.blk _ _ _ _ _).calm sc.nd  (ei_of (ev_var (pv 8))) (blkOk_of (by kernel_rfl)) (fun _ _ _ _ _ => (eg_name (pg_name sc.nd (i := 12) rfl (by first | exact .inl rfl | exact .inr rfl)))) (fun _ _ _ _ _ => (ets_one (et_w (ew_and (et_cmp (op_neM ((co.blk _ _ _ _ _).blk _ _ _ _ _).hr.units) s_ne (ev_var (pv 12)) (ev_var (pv 11)) (by first | exact nomark _ | rfl)) (ew_and1 (et_tru (ev_call (K__law_over.mono (by decide)) ((co.blk _ _ _ _ _).blk _ _ _ _ _) (takes0 _) g__law_over F__law_over.kp b__law_over (eq_val (ev_var (pv 11)) (eq_val (ev_var (pv 12)) eq_nil))))))))) (fun _ _ _ _ _ => (ev_var (pv 12))) (by decide))) (ev_lst en_nil) (by first | exact nomark _ | rfl)))) (fun _ _ _ _ _ => (ev_var (pv 11))) (by decide))) en_nil)) sc.nd rfl (by first | exact .inl rfl | exact .inr rfl))
  (es_cons (es_if (et_cmp (op_neM co.hr.units) s_ne (ev_b (cr_repr co) n_repr n_repr_ (en_cons (ev_lst (en_cons (ev_call (K_least_rows.mono (by decide)) co tk g_least_rows F_least_rows.kp b_least_rows (eq_val (ev_var (pv 2)) (eq_val (ev_var (pv 8)) eq_nil))) (en_cons (ev_callK (K_least_rows.mono (by decide)) co tk g_least_rows F_least_rows.kp kb_least_rows_1_0 (ks := ["one", "marks"]) (ek_val (ev_var (pv 8)) (ek_val (ev_var (pv 2)) ek_nil)) (fun as h => by match as, h with | [_, _], _ => rfl)) en_nil))) en_nil)) (ev_b (cr_repr co) n_repr n_repr_ (en_cons (ev_lst (en_cons (ev_var (pv 9)) (en_cons (ev_var (pv 9)) en_nil))) en_nil)) (by first | exact nomark _ | rfl)) (es_one (es_ret (ev_c (d := .bl false) pe_bl rfl))) es_nil)
  (es_one (es_if (et_w (ew_or (et_cmp (op_neM co.hr.units) s_ne (ev_call (K_rising.mono (by decide)) co tk g_rising F_rising.kp b_rising (eq_val (ev_var (pv 2)) (eq_val (ev_var (pv 9)) eq_nil))) (ev_var (pv 8)) (by first | exact nomark _ | rfl)) (ew_or1 (et_cmp (op_neM co.hr.units) s_ne (ev_new (ef_lc (own := [("_law_row", 11)]) co.calm sc.nd  (ei_of (ev_var (pv 9))) (blkOk_of (by kernel_rfl)) (fun _ _ _ _ _ => (eg_name (pg_name sc.nd (i := 11) rfl (by first | exact .inl rfl | exact .inr rfl)))) (fun _ _ _ _ _ => (ets_one (et_cmp (op_notInM (hu_of (co.blk _ _ _ _ _).hr)) s_notIn (ev_var (pv 11)) (ev_var (pv 7)) (by first | exact nomark _ | rfl)))) (fun _ _ _ _ _ => (ev_var (pv 11))) (by decide))) (ev_lst en_nil) (by first | exact nomark _ | rfl))))) (es_one (es_ret (ev_c (d := .bl false) pe_bl rfl))) es_nil))))))))))))))
  (es_one (es_ret (ev_c (d := .bl true) pe_bl rfl))))
theorem ok_law_bag (KX : K.In h) (G : h.Ns mainGlobals mg) (c : He.SaysD fa fn K) (F : Fun K "_law_bag" "_law_bag" s_law_bag f fd) : FnG P w K mg base 1 f fd ["_law_script", "_law_k"] (spN K 2 Cm.m_law_bag) := by
  have n_abs_ := He.free_ok KX G (c.fact 26 (f := .free "abs") rfl)
  have n_int_ := He.free_ok KX G (c.fact 30 (f := .free "int") rfl)
  have n_len_ := He.free_ok KX G (c.fact 32 (f := .free "len") rfl)
  have sc : FnScope N_law_bag ["_law_script", "_law_k"] (defScope s_law_bag) := ⟨rfl, rfl, rfl, by decide +kernel, rfl, by decide +kernel, by decide +kernel⟩
  exact okN (k := 0) F sc fun cdv A outer s H E W co tk =>
  (sn_cons (es_par2 (i := 2) (j := 3) (fun ta h => ps_par co.calm sc.nd rfl rfl (by decide) rfl rfl h rfl) (en_cons (ev_if (et_cmp op_ltM s_ord (ev_var (pv 1)) (ev_b cr_len n_len n_len_ (en_cons (ev_var (pv 0)) en_nil)) (by first | exact nomark _ | rfl)) (ev_t cr_int n_int n_int_ (en_cons (ev_ix co (ev_var (pv 0)) (ev_var (pv 1))) en_nil)) (ev_c (d := .int 0) pe_int rfl)) (en_cons (ev_op op_mulM s_mul (ev_c (d := .int 99013) pe_int rfl) (ev_op op_addM s_add (ev_var (pv 1)) (ev_c (d := .int 5) pe_int rfl))) en_nil)))
  (sn_cons (es_for (passes_of rfl) co.calm (ei_of (ev_sl (ev_var (pv 0)) eo_none (eo_some (ev_c (d := .int 7) pe_int rfl)))) (eg_name (pg_name sc.nd (i := 4) rfl (by first | exact .inl rfl | exact .inr rfl))) (es_one (es_set (i := 3) (ev_op op_mod s_mod (ev_t cr_int n_int n_int_ (en_cons (ev_op op_addM s_add (ev_op op_addM s_add (ev_op op_mulM s_mul (ev_var (pv 3)) (ev_c (d := .int 51713) pe_int rfl)) (ev_op op_mod s_mod (ev_t cr_int n_int n_int_ (en_cons (ev_var (pv 4)) en_nil)) (ev_c (d := .int 1000121) pe_int rfl))) (ev_op op_mulM s_mul (ev_c (d := .int 17) pe_int rfl) (ev_var (pv 1)))) en_nil)) (ev_c (d := .int 2147483549) pe_int rfl)) sc.nd rfl (by first | exact .inl rfl | exact .inr rfl))))
  (sn_cons (es_set (i := 5) (ev_if (et_w (ew_or (et_cmp op_ltM s_ord (ev_var (pv 2)) (ev_c (d := .int 0) pe_int rfl) (by first | exact nomark _ | rfl)) (ew_or1 (et_cmp op_geM s_ord (ev_var (pv 2)) (ev_op op_pow s_pow (ev_c (d := .int 10) pe_int rfl) (ev_c (d := .int 15) pe_int rfl)) (by first | exact nomark _ | rfl))))) (ev_b call_abs n_abs n_abs_ (en_cons (ev_var (pv 2)) en_nil)) (ev_c (d := .int 0) pe_int rfl)) sc.nd rfl (by first | exact .inl rfl | exact .inr rfl))
  (sn_ret (ef_lst (en_cons (ev_var (pv 5)) (en_cons (ev_op op_mod s_mod (ev_t cr_int n_int n_int_ (en_cons (ev_op op_addM s_add (ev_var (pv 3)) (ev_op op_mulM s_mul (ev_c (d := .int 99991) pe_int rfl) (ev_op op_mod s_mod (ev_t cr_int n_int n_int_ (en_cons (ev_var (pv 2)) en_nil)) (ev_c (d := .int 999931) pe_int rfl)))) en_nil)) (ev_c (d := .int 2147483549) pe_int rfl)) (en_cons (ev_c (d := .int 0) pe_int rfl) en_nil))))))))
theorem ok_law (KX : K.In h) (G : h.Ns mainGlobals mg) (c : He.SaysD fa fn K) (F : Fun K "law" "law" s_law f fd) : FnG P w K mg base 7 f fd ["_law_script"] (spM K 1 m_law) := by
  have n_all_ := He.free_ok KX G (c.fact 27 (f := .free "all") rfl)
  have n_len_ := He.free_ok KX G (c.fact 32 (f := .free "len") rfl)
  have n_max_ := He.free_ok KX G (c.fact 33 (f := .free "max") rfl)
  have n_min_ := He.free_ok KX G (c.fact 34 (f := .free "min") rfl)
  have n_range_ := He.free_ok KX G (c.fact 35 (f := .free "range") rfl)
  have g__law_bag := He.glo_ok KX G (c.fact 24 (f := .glo "_law_bag") rfl)
  obtain ⟨fd__law_bag, F__law_bag⟩ := c.def_ 24 (d := d_law_bag) rfl
  replace F__law_bag : Fun K "_law_bag" "_law_bag" s_law_bag _ fd__law_bag := fun_of_D F__law_bag
  have K__law_bag := ok_law_bag (P := P) (w := w) (mg := mg) (base := base) KX G c F__law_bag
  have b__law_bag : Binds K fd__law_bag ["_law_script", "_law_k"] [] := F__law_bag.binds fun _ _ _ _ _ _ us hl => match us, hl with | [_, _], _ => rfl
  have g__law_right := He.glo_ok KX G (c.fact 23 (f := .glo "_law_right") rfl)
  obtain ⟨fd__law_right, F__law_right⟩ := c.def_ 23 (d := d_law_right) rfl
  replace F__law_right : Fun K "_law_right" "_law_right" s_law_right _ fd__law_right := fun_of_D F__law_right
  have K__law_right := ok_law_right (P := P) (w := w) (mg := mg) (base := base) KX G c F__law_right
  have b__law_right : Binds K fd__law_right ["_law_bag_here"] [] := F__law_right.binds fun _ _ _ _ _ _ us hl => match us, hl with | [_], _ => rfl
  have sc : FnScope N_law ["_law_script"] (defScope s_law) := ⟨rfl, rfl, rfl, by decide +kernel, rfl, by decide +kernel, by decide +kernel⟩
  exact okM (k := 6) F sc fun cdv A outer s H E W co tk =>
  (es_one (es_ret (ev_b (cr_all co.calm) n_all n_all_ (en_cons (ev_new (ef_lc (own := [("_law_k", 1)]) co.calm sc.nd  (ei_rng1 rfl n_range_ (en_cons (ev_b (call_max2 co.calm) n_ii n_max_ (en_cons (ev_c (d := .int 2) pe_int rfl) (en_cons (ev_b (call_min2 co.calm) n_ii n_min_ (en_cons (ev_b cr_len n_len n_len_ (en_cons (ev_var (pv 0)) en_nil)) (en_cons (ev_c (d := .int 5) pe_int rfl) en_nil))) en_nil))) en_nil)) (blkOk_of (by kernel_rfl)) (fun _ _ _ _ _ => (eg_name (pg_name sc.nd (i := 1) rfl (by first | exact .inl rfl | exact .inr rfl)))) (fun _ _ _ _ _ => ets_nil) (fun _ _ _ _ _ => (ev_callF (K__law_right.mono (by decide)) (co.blk _ _ _ _ _) (takes0 _) g__law_right F__law_right.kp b__law_right (ef_call (K__law_bag.mono (by decide)) (co.blk _ _ _ _ _) (takes0 _) g__law_bag F__law_bag.kp b__law_bag (en_cons (ev_var (pv 0)) (en_cons (ev_var (pv 1)) en_nil))))) (by decide))) en_nil))))
end
end Lk07

set_option Elab.async false
set_option linter.all false
set_option maxRecDepth 100000
set_option maxHeartbeats 4000000
/-! Lk07p: the law of rising lots, plain -/
namespace Lk07
open PySem Mi Pl
theorem some_ok {m n : Nat} {o : Ob} (B : Bag m o) (hm : m + 20 < 2 ^ 40) (hn : n ≤ 4) (h0 : 0 < n) (k : Nat) (hk : k ≤ 10) {s2 s3 s5 s6 s7 s8 s9 s11 s12 s1 : Sl} :
    ∃ (o' : Ob) (a : List Str), lcL [10] (gSet 10) ttYes (lcPush (xCall Cm.m_law_one (qIo 0 (qVal (xVar 4) qNil)))) (rng k) [] [.io o, s1, s2, s3, .v (.lst (txs (rowsS n))), s5, s6, s7, s8, s9, .un, s11, s12] =
      .ok (txs a) [.io o', s1, s2, s3, .v (.lst (txs (rowsS n))), s5, s6, s7, s8, s9, .un, s11, s12] ∧ Bag (m + k) o' ∧ InR n a ∧ a.length = k := by
  have hl : (txs (rowsS n)).length ≤ 16 := by rw [len_txs]; exact rows_len hn
  have hp : 0 < (txs (rowsS n)).length := by
    rw [len_txs]
    have : ∀ n ∈ [0, 1, 2, 3, 4], 0 < (rowsS n).length := by decide +kernel
    exact this n (four hn)
  have st : ∀ i d acc e, (rng k)[i]? = some d → (∃ o' a, acc = txs a ∧ e = [.io o', s1, s2, s3, .v (.lst (txs (rowsS n))), s5, s6, s7, s8, s9, .un, s11, s12] ∧ Bag (m + i) o' ∧ InR n a ∧ a.length = i) →
      ∃ acc' e', lcStep [10] (gSet 10) ttYes (lcPush (xCall Cm.m_law_one (qIo 0 (qVal (xVar 4) qNil)))) d acc e = .ok acc' e' ∧
        ∃ o' a, acc' = txs a ∧ e' = [.io o', s1, s2, s3, .v (.lst (txs (rowsS n))), s5, s6, s7, s8, s9, .un, s11, s12] ∧ Bag (m + (i + 1)) o' ∧ InR n a ∧ a.length = i + 1 := by
    rintro i d acc e hd ⟨o', a, rfl, rfl, B2, ha, hal⟩
    have hi := (rng_get hd).1
    obtain ⟨o2, x, q, B3, hx⟩ := one_lst B2 (by omega) (txs (rowsS n)) hp (by omega)
    obtain ⟨y, hy, rfl⟩ := List.mem_map.mp hx
    refine ⟨txs (a ++ [y]), _, ?_, o2, a ++ [y], rfl, rfl, B3, ?_, by simp [hal]⟩
    · rw [lcStep_push (z := .str y) (e2 := [.io o', s1, s2, s3, .v (.lst (txs (rowsS n))), s5, s6, s7, s8, s9, .v d, s11, s12]) (e3 := [.io o', s1, s2, s3, .v (.lst (txs (rowsS n))), s5, s6, s7, s8, s9, .v d, s11, s12])
        (e4 := [.io o2, s1, s2, s3, .v (.lst (txs (rowsS n))), s5, s6, s7, s8, s9, .v d, s11, s12]) (by simp) (by simp) (by simp [↓bind_eq, q]) (by rw [len_txs]; omega)]
      simp [txs]
    · intro z hz
      rcases List.mem_append.mp hz with q | q
      · exact ha z q
      · rw [List.mem_singleton.mp q]; exact hy
  obtain ⟨acc, e, h1, o', a, rfl, rfl, B4, ha, hal⟩ := lcL_inv _ st (acc := []) (e := [.io o, s1, s2, s3, .v (.lst (txs (rowsS n))), s5, s6, s7, s8, s9, .un, s11, s12]) ⟨o, [], rfl, rfl, B, fun x hx => (by cases hx), rfl⟩
  rw [rng_len] at B4 hal
  exact ⟨o', a, h1, B4, ha, hal⟩
theorem filter_nil_any {α : Type} (a : List α) (f : α → Bool) : decide (a.filter f = []) = !(a.any f) := by
  have := any_ne_nil a f
  rw [← this]
  simp
theorem least_ok {n : Nat} (hn : n ≤ 4) {u : List Str} (h : InR n u) (hl : u.length ≤ 4000) (s0 s1 s2 s3 s4 s5 s6 s7 s9 s10 : Sl) :
    lcL [11] (gSet 11) (tB1 (x2 gEq (xVal (mLc [12] (xIter (xVar 8)) (gSet 12) (ttAnd (tB1 (x2 gNe (xVar 12) (xVar 11))) (ttTru (xCall Cm.m_law_over_2 (qVal (xVar 11) (qVal (xVar 12) qNil))))) (lcPush (xVar 12)))) (xLst xNil))) (lcPush (xVar 11)) (txs u) []
      [s0, s1, s2, s3, s4, s5, s6, s7, .v (.tup (txs u)), s9, s10, .un, .un] = .ok (txs (leastS u)) [s0, s1, s2, s3, s4, s5, s6, s7, .v (.tup (txs u)), s9, s10, .un, .un] := by
  have in1 : ∀ r ∈ u, lcL [12] (gSet 12) (ttAnd (tB1 (x2 gNe (xVar 12) (xVar 11))) (ttTru (xCall Cm.m_law_over_2 (qVal (xVar 11) (qVal (xVar 12) qNil))))) (lcPush (xVar 12)) (txs u) [] [s0, s1, s2, s3, s4, s5, s6, s7, .v (.tup (txs u)), s9, s10, .v (.str r), .un] =
      .ok (txs (u.filter fun o => !decide (o = r) && overS r o)) [s0, s1, s2, s3, s4, s5, s6, s7, .v (.tup (txs u)), s9, s10, .v (.str r), .un] := fun r hr =>
    lcT (v := 12) (e := [s0, s1, s2, s3, s4, s5, s6, s7, .v (.tup (txs u)), s9, s10, .v (.str r), .un]) rfl u (fun o => !decide (o = r) && overS r o) (fun x => .str x) (fun x hx => by
      by_cases e : x = r
      · simp [↓bind_eq, gNe_ss, e]
      · simp [↓bind_eq, gNe_ss, e, r_law_over_2 hn (h r hr) (h x hx), D.truth]) (fun x hx _ => by simp) hl
  exact lcT (v := 11) (e := [s0, s1, s2, s3, s4, s5, s6, s7, .v (.tup (txs u)), s9, s10, .un, .un]) rfl u (fun r => !(u.any fun o => !decide (o = r) && overS r o)) (fun x => .str x) (fun r hr => by
      have c := gEq_lnil (a := u.filter fun o => !decide (o = r) && overS r o) (fun x hx => h.ok hn x (List.mem_filter.mp hx).1)
      rw [filter_nil_any] at c
      simp [↓bind_eq, iterD, in1 r hr, c]) (fun x hx _ => by simp) hl
/-- one turn -/
theorem turn {m : Nat} {o : Ob} (B : Bag m o) (hm : m + 100 < 2 ^ 40) {s1 s2 s3 s4 s5 s6 s7 s8 s9 : Sl} (h1 : isIoS s1 = false) (h2 : isIoS s2 = false) (h3 : isIoS s3 = false) (h4 : isIoS s4 = false) (h5 : isIoS s5 = false) (h6 : isIoS s6 = false) (h7 : isIoS s7 = false) (h8 : isIoS s8 = false) (h9 : isIoS s9 = false) :
    ∃ (o' : Ob) (d2 d3 d4 d5 d6 d7 d8 d9 : D), m_law_right_f1 [.io o, s1, s2, s3, s4, s5, s6, s7, s8, s9, .un, .un, .un] = .ok .nx [.io o', s1, .v d2, .v d3, .v d4, .v d5, .v d6, .v d7, .v d8, .v d9, .un, .un, .un] ∧ Bag (m + 50) o' := by
  obtain ⟨o1, r, q1, B1, hr⟩ := draw B (by omega) 4 (by decide) (by decide)
  replace q1 : Cm.m_law_draw [.io o, .v (.int 4)] = .ok (.int r) [.io o1, .v (.int 4)] := q1
  obtain ⟨o2, ms, q2, B2, M⟩ := marks_ok B1 (by omega) (1 + r) (by omega)
  have q2 : Cm.m_law_marks [.io o1, .v (.int (1 + (r : Int)))] = .ok (.tup (txs ms)) [.io o2, .v (.int (1 + (r : Int)))] := by
    have e : ((1 + r : Nat) : Int) = 1 + (r : Int) := by omega
    rw [e] at q2
    exact q2
  generalize hn' : 1 + r = n at M B2
  have hn : n ≤ 4 := by omega
  have h0 : 0 < n := by omega
  have lm : (txs ms).length = n := by rw [len_txs, M.1]
  obtain ⟨o3, lot, q3, B3, L⟩ := law_lot_ok B2 (by omega) hn
  have Lt : InR n (lot.take 2) := fun x hx => L.inR x (List.mem_of_mem_take hx)
  have q4 := law_risen_ok hn Lt (by have := L.len hn; simp; omega)
  have qs : gSl none (some 2) (.tup (txs lot)) = some (.tup (txs (lot.take 2))) := by rw [← take_txs]; exact gSl_to (txs lot) 2
  obtain ⟨o4, d, q5, B4, hd⟩ := one_lst B3 (by omega) [.tup (txs lot), .tup (txs (risenS n (lot.take 2))), .tup [], .tup (txs (rowsS n))] (by simp) (by simp)
  have hd2 : ∃ l2, d = .tup (txs l2) ∧ Lot n l2 := by
    simp only [List.mem_cons, List.mem_nil_iff, or_false] at hd
    rcases hd with rfl | rfl | rfl | rfl
    · exact ⟨lot, rfl, L⟩
    · exact ⟨_, rfl, risen_lot n _⟩
    · exact ⟨[], rfl, List.nil_sublist _⟩
    · exact ⟨rowsS n, rfl, List.Sublist.refl _⟩
  obtain ⟨l2, rfl, L2⟩ := hd2
  have hl2 := L2.len hn
  have q6 := law_risen_ok hn L2.inR (by omega)
  have q7 := gEq_tt (a := l2) (b := risenS n l2) (L2.inR.ok hn) ((risen_in n l2).ok hn)
  have q8 := is_rising_ok M hn h0 L2
  obtain ⟨S1, q9⟩ := gRepr_bb (decide (l2 = risenS n l2)) (decide (l2 = risenS n l2))
  obtain ⟨o5, k, q10, B5, hk⟩ := draw B4 (by omega) 5 (by decide) (by decide)
  replace q10 : Cm.m_law_draw [.io o4, .v (.int 5)] = .ok (.int k) [.io o5, .v (.int 5)] := q10
  obtain ⟨o6, sm, q11, B6, Ism, hsm⟩ := some_ok (s1 := s1) (s2 := .v (.tup (txs ms))) (s3 := .v (.int (n : Nat))) (s5 := .v (.tup (txs l2))) (s6 := .v (.bl (decide (l2 = risenS n l2)))) (s7 := s7) (s8 := s8) (s9 := s9) (s11 := .un) (s12 := .un) B5 (by omega) hn h0 k (by omega)
  have q12 := law_risen_ok hn Ism (by omega)
  have q13 := rising_ok M hn h0 Ism (by omega)
  have Lu := risen_lot n sm
  have hlu := Lu.len hn
  obtain ⟨S2, q14⟩ := gRepr_tt hn (risen_in n sm) (risen_in n sm) (by omega) (by omega)
  have q15 := least_ok hn (risen_in n sm) (by omega) (.io o6) s1 (.v (.tup (txs ms))) (.v (.int (n : Nat))) (.v (.lst (txs (rowsS n)))) (.v (.tup (txs l2))) (.v (.bl (decide (l2 = risenS n l2)))) (.v (.tup (txs sm))) s9 .un
  have idem : risenS n sm = risenS n (risenS n sm) := by
    have := up_iff hn Lu
    have z : ((risenS n sm).all fun r => !lackB n (risenS n sm) r) = true := by
      rw [List.all_eq_true]
      intro r hr
      unfold lackB
      rw [Bool.not_eq_true', Bool.eq_false_iff]
      intro q
      obtain ⟨x, hx, hq⟩ := List.any_eq_true.mp q
      simp only [Bool.and_eq_true, Bool.not_eq_true', decide_eq_false_iff_not] at hq
      obtain ⟨hr1, s, hs, ov⟩ := mem_risen.mp hr
      exact hq.2 (mem_risen.mpr ⟨hx, s, hs, g_trans n (four hn) x hx r hr1 hq.1 s (Ism s hs) ov⟩)
    rw [z] at this
    exact of_decide_eq_true this.symm
  have q16 := least_rows_ok M hn h0 Lu idem
  have Il : InR n (leastS (risenS n sm)) := fun x hx => risen_in n sm x (List.mem_filter.mp hx).1
  have hll : (leastS (risenS n sm)).length ≤ 16 := Nat.le_trans (List.length_filter_le _ _) hlu
  obtain ⟨S3, q17⟩ := gRepr_tt hn Il Il (by omega) (by omega)
  have q18 := rising_ok M hn h0 Il (by omega)
  rw [risen_least hn Ism] at q18
  have q19 := gNe_tt (a := risenS n sm) (b := risenS n sm) ((risen_in n sm).ok hn) ((risen_in n sm).ok hn)
  have q20 := lcT (v := 11) (e := [.io o6, s1, .v (.tup (txs ms)), .v (.int (n : Nat)), .v (.lst (txs (rowsS n))), .v (.tup (txs l2)), .v (.bl (decide (l2 = risenS n l2))), .v (.tup (txs sm)), .v (.tup (txs (risenS n sm))), .v (.tup (txs (leastS (risenS n sm)))), .un, .un, .un]) (mt := tB1 (x2 gNotIn (xVar 11) (xVar 7))) (me := xVar 11) rfl (leastS (risenS n sm)) (fun x => !decide (x ∈ sm)) (fun x => .str x)
    (fun x hx => by simp [↓bind_eq, gNotIn_t]) (fun x hx _ => by simp) (by omega)
  have q21 : (leastS (risenS n sm)).filter (fun x => !decide (x ∈ sm)) = [] := by
    rw [List.filter_eq_nil_iff]
    intro x hx
    have := least_some hn Ism x hx
    simp [this]
  rw [q21] at q20
  refine ⟨o6, .tup (txs ms), .int (n : Nat), .lst (txs (rowsS n)), .tup (txs l2), .bl (decide (l2 = risenS n l2)), .tup (txs sm), .tup (txs (risenS n sm)), .tup (txs (leastS (risenS n sm))), ?_, B6.mono (by omega)⟩
  have c0 := gNe_lnil (a := []) (fun x hx => (by cases hx))
  simp only [txs, List.map_nil] at c0
  simp [↓bind_eq, m_law_right_f1, h1, h2, h3, h4, h5, h6, h7, h8, h9, q1, q2, gLen, lm, r_law_rows hn, q3, isInt, qs, q4, gTuple, q5, q6, q7, q8, q9, gNe_ss, pick, q10, rngD_nat (show k ≤ 1000000000 by omega), q11, q12, q13, q14, iterD, q15, q16, q17, q18, q19, q20, c0]
theorem right_ok {o : Ob} (B : Bag 0 o) : ∃ e, m_law_right [.io o] = .ok (.bl true) e := by
  have key := forL_inv (mg := gSet 1) (mb := m_law_right_f1) (ds := rng 5)
    (fun i e => ∃ o s1 s2 s3 s4 s5 s6 s7 s8 s9, e = [.io o, s1, s2, s3, s4, s5, s6, s7, s8, s9, .un, .un, .un] ∧ Bag (50 * i) o ∧ isIoS s1 = false ∧ isIoS s2 = false ∧ isIoS s3 = false ∧ isIoS s4 = false ∧ isIoS s5 = false ∧ isIoS s6 = false ∧ isIoS s7 = false ∧ isIoS s8 = false ∧ isIoS s9 = false)
    (fun r => ∃ e, r = .ok .nx e)
    (fun i d e hd ⟨o, s1, s2, s3, s4, s5, s6, s7, s8, s9, he, B, h1, h2, h3, h4, h5, h6, h7, h8, h9⟩ => by
      subst he
      obtain ⟨hi, rfl⟩ := rng_get hd
      obtain ⟨o', d2, d3, d4, d5, d6, d7, d8, d9, q, B2⟩ := turn (s1 := .v (.int (i : Nat))) B (by omega) rfl h2 h3 h4 h5 h6 h7 h8 h9
      refine ⟨[.io o, .v (.int (i : Nat)), s2, s3, s4, s5, s6, s7, s8, s9, .un, .un, .un], by simp [h1], ?_⟩
      rw [q]
      exact ⟨o', _, _, _, _, _, _, _, _, _, rfl, B2.mono (by omega), rfl, rfl, rfl, rfl, rfl, rfl, rfl, rfl, rfl⟩)
    (fun e _ => ⟨e, rfl⟩) (e := [.io o, .un, .un, .un, .un, .un, .un, .un, .un, .un, .un, .un, .un]) ⟨o, _, _, _, _, _, _, _, _, _, rfl, B, rfl, rfl, rfl, rfl, rfl, rfl, rfl, rfl, rfl⟩
  obtain ⟨e, hr⟩ := key
  have hq := rngD_nat (k := 5) (by decide)
  replace hq : rngD 0 5 = some (rng 5) := hq
  refine ⟨mergeA [.io o] e, ?_⟩
  simp [↓bind_eq, m_law_right, m_law_right_b, mDef, hq, hr]
theorem good (ns : List Int) : ∃ e, m_law [.v (.fz (ns.map .int))] = .ok (.bl true) e := by
  obtain ⟨n, hn, e⟩ := turns ns 5 (by decide)
  have q := loop_ok (fun o B => right_ok B) ns n hn
  refine ⟨[.v (.fz (ns.map .int))], ?_⟩
  have e2 : rngD 0 (if (if (5 : Int) < (ns.length : Int) then (5 : Int) else (ns.length : Int)) > 2 then (if (5 : Int) < (ns.length : Int) then (5 : Int) else (ns.length : Int)) else 2) = some (rng n) := by
    have e := e
    rw [show ((5 : Nat) : Int) = 5 from rfl] at e
    rw [e]
    exact rngD_nat (by omega)
  simp only [gt_iff_lt] at e2
  simp [↓bind_eq, m_law, m_law_b, mDef, gLen, gII, e2, q, all_true]
end Lk07

set_option Elab.async false
set_option linter.all false
set_option maxRecDepth 100000
set_option maxHeartbeats 0
/-! the head of k07; printed by head.py -/
namespace Lk07
open PySem PySem.Spec PyProof.Rows Mi
abbrev R : PySem.W.OpenRow := PySem.W.OpenLaw.row PySem.Challenge.rw_wishesrise_k07_whole_rising_lots
abbrev hk : PySem.W.Hook := He.hookD 4 fa fn
def ob (s : PySem.W.SharedT) : He.AlD := He.obsDG 4 fa fn (HandSHeadRun.getT s)
theorem ob_eq (s : PySem.W.SharedT) : ob s = hk.obs s.abs := He.obsDG_eq (HandSHeadRun.getT_eq s)
def names : List PySem.Str := ([PySem.Str.ofString "ShapeError", PySem.Str.ofString "InvalidMarks", PySem.Str.ofString "InvalidRows", PySem.Str.ofString "InvalidLot", PySem.Str.ofString "NotRising", PySem.Str.ofString "MOST_NAME", PySem.Str.ofString "MOST_MARKS", PySem.Str.ofString "LETTERS", PySem.Str.ofString "SIGNS", PySem.Str.ofString "is_name", PySem.Str.ofString "wrong_mark", PySem.Str.ofString "check_marks", PySem.Str.ofString "all_rows", PySem.Str.ofString "is_row", PySem.Str.ofString "is_over", PySem.Str.ofString "wrong_in_lot", PySem.Str.ofString "check_lot", PySem.Str.ofString "lacking_row", PySem.Str.ofString "check_rising", PySem.Str.ofString "risen"] : List PySem.Str) ++ ([PySem.Str.ofString "least_of", PySem.Str.ofString "is_rising", PySem.Str.ofString "check_rows", PySem.Str.ofString "rising", PySem.Str.ofString "least_rows", PySem.Str.ofString "_law_bag", PySem.Str.ofString "_law_draw", PySem.Str.ofString "_law_one", PySem.Str.ofString "_law_marks", PySem.Str.ofString "_law_rows", PySem.Str.ofString "_law_over", PySem.Str.ofString "_law_lot", PySem.Str.ofString "_law_risen", PySem.Str.ofString "_law_right"] : List PySem.Str)
theorem run (w : World) : HandSHeadRun.RunEq R (PySem.W.view R.prog [38]) hk ob 20000 names w := by
  intro os
  kernel_rfl
theorem facts {P : Program} {w : World} {K : PySem.W.Frag} {h : Heap} {mg : Str → Option Value} {f : Addr} (X : K.In h) (G : h.Ns mainGlobals mg) (hfa : mg ("law" : Str) = some (.ref f)) (c : He.SaysD fa fn K) :
    ∃ fd : FuncData, (∀ (s : Shared) (v : Value), BindsTo s fd ⟨[v], []⟩ [("_law_script", v)]) ∧ ∀ base : Heap, K.In base → base.Ns mainGlobals mg → FnG P w K mg base 7 f fd ["_law_script"] (spM K 1 m_law) := by
  obtain ⟨fd, F⟩ := c.def_ 25 (d := d_law) rfl
  have e := hfa.symm.trans (He.glo_ok X G (c.fact 25 (f := .glo "law") rfl))
  cases e
  have b := L2.FunD.bindsA (ps := ["_law_script"]) F fun _ _ _ _ _ _ us hl => match us, hl with | [_], _ => rfl
  exact ⟨fd, fun s v => b s [v] rfl, fun base _ _ => ok_law X G c (fun_of_D F)⟩
end Lk07
open PySem PySem.W PySem.Calls PyProof.Rows
theorem Lk07.holds (good : ∀ ns : List Int, ∃ e, Lk07.m_law [.v (.fz (ns.map .int))] = .ok (.bl true) e) : PySem.Challenge.rw_wishesrise_k07_whole_rising_lots.Holds := by
  w_on; o_law
  refine HandSHeadRun.head_any (r := OpenLaw.row PySem.Challenge.rw_wishesrise_k07_whole_rising_lots) (q := view (OpenLaw.row PySem.Challenge.rw_wishesrise_k07_whole_rising_lots).prog [38]) (H := Lk07.hk) (ob := Lk07.ob) (M := 20000) (loose := Lk07.names) (d := HandSHeadRun.topDef (OpenLaw.row PySem.Challenge.rw_wishesrise_k07_whole_rising_lots).prog 38) (kwd := []) Lk07.ob_eq
    (by kernel_rfl) (fun s => by kernel_rfl) Lk07.run (by kernel_rfl) (by kernel_rfl) (by kernel_rfl) (by rfl) (by first | assumption | decide +kernel) (by decide +kernel) ⟨rfl, rfl, rfl, rfl, rfl, by decide +kernel⟩ ?hw ?hc
  case hw => w_witness2
  case hc =>
    refine Mi.walk_G (l := PySem.Challenge.rw_wishesrise_k07_whole_rising_lots) (n := 63) (k := 7) (x := "_law_script") (m := Lk07.m_law) rfl (by decide) (by kernel_rfl) ⟨rfl, by decide, by decide⟩ ?F good
    intro w mg fa h Y G hmg0
    obtain ⟨K, KX, c⟩ := Y
    have hmg : mg ("law" : PySem.Str) = some (.ref fa) := by
      have e : (HandSHeadRun.topDef (OpenLaw.row PySem.Challenge.rw_wishesrise_k07_whole_rising_lots).prog 38).name = ("law" : PySem.Str) := by kernel_rfl
      rw [← e]
      exact hmg0
    obtain ⟨fd, hb, hF⟩ := Lk07.facts (P := (PySem.Challenge.rw_wishesrise_k07_whole_rising_lots).prog) (w := w) KX G hmg c
    exact ⟨K, fd, KX, hb, hF⟩
theorem PySem.Challenge.cw_wishesrise_k07_whole_rising_lots_holds : PySem.Challenge.rw_wishesrise_k07_whole_rising_lots.Holds := by
  exact Lk07.holds Lk07.good
