import PyProof.Rows.All
import Wide.All
import OpenK.AllK
import Wide.FinOn
import HandS.ForMost
import HandS.HeadHook1
import HandS.ForExc
import HandS.WordsExc
import HandS.CallSlots
import HandS.Wide
import HandS.TupAny
import HandS.TupMul
import HandS.Flow
import HandS.Conv
import HandS.Text
import KE.KTupSum
import HandS.IsInst
import HandS.NoneIn
import HandS.Style
import HandS.Iter
import HandS.Zip
import HandS.Small
import HandS.Comp
import HandS.TupLen
import HandS.SortInts
import KE.GoesZip
import KE.GoesEnum
import HandS.DeepEq
import PyProof.ReprRoads
import HandS.Defaults
import HandS.Ends
import HandS.HeadEnd
import KE.SortData
import HandS.Property
import HandS.HeadHook2
import KE.KDictZip
import KE.KDictPairs
import HandS.WideBits
import OpenK.KOps
import HandS.DictComp
import HandS.FStr
import HandS.Head0
import HandS.Head1
import HandS.Head2
import PySem.Challenge.RW_wishesrise_k33_whole_most_hindering_lots
import KE.KStateDown
import Lean
set_option Elab.async false
set_option linter.all false
set_option maxRecDepth 100000
set_option maxHeartbeats 4000000
/-! Mi1: data trees, what they stand for in the abstract heap, environments of a mirror -/
namespace Mi
open PySem PySem.Spec L2
inductive Ky where
  | int (i : Int) | str (x : Str) | tup (xs : List Key)
  deriving DecidableEq
inductive D where
  | non | bl (b : Bool) | int (i : Int) | str (x : Str) | tup (xs : List D) | lst (xs : List D)
  | dct (t : Bool) (ks : List Ky) (vs : List D) | obj (c : Str) (ns : List Str) (vs : List D) | fz (xs : List D)
mutual
def D.same : D → D → Bool
  | .non, .non => true
  | .bl a, .bl b => a == b
  | .int a, .int b => decide (a = b)
  | .str a, .str b => decide (a = b)
  | .tup xs, .tup ys => D.sames xs ys
  | .lst xs, .lst ys => D.sames xs ys
  | .dct t ks vs, .dct u ls ws => (t == u) && decide (ks = ls) && D.sames vs ws
  | .obj c ns vs, .obj d ms ws => decide (c = d) && decide (ns = ms) && D.sames vs ws
  | .fz xs, .fz ys => D.sames xs ys
  | _, _ => false
def D.sames : List D → List D → Bool
  | [], [] => true
  | x :: xs, y :: ys => D.same x y && D.sames xs ys
  | _, _ => false
end
mutual
theorem D.same_refl : ∀ d : D, D.same d d = true
  | .non => rfl
  | .bl a => by simp [D.same]
  | .int a => by simp [D.same]
  | .str a => by simp [D.same]
  | .tup xs => by simp [D.same, D.sames_refl xs]
  | .lst xs => by simp [D.same, D.sames_refl xs]
  | .dct t ks vs => by simp [D.same, D.sames_refl vs]
  | .obj c ns vs => by simp [D.same, D.sames_refl vs]
  | .fz xs => by simp [D.same, D.sames_refl xs]
theorem D.sames_refl : ∀ ds : List D, D.sames ds ds = true
  | [] => rfl
  | d :: ds => by simp [D.sames, D.same_refl d, D.sames_refl ds]
end
mutual
theorem D.same_eq : ∀ d e : D, D.same d e = true → d = e
  | .non, e, h => by cases e <;> simp_all [D.same]
  | .bl a, e, h => by cases e <;> simp_all [D.same]
  | .int a, e, h => by cases e <;> simp_all [D.same]
  | .str a, e, h => by cases e <;> simp_all [D.same]
  | .tup xs, e, h => by
    cases e <;> simp [D.same] at h
    rw [D.sames_eq xs _ h]
  | .lst xs, e, h => by
    cases e <;> simp [D.same] at h
    rw [D.sames_eq xs _ h]
  | .dct t ks vs, e, h => by
    cases e <;> simp [D.same] at h
    rw [h.1.1, h.1.2, D.sames_eq vs _ h.2]
  | .obj c ns vs, e, h => by
    cases e <;> simp [D.same] at h
    rw [h.1.1, h.1.2, D.sames_eq vs _ h.2]
  | .fz xs, e, h => by
    cases e <;> simp [D.same] at h
    rw [D.sames_eq xs _ h]
theorem D.sames_eq : ∀ ds es : List D, D.sames ds es = true → ds = es
  | [], es, h => by cases es <;> simp_all [D.sames]
  | d :: ds, es, h => by
    cases es with
    | nil => simp [D.sames] at h
    | cons e es =>
      simp [D.sames] at h
      rw [D.same_eq d e h.1, D.sames_eq ds es h.2]
end
instance : DecidableEq D := fun a b => if h : D.same a b = true then .isTrue (D.same_eq a b h) else .isFalse fun e => h (by rw [e]; exact D.same_refl b)

/-! ### what a tree stands for -/
/-- the keys of a dict of ints and texts -/
def kyK : Ky → Option Key
  | .int i => some (.inl i)
  | .str x => some (.inr x)
  | .tup _ => none
/-- the keys of a dict of tuples -/
def kyT : Ky → Option (List Key)
  | .tup xs => some xs
  | _ => none
/-- a dict stands at a: its keys, its values -/
def DctAt (H : Hp) (t : Bool) (ks : List Ky) (xs : List V) (a : Addr) : Prop := match t with
  | false => ∃ kvs, H a = some (.dK kvs) ∧ ks.map kyK = kvs.map (fun p => some p.1) ∧ xs = kvs.map (·.2)
  | true => ∃ kvs, H a = some (.dT kvs) ∧ ks.map kyT = kvs.map (fun p => some p.1) ∧ xs = kvs.map (·.2)
theorem DctAt.some {H : Hp} {t : Bool} {ks : List Ky} {xs : List V} {a : Addr} (h : DctAt H t ks xs a) : ∃ o, H a = Option.some o := by
  cases t with
  | false => obtain ⟨kvs, h, _⟩ := h; exact ⟨_, h⟩
  | true => obtain ⟨kvs, h, _⟩ := h; exact ⟨_, h⟩
theorem DctAt.to {H H' : Hp} {t : Bool} {ks : List Ky} {xs : List V} {a : Addr} (h : DctAt H t ks xs a) (k : ∀ o, H a = Option.some o → H' a = Option.some o) : DctAt H' t ks xs a := by
  cases t with
  | false => obtain ⟨kvs, h, q⟩ := h; exact ⟨kvs, k _ h, q⟩
  | true => obtain ⟨kvs, h, q⟩ := h; exact ⟨kvs, k _ h, q⟩
/-- .. or a locked one -/
def DctR (H : Hp) (t : Bool) (ks : List Ky) (xs : List V) (a : Addr) : Prop := match t with
  | false => ∃ kvs, L2.Rd H a (.dK kvs) ∧ ks.map kyK = kvs.map (fun p => some p.1) ∧ xs = kvs.map (·.2)
  | true => ∃ kvs, L2.Rd H a (.dT kvs) ∧ ks.map kyT = kvs.map (fun p => some p.1) ∧ xs = kvs.map (·.2)
theorem DctAt.rd {H : Hp} {t : Bool} {ks : List Ky} {xs : List V} {a : Addr} (h : DctAt H t ks xs a) : DctR H t ks xs a := by
  cases t with
  | false => obtain ⟨kvs, h, q⟩ := h; exact ⟨kvs, .inl h, q⟩
  | true => obtain ⟨kvs, h, q⟩ := h; exact ⟨kvs, .inl h, q⟩
theorem rd_some {H : Hp} {a : Addr} {u : HO} (h : L2.Rd H a u) : ∃ o, H a = Option.some o := by
  rcases h with h | ⟨o, h⟩
  · exact ⟨_, h⟩
  · exact ⟨_, h⟩
theorem rd_to {H H' : Hp} {a : Addr} {u : HO} (h : L2.Rd H a u) (k : ∀ o, H a = Option.some o → H' a = Option.some o) : L2.Rd H' a u := by
  rcases h with h | ⟨o, h⟩
  · exact .inl (k _ h)
  · exact .inr ⟨o, k _ h⟩
theorem DctR.some {H : Hp} {t : Bool} {ks : List Ky} {xs : List V} {a : Addr} (h : DctR H t ks xs a) : ∃ o, H a = Option.some o := by
  cases t with
  | false => obtain ⟨kvs, h, _⟩ := h; exact rd_some h
  | true => obtain ⟨kvs, h, _⟩ := h; exact rd_some h
theorem DctR.to {H H' : Hp} {t : Bool} {ks : List Ky} {xs : List V} {a : Addr} (h : DctR H t ks xs a) (k : ∀ o, H a = Option.some o → H' a = Option.some o) : DctR H' t ks xs a := by
  cases t with
  | false => obtain ⟨kvs, h, q⟩ := h; exact ⟨kvs, rd_to h k, q⟩
  | true => obtain ⟨kvs, h, q⟩ := h; exact ⟨kvs, rd_to h k, q⟩
/-- a list that no one changes -/
def FzAt (K : PySem.W.Frag) (U : Addr → Prop) (H : Hp) (a : Addr) (xs : List V) : Prop := (∃ o, H a = some (.frz o (.lst xs)) ∧ ¬ U a) ∨ SqL K (fun _ => none) a xs
theorem FzAt.to {K : PySem.W.Frag} {U U' : Addr → Prop} {H H' : Hp} {a : Addr} {xs : List V} (hk : ∀ a o, ¬ U a → H a = some o → H' a = some o) (hu : ∀ a o, ¬ U a → H a = some o → ¬ U' a) (h : FzAt K U H a xs) : FzAt K U' H' a xs :=
  h.imp (fun ⟨o, h, n⟩ => ⟨o, hk _ _ n h, hu _ _ n h⟩) id
theorem FzAt.sq {K : PySem.W.Frag} {U : Addr → Prop} {H : Hp} {a : Addr} {xs : List V} (h : FzAt K U H a xs) : SqL K H a xs := by
  rcases h with ⟨o, h, _⟩ | h
  · exact .inl (.inr ⟨o, h⟩)
  · rcases h with h | h
    · rcases h with h | ⟨o, h⟩
      · cases h
      · cases h
    · exact .inr h
section
variable (K : PySem.W.Frag) (U : Addr → Prop) (H : Hp)
mutual
def Rep : D → V → Prop
  | .non, v => v = .non
  | .bl b, v => v = .bl b
  | .int i, v => v = .int i
  | .str x, v => v = .str x
  | .tup ds, v => ∃ a xs, v = .ref a ∧ (H a = some (.tup xs) ∧ ¬ U a) ∧ Reps ds xs
  | .lst ds, v => ∃ a xs, v = .ref a ∧ (H a = some (.lst xs) ∧ ¬ U a) ∧ Reps ds xs
  | .dct t ks ds, v => ∃ a xs, v = .ref a ∧ ¬ U a ∧ DctR H t ks xs a ∧ Reps ds xs
  | .obj c ns ds, v => ∃ a dx xs, v = .ref a ∧ ¬ U a ∧ H a = some (.ins (He.ga K c) dx (ns.zip xs)) ∧ ns.length = xs.length ∧ Reps ds xs
  | .fz ds, v => ∃ a xs, v = .ref a ∧ FzAt K U H a xs ∧ Reps ds xs
def Reps : List D → List V → Prop
  | [], xs => xs = []
  | d :: ds, xs => ∃ x r, xs = x :: r ∧ Rep d x ∧ Reps ds r
end
end
section
variable {K : PySem.W.Frag} {U U' : Addr → Prop} {H H' : Hp}
mutual
theorem Rep.to (hk : ∀ a o, ¬ U a → H a = some o → H' a = some o) (hu : ∀ a o, ¬ U a → H a = some o → ¬ U' a) : ∀ (d : D) (v : V), Rep K U H d v → Rep K U' H' d v
  | .non, _, h => h
  | .bl _, _, h => h
  | .int _, _, h => h
  | .str _, _, h => h
  | .tup ds, v, h => by
    obtain ⟨a, xs, e, ⟨h1, h3⟩, h2⟩ := h
    exact ⟨a, xs, e, ⟨hk _ _ h3 h1, hu _ _ h3 h1⟩, Reps.to hk hu ds xs h2⟩
  | .lst ds, v, h => by
    obtain ⟨a, xs, e, ⟨h1, h3⟩, h2⟩ := h
    exact ⟨a, xs, e, ⟨hk _ _ h3 h1, hu _ _ h3 h1⟩, Reps.to hk hu ds xs h2⟩
  | .dct t ks ds, v, h => by
    obtain ⟨a, xs, e, h3, h1, h2⟩ := h
    obtain ⟨o, ho⟩ := h1.some
    exact ⟨a, xs, e, hu _ _ h3 ho, h1.to fun o q => hk _ _ h3 q, Reps.to hk hu ds xs h2⟩
  | .obj c ns ds, v, h => by
    obtain ⟨a, dx, xs, e, h3, h1, hl, h2⟩ := h
    exact ⟨a, dx, xs, e, hu _ _ h3 h1, hk _ _ h3 h1, hl, Reps.to hk hu ds xs h2⟩
  | .fz ds, v, h => by
    obtain ⟨a, xs, e, h1, h2⟩ := h
    exact ⟨a, xs, e, h1.to hk hu, Reps.to hk hu ds xs h2⟩
theorem Reps.to (hk : ∀ a o, ¬ U a → H a = some o → H' a = some o) (hu : ∀ a o, ¬ U a → H a = some o → ¬ U' a) : ∀ (ds : List D) (xs : List V), Reps K U H ds xs → Reps K U' H' ds xs
  | [], _, h => h
  | d :: ds, xs, h => by
    obtain ⟨x, r, e, h1, h2⟩ := h
    exact ⟨x, r, e, Rep.to hk hu d x h1, Reps.to hk hu ds r h2⟩
end
end
end Mi

set_option Elab.async false
set_option linter.all false
set_option maxRecDepth 100000
set_option maxHeartbeats 4000000
/-! Mi2: environments, results, what an expression's mirror says -/
namespace Mi
open PySem PySem.Spec L2
/-- an object that one name alone holds -/
inductive Ob where
  | lst (xs : List D) | dct (t : Bool) (ks : List Ky) (vs : List D) | ins (c : Str) (ns : List Str) (vs : List D)
  deriving DecidableEq
/-- a slot: empty, a value, an object of its own, an object of its own that the caller sees -/
inductive Sl where
  | un | v (d : D) | ow (o : Ob) | io (o : Ob)
  deriving DecidableEq
def Sl.ob : Sl → Option Ob
  | .ow o => some o
  | .io o => some o
  | _ => none
abbrev En := List Sl
structure Exn where
  own : Bool
  cls : Str
  ns : List Str
  vs : List D
  deriving DecidableEq
inductive Rs (α : Type) where
  | ok (a : α) (env : En)
  | er (x : Exn) (env : En)
  | bad
  deriving DecidableEq
def Rs.bind {α β : Type} (r : Rs α) (f : α → En → Rs β) : Rs β := match r with
  | .ok a env => f a env
  | .er x env => .er x env
  | .bad => .bad
/-- from what may be undefined -/
def Rs.of {α : Type} (o : Option α) (env : En) : Rs α := match o with
  | some a => .ok a env
  | none => .bad
@[simp] theorem Rs.bind_ok {α β : Type} (a : α) (env : En) (f : α → En → Rs β) : (Rs.ok a env).bind f = f a env := rfl
@[simp] theorem Rs.bind_er {α β : Type} (x : Exn) (env : En) (f : α → En → Rs β) : (Rs.er x env).bind f = .er x env := rfl
@[simp] theorem Rs.bind_bad {α β : Type} (f : α → En → Rs β) : (Rs.bad : Rs α).bind f = .bad := rfl
@[simp] theorem Rs.of_some {α : Type} (a : α) (env : En) : Rs.of (some a) env = .ok a env := rfl
@[simp] theorem Rs.of_none {α : Type} (env : En) : Rs.of (none : Option α) env = .bad := rfl
theorem Rs.bind_assoc {α β γ : Type} (r : Rs α) (f : α → En → Rs β) (g : β → En → Rs γ) : (r.bind f).bind g = r.bind fun a e => (f a e).bind g := by cases r <;> rfl

/-- the addresses of the objects that the names hold by themselves -/
def Chg (env : En) (σ : St) (a : Addr) : Prop := ∃ (i : Nat) (s : Sl) (o : Ob), env[i]? = some s ∧ s.ob = some o ∧ σ[i]? = some (some (V.ref a))
def Ux (U : Addr → Prop) (env : En) (σ : St) (a : Addr) : Prop := U a ∨ Chg env σ a
def Gr (C : Addr → Prop) (H H' : Hp) : Prop := ∀ a o, ¬ C a → H a = some o → H' a = some o
theorem Gr.refl {C : Addr → Prop} {H : Hp} : Gr C H H := fun _ _ _ h => h
theorem Gr.of_same {C : Addr → Prop} {H H' : Hp} (s : Same H H') : Gr C H H' := fun a o _ h => s a o h
def RepO (K : PySem.W.Frag) (U : Addr → Prop) (H : Hp) : Ob → Addr → Prop
  | .lst ds, a => ∃ xs, H a = some (.lst xs) ∧ Reps K U H ds xs
  | .dct t ks ds, a => ∃ xs, DctAt H t ks xs a ∧ Reps K U H ds xs
  | .ins c ns ds, a => ∃ dx xs, H a = some (.ins (He.ga K c) dx (ns.zip xs)) ∧ ns.length = xs.length ∧ Reps K U H ds xs
theorem RepO.some {K : PySem.W.Frag} {U : Addr → Prop} {H : Hp} {o : Ob} {a : Addr} (h : RepO K U H o a) : ∃ u, H a = Option.some u := by
  cases o with
  | lst ds => obtain ⟨xs, h, _⟩ := h; exact ⟨_, h⟩
  | dct t ks ds => obtain ⟨xs, h, _⟩ := h; exact h.some
  | ins c ns ds => obtain ⟨dx, xs, h, _⟩ := h; exact ⟨_, h⟩
theorem RepO.to {K : PySem.W.Frag} {U U' : Addr → Prop} {H H' : Hp} {o : Ob} {a : Addr} (hk : ∀ a o, ¬ U a → H a = Option.some o → H' a = Option.some o) (hu : ∀ a o, ¬ U a → H a = Option.some o → ¬ U' a)
    (ha : ∀ o, H a = Option.some o → H' a = Option.some o) (h : RepO K U H o a) : RepO K U' H' o a := by
  cases o with
  | lst ds => obtain ⟨xs, h, r⟩ := h; exact ⟨xs, ha _ h, Reps.to hk hu _ _ r⟩
  | dct t ks ds => obtain ⟨xs, h, r⟩ := h; exact ⟨xs, h.to ha, Reps.to hk hu _ _ r⟩
  | ins c ns ds => obtain ⟨dx, xs, h, l, r⟩ := h; exact ⟨dx, xs, ha _ h, l, Reps.to hk hu _ _ r⟩
structure SA (K : PySem.W.Frag) (U : Addr → Prop) (env : En) (σ : St) (H : Hp) : Prop where
  len : env.length = σ.length
  al : ∀ a, U a → ∃ o, H a = some o
  nu : ∀ a, Chg env σ a → ¬ U a
  inj : ∀ (i j : Nat) (s t : Sl) (o p : Ob) (a : Addr), env[i]? = some s → s.ob = some o → env[j]? = some t → t.ob = some p → σ[i]? = some (some (V.ref a)) → σ[j]? = some (some (V.ref a)) → i = j
  val : ∀ (i : Nat) (d : D), env[i]? = some (Sl.v d) → ∃ v, σ[i]? = some (some v) ∧ Rep K (Ux U env σ) H d v
  ob : ∀ (i : Nat) (s : Sl) (o : Ob), env[i]? = some s → s.ob = some o → ∃ a, σ[i]? = some (some (V.ref a)) ∧ RepO K (Ux U env σ) H o a
section
variable {K : PySem.W.Frag} {U U' : Addr → Prop} {env env' env1 env2 : En} {σ σ' σ1 σ2 : St} {H H' H1 H2 : Hp}
theorem SA.alx (sa : SA K U env σ H) {a : Addr} (h : Ux U env σ a) : ∃ o, H a = some o := by
  rcases h with h | ⟨i, s, o, h1, h2, h3⟩
  · exact sa.al a h
  · obtain ⟨b, h4, r⟩ := sa.ob i s o h1 h2
    rw [h3] at h4
    cases h4
    exact r.some
theorem SA.fresh (sa : SA K U env σ H) {p : Addr} (h : H p = none) : ¬ Ux U env σ p := fun q => by
  obtain ⟨o, e⟩ := sa.alx q
  rw [h] at e
  cases e
/-- new objects beside what stood -/
theorem SA.same (sa : SA K U env σ H) (s : Same H H') : SA K U env σ H' where
  len := sa.len
  al := fun a h => by
    obtain ⟨o, e⟩ := sa.al a h
    exact ⟨o, s a o e⟩
  nu := sa.nu
  inj := sa.inj
  val := fun i d h => by
    obtain ⟨v, e, r⟩ := sa.val i d h
    exact ⟨v, e, Rep.to (fun a o _ q => s a o q) (fun a o n _ => n) d v r⟩
  ob := fun i s' o h1 h2 => by
    obtain ⟨a, e, r⟩ := sa.ob i s' o h1 h2
    exact ⟨a, e, RepO.to (fun a o _ q => s a o q) (fun a o n _ => n) (fun o q => s a o q) r⟩
/-- from one state to another: what was not ours alone stands, objects of our own are the old ones or new, the caller's stay in their slots -/
structure Ste (K : PySem.W.Frag) (U : Addr → Prop) (env : En) (σ : St) (H : Hp) (env' : En) (σ' : St) (H' : Hp) : Prop where
  sa : SA K U env' σ' H'
  gr : Gr (Chg env σ) H H'
  fr : ∀ a, Chg env' σ' a → Chg env σ a ∨ H a = none
  io : ∀ (i : Nat) (o : Ob), env[i]? = some (Sl.io o) → ∃ o' : Ob, env'[i]? = some (Sl.io o') ∧ σ'[i]? = σ[i]?
theorem Ste.refl (sa : SA K U env σ H) : Ste K U env σ H env σ H := ⟨sa, .refl, fun _ h => .inl h, fun _ o h => ⟨o, h, rfl⟩⟩
theorem Ste.trans (a : Ste K U env σ H env1 σ1 H1) (b : Ste K U env1 σ1 H1 env2 σ2 H2) : Ste K U env σ H env2 σ2 H2 where
  sa := b.sa
  gr := fun x o n h => b.gr x o (fun c => (a.fr x c).elim n fun z => by rw [h] at z; cases z) (a.gr x o n h)
  fr := fun x c => by
    rcases b.fr x c with q | q
    · exact a.fr x q
    · by_cases n : Chg env σ x
      · exact .inl n
      · refine .inr ?_
        cases e : H x with
        | none => rfl
        | some o =>
          rw [a.gr x o n e] at q
          cases q
  io := fun i o h => by
    obtain ⟨o1, h1, e1⟩ := a.io i o h
    obtain ⟨o2, h2, e2⟩ := b.io i o1 h1
    exact ⟨o2, h2, e2.trans e1⟩
theorem Ste.same (a : Ste K U env σ H env1 σ1 H1) (s : Same H1 H2) : Ste K U env σ H env1 σ1 H2 :=
  a.trans ⟨a.sa.same s, .of_same s, fun _ c => .inl c, fun _ o h => ⟨o, h, rfl⟩⟩
/-- what was a value of ours before is one behind it -/
theorem Ste.rep (a : Ste K U env σ H env1 σ1 H1) (sa : SA K U env σ H) {d : D} {v : V} (r : Rep K (Ux U env σ) H d v) : Rep K (Ux U env1 σ1) H1 d v :=
  Rep.to (fun x o n h => a.gr x o (fun c => n (.inr c)) h) (fun x o n h q => q.elim (fun z => n (.inl z)) fun c => (a.fr x c).elim (fun z => n (.inr z)) fun z => by rw [h] at z; cases z) d v r
theorem Ste.reps (a : Ste K U env σ H env1 σ1 H1) (sa : SA K U env σ H) {d : List D} {v : List V} (r : Reps K (Ux U env σ) H d v) : Reps K (Ux U env1 σ1) H1 d v :=
  Reps.to (fun x o n h => a.gr x o (fun c => n (.inr c)) h) (fun x o n h q => q.elim (fun z => n (.inl z)) fun c => (a.fr x c).elim (fun z => n (.inr z)) fun z => by rw [h] at z; cases z) d v r
end
/-- how an exception lies -/
def ExR (K : PySem.W.Frag) (U : Addr → Prop) (H : Hp) (x : Exn) (cls : Value) (dd : Option Addr) : Prop :=
  cls = (if x.own then .ref (He.ga K x.cls) else .type x.cls.toString) ∧
    (x.ns = [] ∧ dd = none ∨ ∃ a xs, dd = some a ∧ H a = some (.xd (x.ns.zip xs)) ∧ x.ns.length = xs.length ∧ Reps K U H x.vs xs)
/-- what a result of a mirror asks; RL: how its value and the state's lie -/
def Po {α β : Type} (RL : (Addr → Prop) → St → Hp → α → β → Prop) (K : PySem.W.Frag) (W : WX) (U : Addr → Prop) (env : En) (σ : St) (H : Hp) (r : Rs α) (Q : β → Hp → Prop) : Prop := match r with
  | .ok d env' => ∀ v H', Ste K U env σ H env' σ H' → RL (Ux U env' σ) σ H' d v → Q v H'
  | .er x env' => ∀ cls dd H', Ste K U env σ H env' σ H' → ExR K (Ux U env' σ) H' x cls dd → W cls dd σ H'
  | .bad => False
section
variable {α β γ δ : Type} {R1 : (Addr → Prop) → St → Hp → α → β → Prop} {R2 : (Addr → Prop) → St → Hp → γ → δ → Prop} {K : PySem.W.Frag} {W : WX} {U : Addr → Prop} {env env1 : En} {σ : St} {H H1 : Hp}
theorem Po.shift {r : Rs γ} {Q : δ → Hp → Prop} (a : Ste K U env σ H env1 σ H1) (h : Po R2 K W U env σ H r Q) : Po R2 K W U env1 σ H1 r Q := by
  cases r with
  | ok d e => exact fun v H' b q => h v H' (a.trans b) q
  | er x e => exact fun c d H' b q => h c d H' (a.trans b) q
  | bad => exact h
/-- a first part, then the rest -/
theorem Po.step {r : Rs α} {f : α → En → Rs γ} {Q : δ → Hp → Prop} {Q1 : β → Hp → Prop} (h : Po R2 K W U env σ H (r.bind f) Q)
    (k : ∀ v H1 d env1, Ste K U env σ H env1 σ H1 → R1 (Ux U env1 σ) σ H1 d v → Po R2 K W U env1 σ H1 (f d env1) Q → Q1 v H1) : Po R1 K W U env σ H r Q1 := by
  cases r with
  | ok d e => exact fun v H' a q => k v H' d e a q (Po.shift a h)
  | er x e => exact h
  | bad => exact h
theorem Po.of_ok {a : γ} {Q : δ → Hp → Prop} (h : Po R2 K W U env σ H (.ok a env) Q) (sa : SA K U env σ H) {v : δ} {H' : Hp} (s : Same H H') (r : R2 (Ux U env σ) σ H' a v) : Q v H' := h v H' ((Ste.refl sa).same s) r
end
/-! ### judgements -/
def RD (K : PySem.W.Frag) : (Addr → Prop) → St → Hp → D → V → Prop := fun U _ H d v => Rep K U H d v
def RB : (Addr → Prop) → St → Hp → Bool → Bool → Prop := fun _ _ _ b c => c = b
def RDs (K : PySem.W.Frag) : (Addr → Prop) → St → Hp → List D → List V → Prop := fun U _ H d v => Reps K U H d v
/-- arguments: values, and slots whose objects are handed on -/
def RAr (K : PySem.W.Frag) (U : Addr → Prop) (σ : St) (H : Hp) : List (D ⊕ Nat) → List V → Prop
  | [], vs => vs = []
  | .inl d :: r, vs => ∃ x t, vs = x :: t ∧ Rep K U H d x ∧ RAr K U σ H r t
  | .inr i :: r, vs => ∃ x t, vs = x :: t ∧ σ[i]? = some (some x) ∧ RAr K U σ H r t
def tM {α β : Type} (RL : (Addr → Prop) → St → Hp → α → β → Prop) (K : PySem.W.Frag) (W : WX) (m : En → Rs α) : St → Hp → (β → Hp → Prop) → Prop := fun σ H Q => ∃ U env, SA K U env σ H ∧ Po RL K W U env σ H (m env) Q
abbrev tE (K : PySem.W.Frag) (W : WX) (m : En → Rs D) : TE := tM (RD K) K W m
abbrev tT (K : PySem.W.Frag) (W : WX) (m : En → Rs Bool) : TT := tM RB K W m
abbrev tR (K : PySem.W.Frag) (W : WX) (m : En → Rs (List (D ⊕ Nat))) : TA := tM (RAr K) K W m
abbrev tA (K : PySem.W.Frag) (W : WX) (m : En → Rs (List D)) : TA := tM (RDs K) K W m
/-- the expression e of the context X has the mirror m -/
abbrev Ev (X : Cx) (W : WX) (e : Expr) (m : En → Rs D) : Prop := PE X e (tE X.K W m)
abbrev EvT (X : Cx) (W : WX) (e : Expr) (m : En → Rs Bool) : Prop := PT X e (tT X.K W m)
abbrev EvR (X : Cx) (W : WX) (es : List Expr) (m : En → Rs (List (D ⊕ Nat))) : Prop := PA X es (tR X.K W m)
abbrev EvA (X : Cx) (W : WX) (es : List Expr) (m : En → Rs (List D)) : Prop := PA X es (tA X.K W m)
theorem PE_imp {X : Cx} {e : Expr} {t t' : TE} (h : PE X e t) (k : ∀ σ H Q, t' σ H Q → t σ H Q) : PE X e t' := ⟨fun pins s σ H Q I q => h.run pins s σ H Q I (k σ H Q q)⟩
theorem PT_imp {X : Cx} {e : Expr} {t t' : TT} (h : PT X e t) (k : ∀ σ H Q, t' σ H Q → t σ H Q) : PT X e t' := ⟨fun pins s σ H Q I q => h.run pins s σ H Q I (k σ H Q q)⟩
theorem PW_imp {X : Cx} {e : Expr} {t t' : TT} (h : PW X e t) (k : ∀ σ H Q, t' σ H Q → t σ H Q) : PW X e t' := ⟨fun w pins s σ H Q I q => h.run w pins s σ H Q I (k σ H Q q)⟩
theorem PA_imp {X : Cx} {e : List Expr} {t t' : TA} (h : PA X e t) (k : ∀ σ H Q, t' σ H Q → t σ H Q) : PA X e t' := ⟨fun pos pins s σ H Q I q => h.run pos pins s σ H Q I (k σ H Q q)⟩
theorem PS_imp {X : Cx} {e : Stmt} {t t' : TS} (h : PS X e t) (k : ∀ D σ H, t' D σ H → t D σ H) : PS X e t' := ⟨fun pins s σ H D I q => h.run pins s σ H D I (k D σ H q)⟩
theorem PSs_imp {X : Cx} {e : List Stmt} {t t' : TS} (h : PSs X e t) (k : ∀ D σ H, t' D σ H → t D σ H) : PSs X e t' := ⟨fun pins s σ H D I q => h.run pins s σ H D I (k D σ H q)⟩
end Mi

set_option Elab.async false
set_option linter.all false
set_option maxRecDepth 100000
set_option maxHeartbeats 4000000
/-! Mi3: defs, their promises, calls -/
namespace Mi
open PySem PySem.Spec L2
/-! ### a def that is walked where no repr is under way -/
structure FnG (P : Program) (w : World) (K : PySem.W.Frag) (mg : Str → Option Value) (base : Heap) (k : Nat) (f : Addr) (fd : FuncData) (ps : List Str) (sp : Sp) : Prop where
  len : ∀ vs H Q E, sp vs H Q E → vs.length = ps.length
  run : ∀ (A : Around) (outer : List PySem.Env) (s : Shared) (H : Hp) (args : Args) (us : List Value) (vs : List V) (Q : VK) (E : XK), Room k A → A.guards = some [] →
    Env0 P w K mg base A outer s H → BindsTo s fd args (ps.zip us) → Vals vs us → sp vs H Q E → codeAny (model P w) A (.call (.ref f) args) (CR (L2.CX P w) outer P w H s Q E) s
theorem FnG.of {P : Program} {w : World} {K : PySem.W.Frag} {mg : Str → Option Value} {base : Heap} {k : Nat} {f : Addr} {fd : FuncData} {ps : List Str} {sp : Sp} (F : FnOk P w K mg base (L2.CX P w) k f fd ps sp) : FnG P w K mg base k f fd ps sp :=
  ⟨F.len, fun A outer s H args us vs Q E hr _ e0 hb r h => F.run A outer s H args us vs Q E hr e0 hb r h⟩
theorem FnG.mono {P : Program} {w : World} {K : PySem.W.Frag} {mg : Str → Option Value} {base : Heap} {j k : Nat} {f : Addr} {fd : FuncData} {ps : List Str} {sp : Sp} (F : FnG P w K mg base j f fd ps sp) (h : j ≤ k) : FnG P w K mg base k f fd ps sp :=
  ⟨F.len, fun A outer s H args us vs Q E hr hg e0 hb r q => F.run A outer s H args us vs Q E (hr.mono h) hg e0 hb r q⟩
theorem FnG.imp {P : Program} {w : World} {K : PySem.W.Frag} {mg : Str → Option Value} {base : Heap} {k : Nat} {f : Addr} {fd : FuncData} {ps : List Str} {sp sp' : Sp} (F : FnG P w K mg base k f fd ps sp)
    (h : ∀ vs H Q E, sp' vs H Q E → sp vs H Q E) : FnG P w K mg base k f fd ps sp' :=
  ⟨fun vs H Q E z => F.len vs H Q E (h vs H Q E z), fun A outer s H args us vs Q E hr hg e0 hb r q => F.run A outer s H args us vs Q E hr hg e0 hb r (h vs H Q E q)⟩
/-- what a body's context is known to have -/
structure Co (X : Cx) (k : Nat) : Prop where
  hr : Room k X.A
  hg : X.A.guards = some []
  calm : X.calm = true
theorem Co.mono {X : Cx} {j k : Nat} (c : Co X k) (h : j ≤ k) : Co X j := ⟨c.hr.mono h, c.hg, c.calm⟩
theorem fnG_of {P : Program} {w : World} {K : PySem.W.Frag} {mg : Str → Option Value} {base : Heap} {x qual : Str} {st : Stmt} {f : Addr} {fd : FuncData} {N ps : List Str} {k : Nat} {sp : Sp} (F : Fun K x qual st f fd) (S : FnScope N ps (defScope st))
    (len : ∀ vs H Q E, sp vs H Q E → vs.length = ps.length)
    (hbody : ∀ (cdv : Value) (A : Around) (outer : List PySem.Env) (s : Shared) (H : Hp) (vs : List V) (Q : VK) (E : XK), Co (cxOf (L2.CX P w) P w K mg base N qual (defScope st) f cdv A outer s H E) k → sp vs H Q E →
      ∃ t, PSs (cxOf (L2.CX P w) P w K mg base N qual (defScope st) f cdv A outer s H E) (defBody st) t ∧ t { nx := fun _ H' => Q .non H', rt := Q } (start N vs) H) : FnG P w K mg base (k + 1) f fd ps sp := by
  obtain ⟨oc, od, kV, doc, pm, an, cdv, ct, osl, rfl, lk, hcd⟩ := F.ex
  refine ⟨len, fun A outer s H args us vs Q E hr hgd e0 hb r hsp => ?_⟩
  have hl := len _ _ _ _ hsp
  have KX : K.In s.heap := e0.mod.kin.keeps fun b o e => (e0.bs b o e).1
  have lim : s.heap.NoLimit := e0.mod.nolimit.keeps fun b o e => (e0.bs b o e).1
  refine codeAny_call_function hr.depth (KX _ _ lk) rfl S.co S.gen rfl (PySem.W.codeRec_of KX hcd) (hb _ _ _ _ ?_)
  refine wpAny_newFunctionEnv_cells S.kind (fun ⟨n, v⟩ hy => ?_) fun env he s1 x => ?_
  · rcases S.par n (List.of_mem_zip hy).1 with q | q
    · exact .inl q
    · exact .inr ⟨q, PySem.W.cellsFrom_some _ _ _ (.inl q)⟩
  subst he
  refine ⟨lim.keeps x.toInCall.keep, codeAny_func ?_⟩
  have co : Co (cxOf (L2.CX P w) P w K mg base N qual (defScope st) f cdv A outer s H E) k := ⟨hr.deeper _, hgd, rfl⟩
  obtain ⟨t, ht, hq⟩ := hbody cdv A outer s H vs Q E co hsp
  refine wpAny_mono (ht.run [] s1 (start N vs) H _ (inv_start S hr.hd e0 hl r x) hq) (fun fl s' hs => ?_) fun e s' hs => hs
  cases fl with
  | ret u =>
    obtain ⟨v, σ', H', J, rv, q⟩ := hs
    exact ⟨v, H', J.os, J.bare, J.base, J.hok, rv, q⟩
  | next =>
    obtain ⟨σ', H', J, q⟩ := hs
    exact ⟨V.non, H', J.os, J.bare, J.base, J.hok, rfl, q⟩
  | brk => exact hs.elim fun _ h => h.elim fun _ h => h.2.elim
  | cont => exact hs.elim fun _ h => h.elim fun _ h => h.2.elim
/-- the call of a def by its address -/
theorem runG {X : Cx} {W : WX} {k : Nat} {f : Addr} {fd : FuncData} {ps : List Str} {sp : Sp} {dvs : List V} {ds : List Value} {pins : List (Addr × Obj)} {σ : St} {H : Hp} {s : Shared} {Q : VK} {us : List Value} {vs : List V}
    (F : FnG X.prog X.w X.K X.mg X.base k f fd ps sp) (c : Co X k) (hb : Binds X.K fd ps ds) (hd : Vals dvs ds) (tk : Takes X W) (I : Inv X pins σ H s) (r : Vals vs us)
    (h : sp (vs ++ dvs) H Q fun cls d H' => W cls d σ H') : wpAny (model X.prog X.w) X.A (call (.ref f) us) (EP X pins σ Q) X.xe s := by
  have r2 : Vals (vs ++ dvs) (us ++ ds) := r.append hd
  have hl : (us ++ ds).length = ps.length := r2.length.symm.trans (F.len _ _ _ _ h)
  refine wpAny_call (codeAny_mono (F.run X.A X.stack s H ⟨us, []⟩ _ _ Q _ c.hr c.hg I.env0 (hb s us I.kIn hl) r2 h) fun r s' hq => ?_)
  cases r with
  | error e => exact tk e s' (XE.of_call I (fun _ _ _ z => z) hq)
  | ok fl =>
    cases fl with
    | ret u => exact I.after hq
    | next => exact False.elim hq
    | brk => exact False.elim hq
    | cont => exact False.elim hq
def tCG (sp : Sp) (dvs : List V) (W : WX) (t : TA) : TE := fun σ H Q => t σ H fun vs H1 => sp (vs ++ dvs) H1 Q fun cls d H' => W cls d σ H'
section
variable {X : Cx} {W : WX} {k : Nat} {f : Addr} {fd : FuncData} {ps : List Str} {sp : Sp} {dvs : List V} {ds : List Value} {x : Str} {p pos : Pos} {e : Expr} {es : List Expr} {t : TA}
theorem pe_cg (F : FnG X.prog X.w X.K X.mg X.base k f fd ps sp) (c : Co X k) (tk : Takes X W) (hm : X.mg x = some (.ref f)) (hk : PySem.W.keepIn X.K (.ref f) = true) (hb : Binds X.K fd ps ds) (hd : Vals dvs ds)
    (ha : PA X (e :: es) t) (hg : Gl X x) (hdb : (x == ("__debug__" : Str)) = false) (he : starEach (e :: es) X.env = (false, eval e X.env) :: starEach es X.env) (hpl : (backTo pos (starEach es X.env)).any (·.1) = false) :
    PE X (.Call (.Name x p) (e :: es) [] pos) (tCG sp dvs W t) := by
  refine ⟨fun pins s σ H Q I h => ?_⟩
  refine wpAny_Call_Name_kw (ld_glob I hg hm ?_ hdb)
  refine PySem.W.callWith_K (h₀ := X.base) I.ok.mod.kin hk (thn (ha.run pos pins s σ H _ I h) fun us s1 ⟨vs, H1, I1, r, q⟩ => ⟨I1.kIn, ?_⟩) he hpl
  exact runG F c hb hd tk I1 r q
theorem pe_cg0 (F : FnG X.prog X.w X.K X.mg X.base k f fd ps sp) (c : Co X k) (tk : Takes X W) (hm : X.mg x = some (.ref f)) (hk : PySem.W.keepIn X.K (.ref f) = true) (hb : Binds X.K fd ps ds) (hd : Vals dvs ds)
    (hg : Gl X x) (hdb : (x == ("__debug__" : Str)) = false) : PE X (.Call (.Name x p) [] [] pos) (tCG sp dvs W tNil) := by
  refine ⟨fun pins s σ H Q I h => ?_⟩
  refine wpAny_Call_Name_kw (ld_glob I hg hm ?_ hdb)
  exact PySem.W.callWith_K0 I.kIn hk (runG (us := []) F c hb hd tk I .nil h)
end
end Mi

set_option Elab.async false
set_option linter.all false
set_option maxRecDepth 100000
set_option maxHeartbeats 4000000
/-! Mi4: statements' mirrors; the promise of a mirror; a def keeps it; its calls -/
namespace Mi
open PySem PySem.Spec L2
inductive Fl where
  | nx | bk | ct | rt (d : D)
/-- what a statement's result asks -/
def PoF (K : PySem.W.Frag) (Dn : Ends) (U : Addr → Prop) (fl : Fl) (env' : En) (σ' : St) (H' : Hp) : Prop := match fl with
  | .nx => Dn.nx σ' H'
  | .bk => Dn.bk σ' H'
  | .ct => Dn.ct σ' H'
  | .rt d => ∀ v, Rep K (Ux U env' σ') H' d v → Dn.rt v H'
def PoS (K : PySem.W.Frag) (W : WX) (U : Addr → Prop) (env : En) (σ : St) (H : Hp) (r : Rs Fl) (Dn : Ends) : Prop := match r with
  | .ok fl env' => ∀ σ' H', Ste K U env σ H env' σ' H' → PoF K Dn U fl env' σ' H'
  | .er x env' => ∀ cls dd σ' H', Ste K U env σ H env' σ' H' → ExR K (Ux U env' σ') H' x cls dd → W cls dd σ' H'
  | .bad => False
def tS (K : PySem.W.Frag) (W : WX) (m : En → Rs Fl) : TS := fun Dn σ H => ∃ U env, SA K U env σ H ∧ PoS K W U env σ H (m env) Dn
abbrev EvS (X : Cx) (W : WX) (s : Stmt) (m : En → Rs Fl) : Prop := PS X s (tS X.K W m)
abbrev EvSs (X : Cx) (W : WX) (s : List Stmt) (m : En → Rs Fl) : Prop := PSs X s (tS X.K W m)
section
variable {K : PySem.W.Frag} {W : WX} {U : Addr → Prop} {env env1 : En} {σ σ1 : St} {H H1 : Hp}
theorem PoS.shift {r : Rs Fl} {Dn : Ends} (a : Ste K U env σ H env1 σ1 H1) (h : PoS K W U env σ H r Dn) : PoS K W U env1 σ1 H1 r Dn := by
  cases r with
  | ok d e => exact fun s' H' b => h s' H' (a.trans b)
  | er x e => exact fun c d s' H' b q => h c d s' H' (a.trans b) q
  | bad => exact h
/-- an expression, then the statement's rest -/
theorem PoS.step {α β : Type} {R1 : (Addr → Prop) → St → Hp → α → β → Prop} {r : Rs α} {f : α → En → Rs Fl} {Dn : Ends} {Q1 : β → Hp → Prop} (h : PoS K W U env σ H (r.bind f) Dn)
    (k : ∀ v H1 d env1, Ste K U env σ H env1 σ H1 → R1 (Ux U env1 σ) σ H1 d v → PoS K W U env1 σ H1 (f d env1) Dn → Q1 v H1) : Po R1 K W U env σ H r Q1 := by
  cases r with
  | ok d e => exact fun v H' a q => k v H' d e a q (PoS.shift a h)
  | er x e => exact fun c d H' a q => h c d σ H' a q
  | bad => exact h
end
def mSeq (m n : En → Rs Fl) : En → Rs Fl := fun env => (m env).bind fun fl env1 => match fl with
  | .nx => n env1
  | fl => .ok fl env1
def mNx : En → Rs Fl := fun env => .ok .nx env
section
variable {X : Cx} {W : WX} {st : Stmt} {rest : List Stmt} {m n : En → Rs Fl}
theorem es_nil : EvSs X W [] mNx := PSs_imp pss_nil fun Dn σ H ⟨U, env, sa, po⟩ => po σ H (.refl sa)
theorem es_one (h : EvS X W st m) : EvSs X W [st] m := pss_one h
theorem es_cons (h1 : EvS X W st m) (h2 : EvSs X W rest n) : EvSs X W (st :: rest) (mSeq m n) := by
  refine PSs_imp (pss_cons h1 h2) fun Dn σ H ⟨U, env, sa, po⟩ => ⟨U, env, sa, ?_⟩
  unfold mSeq at po
  cases hm : m env with
  | bad => rw [hm] at po; exact po
  | er x e => rw [hm] at po; exact po
  | ok fl e =>
    rw [hm] at po
    cases fl with
    | nx => exact fun σ' H' a => ⟨U, e, a.sa, PoS.shift a po⟩
    | bk => exact po
    | ct => exact po
    | rt d => exact po
end
/-! ### the promise -/
def Sl.arg : Sl → Bool
  | .v _ => true
  | .io _ => true
  | _ => false
def spM (K : PySem.W.Frag) (n : Nat) (m : En → Rs D) : Sp := fun vs H Q E => ∃ U args, vs.length = n ∧ SA K U args (vs.map some) H ∧ (∀ s ∈ args, s.arg = true) ∧ Po (RD K) K (fun c d _ H' => E c d H') U args (vs.map some) H (m args) Q
def mergeA : En → En → En
  | .io _ :: r, .io o :: t => .io o :: mergeA r t
  | a :: r, _ :: t => a :: mergeA r t
  | r, [] => r
  | [], _ => []
theorem mergeA_nil (a : En) : mergeA a [] = a := by
  cases a with
  | nil => rfl
  | cons s r => cases s <;> rfl
def mDef (n N : Nat) (mb : En → Rs Fl) : En → Rs D := fun args => match mb (args ++ List.replicate (N - n) .un) with
  | .ok (.rt d) env => .ok d (mergeA args env)
  | .ok .nx env => .ok .non (mergeA args env)
  | .ok _ _ => .bad
  | .er x env => .er x (mergeA args env)
  | .bad => .bad
section
variable {K : PySem.W.Frag} {U : Addr → Prop} {args env' : En} {σ0 σ' : St} {H H' : Hp} {n : Nat}
theorem get_pad {α : Type} {l : List α} {x y : α} {n i : Nat} (h : (l ++ List.replicate n x)[i]? = some y) : l[i]? = some y ∨ (y = x ∧ l.length ≤ i) := by
  by_cases hi : i < l.length
  · rw [List.getElem?_append_left hi] at h
    exact .inl h
  · rw [List.getElem?_append_right (Nat.le_of_not_lt hi)] at h
    exact .inr ⟨(List.mem_replicate.mp (List.mem_of_getElem? h)).2, Nat.le_of_not_lt hi⟩
theorem get_padr {α : Type} {l : List α} {x y : α} {n i : Nat} (h : l[i]? = some y) : (l ++ List.replicate n x)[i]? = some y := by
  have hi := (List.getElem?_eq_some_iff.mp h).1
  rw [List.getElem?_append_left hi]
  exact h
theorem chg_pad (hl : args.length = σ0.length) (a : Addr) : Chg (args ++ List.replicate n .un) (σ0 ++ List.replicate n none) a ↔ Chg args σ0 a := by
  constructor
  · rintro ⟨i, s, o, h1, h2, h3⟩
    rcases get_pad h1 with h1 | ⟨e, _⟩
    · rcases get_pad h3 with h3 | ⟨e, _⟩
      · exact ⟨i, s, o, h1, h2, h3⟩
      · cases e
    · subst e
      cases h2
  · rintro ⟨i, s, o, h1, h2, h3⟩
    exact ⟨i, s, o, get_padr h1, h2, get_padr h3⟩
theorem ux_pad (hl : args.length = σ0.length) (a : Addr) : Ux U (args ++ List.replicate n .un) (σ0 ++ List.replicate n none) a ↔ Ux U args σ0 a := or_congr_right (chg_pad hl a)
theorem SA.pad (sa : SA K U args σ0 H) : SA K U (args ++ List.replicate n .un) (σ0 ++ List.replicate n none) H where
  len := by rw [List.length_append, List.length_append, sa.len, List.length_replicate, List.length_replicate]
  al := sa.al
  nu := fun a c => sa.nu a ((chg_pad sa.len a).mp c)
  inj := fun i j s t o p a h1 h2 h3 h4 h5 h6 => by
    rcases get_pad h1 with h1 | ⟨e, _⟩
    · rcases get_pad h3 with h3 | ⟨e, _⟩
      · rcases get_pad h5 with h5 | ⟨e, _⟩
        · rcases get_pad h6 with h6 | ⟨e, _⟩
          · exact sa.inj i j s t o p a h1 h2 h3 h4 h5 h6
          · cases e
        · cases e
      · subst e; cases h4
    · subst e; cases h2
  val := fun i d h => by
    rcases get_pad h with h | ⟨e, _⟩
    · obtain ⟨v, e, r⟩ := sa.val i d h
      exact ⟨v, get_padr e, Rep.to (fun a o _ q => q) (fun a o nn _ q => nn ((ux_pad sa.len a).mp q)) d v r⟩
    · cases e
  ob := fun i s o h1 h2 => by
    rcases get_pad h1 with h1 | ⟨e, _⟩
    · obtain ⟨a, e, r⟩ := sa.ob i s o h1 h2
      exact ⟨a, get_padr e, RepO.to (fun a o _ q => q) (fun a o nn _ q => nn ((ux_pad sa.len a).mp q)) (fun _ q => q) r⟩
    · subst e; cases h2
theorem pad_len {N : List Str} {vs : List V} : start N vs = vs.map some ++ List.replicate (N.length - vs.length) none := rfl
/-- what the caller sees behind a def -/
theorem Ste.leave (sa : SA K U args σ0 H) (har : ∀ s ∈ args, s.arg = true) (a : Ste K U (args ++ List.replicate n .un) (σ0 ++ List.replicate n none) H env' σ' H') :
    Ste K U args σ0 H (mergeA args env') σ0 H' ∧ ∀ x, Ux U (mergeA args env') σ0 x → Ux U env' σ' x := by
  -- each parameter that the caller sees is still in its slot
  have io : ∀ (i : Nat) (o : Ob), args[i]? = some (.io o) → ∃ o' : Ob, env'[i]? = some (.io o') ∧ σ'[i]? = σ0[i]? := fun i o h => by
    obtain ⟨o', h1, h2⟩ := a.io i o (get_padr h)
    refine ⟨o', h1, h2.trans ?_⟩
    have hi : i < σ0.length := by rw [← sa.len]; exact (List.getElem?_eq_some_iff.mp h).1
    rw [List.getElem?_append_left hi]
  have mg : ∀ (i : Nat) (s : Sl), (mergeA args env')[i]? = some s → (∃ o o' : Ob, s = .io o' ∧ args[i]? = some (.io o) ∧ env'[i]? = some (.io o')) ∨ (∃ d, s = .v d ∧ args[i]? = some (.v d)) := by
    have core : ∀ (a e : En) (hio : ∀ (i : Nat) (o : Ob), a[i]? = some (.io o) → ∃ o' : Ob, e[i]? = some (.io o')) (hv : ∀ s ∈ a, s.arg = true) (i : Nat) (s : Sl), (mergeA a e)[i]? = some s →
        (∃ o o' : Ob, s = .io o' ∧ a[i]? = some (.io o) ∧ e[i]? = some (.io o')) ∨ (∃ d, s = .v d ∧ a[i]? = some (.v d)) := by
      intro a
      induction a with
      | nil => intro e _ _ i s h; cases e <;> simp [mergeA] at h
      | cons x r ih =>
        intro e hio hv i s h
        cases e with
        | nil =>
          rw [mergeA_nil] at h
          cases s with
          | io o => obtain ⟨o', q⟩ := hio i o h; simp at q
          | v d => exact .inr ⟨d, rfl, h⟩
          | un => exact absurd (hv _ (List.mem_of_getElem? h)) (by simp [Sl.arg])
          | ow o => exact absurd (hv _ (List.mem_of_getElem? h)) (by simp [Sl.arg])
        | cons t e =>
          cases i with
          | succ i =>
            have q := ih e (fun i o h => hio (i + 1) o h) (fun s hs => hv s (List.mem_cons_of_mem _ hs)) i s (by cases x <;> cases t <;> simpa [mergeA] using h)
            exact q
          | zero =>
            cases x with
            | io o =>
              obtain ⟨o', q⟩ := hio 0 o rfl
              obtain rfl : t = .io o' := by simpa using q
              left
              refine ⟨o, o', ?_, rfl, rfl⟩
              simpa [mergeA] using h.symm
            | v d =>
              right
              refine ⟨d, ?_, rfl⟩
              cases t <;> simpa [mergeA] using h.symm
            | un => exact absurd (hv _ List.mem_cons_self) (by simp [Sl.arg])
            | ow o => exact absurd (hv _ List.mem_cons_self) (by simp [Sl.arg])
    exact core args env' (fun i o h => let ⟨o', h1, _⟩ := io i o h; ⟨o', h1⟩) har
  have rm : ∀ (i : Nat) (s : Sl), args[i]? = some s → ∃ s', (mergeA args env')[i]? = some s' := by
    have core : ∀ (a e : En) (i : Nat) (s : Sl), a[i]? = some s → ∃ s', (mergeA a e)[i]? = some s' := by
      intro a
      induction a with
      | nil => intro e i s h; simp at h
      | cons x r ih =>
        intro e i s h
        cases e with
        | nil => rw [mergeA_nil]; exact ⟨s, h⟩
        | cons t e =>
          cases i with
          | zero => cases x <;> cases t <;> exact ⟨_, rfl⟩
          | succ i =>
            obtain ⟨s', q⟩ := ih e i s h
            exact ⟨s', by cases x <;> cases t <;> simpa [mergeA] using q⟩
    exact core args env'
  have lenM : (mergeA args env').length = args.length := by
    have core : ∀ (a e : En), (mergeA a e).length = a.length := by
      intro a
      induction a with
      | nil => intro e; cases e <;> rfl
      | cons x r ih => intro e; cases e with
        | nil => rw [mergeA_nil]
        | cons t e => cases x <;> cases t <;> simp [mergeA, ih]
    exact core args env'
  have ch1 : ∀ x, Chg (mergeA args env') σ0 x → Chg env' σ' x ∧ Chg args σ0 x := by
    rintro x ⟨i, s, o, h1, h2, h3⟩
    rcases mg i s h1 with ⟨o1, o', rfl, e1, e2⟩ | ⟨d, rfl, _⟩
    · obtain ⟨o2, e3, e4⟩ := io i o1 e1
      exact ⟨⟨i, _, o', e2, rfl, e4.trans h3⟩, ⟨i, _, o1, e1, rfl, h3⟩⟩
    · cases h2
  have ch2 : ∀ x, Chg args σ0 x → Chg (mergeA args env') σ0 x := by
    rintro x ⟨i, s, o, h1, h2, h3⟩
    cases s with
    | un => cases h2
    | v d => cases h2
    | ow o => exact absurd (har _ (List.mem_of_getElem? h1)) (by simp [Sl.arg])
    | io o1 =>
      obtain ⟨s', q⟩ := rm i _ h1
      rcases mg i s' q with ⟨o2, o', rfl, _, _⟩ | ⟨d, rfl, e⟩
      · exact ⟨i, _, o', q, rfl, h3⟩
      · rw [h1] at e; cases e
  have sub : ∀ x, Ux U (mergeA args env') σ0 x → Ux U env' σ' x := fun x h => h.imp id fun c => (ch1 x c).1
  have grA : Gr (Chg args σ0) H H' := fun x o nn h => a.gr x o (fun c => nn ((chg_pad sa.len x).mp c)) h
  refine ⟨⟨⟨lenM.trans sa.len, a.sa.al, fun x c => sa.nu x (ch1 x c).2, fun i j s t o p x h1 h2 h3 h4 h5 h6 => ?_, fun i d h => ?_, fun i s o h1 h2 => ?_⟩, grA, fun x c => .inl (ch1 x c).2, fun i o h => ?_⟩, sub⟩
  · rcases mg i s h1 with ⟨o1, o', rfl, e1, e2⟩ | ⟨d, rfl, _⟩
    · rcases mg j t h3 with ⟨o3, o4, rfl, e3, e4⟩ | ⟨d, rfl, _⟩
      · exact sa.inj i j _ _ _ _ x e1 rfl e3 rfl h5 h6
      · cases h4
    · cases h2
  · rcases mg i _ h with ⟨o1, o', q, _, _⟩ | ⟨d', q, e⟩
    · cases q
    · cases q
      obtain ⟨v, e1, r⟩ := sa.val i d e
      exact ⟨v, e1, Rep.to (fun x o nn h => grA x o (fun c => nn (.inr c)) h) (fun x o nn _ q => nn (q.imp id fun c => (ch1 x c).2)) d v r⟩
  · rcases mg i s h1 with ⟨o1, o', rfl, e1, e2⟩ | ⟨d, rfl, _⟩
    · cases h2
      obtain ⟨x, e3, r⟩ := a.sa.ob i _ _ e2 rfl
      obtain ⟨o2, e4, e5⟩ := io i o1 e1
      exact ⟨x, e5.symm.trans e3, RepO.to (fun _ _ _ q => q) (fun y o nn _ q => nn (sub y q)) (fun _ q => q) r⟩
    · cases h2
  · obtain ⟨s', q⟩ := rm i _ h
    rcases mg i s' q with ⟨o1, o', rfl, _, _⟩ | ⟨d, rfl, e⟩
    · exact ⟨o', q, rfl⟩
    · rw [h] at e; cases e
end
/-- THE RULE of a def: its body's mirror -/
theorem okM {P : Program} {w : World} {K : PySem.W.Frag} {mg : Str → Option Value} {base : Heap} {x qual : Str} {st : Stmt} {f : Addr} {fd : FuncData} {N ps : List Str} {k : Nat} {mb : En → Rs Fl} (F : Fun K x qual st f fd) (S : FnScope N ps (defScope st))
    (hbody : ∀ (cdv : Value) (A : Around) (outer : List PySem.Env) (s : Shared) (H : Hp) (E : XK) (W : WX), Co (cxOf (L2.CX P w) P w K mg base N qual (defScope st) f cdv A outer s H E) k → Takes (cxOf (L2.CX P w) P w K mg base N qual (defScope st) f cdv A outer s H E) W →
      EvSs (cxOf (L2.CX P w) P w K mg base N qual (defScope st) f cdv A outer s H E) W (defBody st) mb) : FnG P w K mg base (k + 1) f fd ps (spM K ps.length (mDef ps.length N.length mb)) := by
  refine fnG_of F S (fun vs H Q E h => ?_) fun cdv A outer s H vs Q E co h => ⟨tS K (fun c d _ H' => E c d H') mb, hbody cdv A outer s H E _ co (takes_of rfl rfl rfl rfl), ?_⟩
  · obtain ⟨U, args, hl, _⟩ := h
    exact hl
  obtain ⟨U, args, hl, sa, har, po⟩ := h
  rw [pad_len]
  have hl2 : N.length - vs.length = N.length - ps.length := by rw [hl]
  rw [hl2]
  refine ⟨U, args ++ List.replicate (N.length - ps.length) .un, sa.pad, ?_⟩
  unfold mDef at po
  cases hm : mb (args ++ List.replicate (N.length - ps.length) .un) with
  | bad => rw [hm] at po; exact po
  | er y e =>
    rw [hm] at po
    intro cls dd σ' H' a ex
    obtain ⟨a', sub⟩ := a.leave sa har
    refine po cls dd H' a' ?_
    obtain ⟨h1, h2⟩ := ex
    refine ⟨h1, h2.imp id ?_⟩
    rintro ⟨q, xs, e1, e2, e3, r⟩
    exact ⟨q, xs, e1, e2, e3, Reps.to (fun _ _ _ q => q) (fun y o nn _ q => nn (sub y q)) _ _ r⟩
  | ok fl e =>
    rw [hm] at po
    intro σ' H' a
    obtain ⟨a', sub⟩ := a.leave sa har
    cases fl with
    | nx => exact po .non H' a' rfl
    | rt d => exact fun v r => po v H' a' (Rep.to (fun _ _ _ q => q) (fun y o nn _ q => nn (sub y q)) d v r)
    | bk => exact po.elim
    | ct => exact po.elim
end Mi

set_option Elab.async false
set_option linter.all false
set_option maxRecDepth 100000
set_option maxHeartbeats 4000000
/-! Mi5: a call's arguments; what a callee leaves in the caller's slots -/
namespace Mi
open PySem PySem.Spec L2
abbrev Ar := D ⊕ Nat
def argOf (env : En) : Ar → Option Sl
  | .inl d => some (.v d)
  | .inr i => (env[i]?).bind fun s => s.ob.map .io
def mkArgs (env : En) : List Ar → Option En
  | [] => some []
  | a :: r => (argOf env a).bind fun s => (mkArgs env r).map fun t => s :: t
def inrs : List Ar → List Nat
  | [] => []
  | .inl _ :: r => inrs r
  | .inr i :: r => i :: inrs r
def lookIo : List Ar → En → Nat → Option Ob
  | .inr k :: as, .io o :: r, i => if k = i then some o else lookIo as r i
  | _ :: as, _ :: r, i => lookIo as r i
  | _, _, _ => none
def Sl.put : Sl → Ob → Sl
  | .ow _, o => .ow o
  | .io _, o => .io o
  | s, _ => s
def putBack (env : En) (as : List Ar) (args' : En) : En := env.mapIdx fun i s => match lookIo as args' i with
  | some o => s.put o
  | none => s
def xCall (m : En → Rs D) (ma : En → Rs (List Ar)) : En → Rs D := fun env => (ma env).bind fun as env1 =>
  if (inrs as).Nodup then (match mkArgs env1 as with
    | none => .bad
    | some args => match m args with
      | .ok d args' => .ok d (putBack env1 as args')
      | .er x args' => .er x (putBack env1 as args')
      | .bad => .bad) else .bad
theorem mem_inrs : ∀ {as : List Ar} {j i : Nat}, as[j]? = some (.inr i) → i ∈ inrs as
  | [], _, _, h => by simp at h
  | .inl _ :: r, 0, i, h => by simp at h
  | .inr k :: r, 0, i, h => by simp at h; subst h; exact List.mem_cons_self
  | .inl _ :: r, j + 1, i, h => mem_inrs (as := r) (j := j) (by simpa using h)
  | .inr k :: r, j + 1, i, h => List.mem_cons_of_mem _ (mem_inrs (as := r) (j := j) (by simpa using h))
theorem inr_uniq : ∀ {as : List Ar} {j j' i : Nat}, (inrs as).Nodup → as[j]? = some (.inr i) → as[j']? = some (.inr i) → j = j'
  | [], _, _, _, _, h, _ => by simp at h
  | .inl _ :: r, 0, _, _, _, h, _ => by simp at h
  | .inl _ :: r, _ + 1, 0, _, _, _, h => by simp at h
  | .inl _ :: r, j + 1, j' + 1, i, n, h, h' => congrArg (· + 1) (inr_uniq (as := r) (j := j) (j' := j') (i := i) n (by simpa using h) (by simpa using h'))
  | .inr k :: r, 0, 0, _, _, _, _ => rfl
  | .inr k :: r, 0, j' + 1, i, n, h, h' => by
    simp at h; subst h
    exact absurd (mem_inrs (as := r) (j := j') (by simpa using h')) (List.nodup_cons.mp n).1
  | .inr k :: r, j + 1, 0, i, n, h, h' => by
    simp at h'; subst h'
    exact absurd (mem_inrs (as := r) (j := j) (by simpa using h)) (List.nodup_cons.mp n).1
  | .inr k :: r, j + 1, j' + 1, i, n, h, h' => congrArg (· + 1) (inr_uniq (as := r) (j := j) (j' := j') (i := i) (List.nodup_cons.mp n).2 (by simpa using h) (by simpa using h'))
theorem lookIo_spec : ∀ {as : List Ar} {args : En} {i : Nat} {o : Ob}, lookIo as args i = some o → ∃ j : Nat, as[j]? = some (Sum.inr i) ∧ args[j]? = some (Sl.io o)
  | [], _, _, _, h => by simp [lookIo] at h
  | .inl _ :: as, [], _, _, h => by simp [lookIo] at h
  | .inr _ :: as, [], _, _, h => by simp [lookIo] at h
  | .inl _ :: as, s :: r, i, o, h => by
    obtain ⟨j, q⟩ := lookIo_spec (as := as) (args := r) (i := i) (o := o) (by cases s <;> simpa [lookIo] using h)
    exact ⟨j + 1, q⟩
  | .inr k :: as, s :: r, i, o, h => by
    by_cases hk : (∃ o', s = .io o') ∧ k = i
    · obtain ⟨⟨o', rfl⟩, rfl⟩ := hk
      simp [lookIo] at h
      subst h
      exact ⟨0, rfl, rfl⟩
    · obtain ⟨j, q⟩ := lookIo_spec (as := as) (args := r) (i := i) (o := o) (by
        cases s with
        | io o' => simpa [lookIo, show ¬ k = i from fun e => hk ⟨⟨o', rfl⟩, e⟩] using h
        | _ => simpa [lookIo] using h)
      exact ⟨j + 1, q⟩
theorem lookIo_of : ∀ {as : List Ar} {args : En} {i j : Nat} {o : Ob}, (inrs as).Nodup → as[j]? = some (.inr i) → args[j]? = some (.io o) → lookIo as args i = some o
  | [], _, _, _, _, _, h, _ => by simp at h
  | a :: as, [], _, _, _, _, _, h => by simp at h
  | a :: as, s :: r, i, 0, o, n, h, h' => by
    simp at h h'; subst h; subst h'
    simp [lookIo]
  | .inl _ :: as, s :: r, i, j + 1, o, n, h, h' => by
    have q := lookIo_of (as := as) (args := r) (i := i) (j := j) (o := o) n (by simpa using h) (by simpa using h')
    cases s <;> simpa [lookIo] using q
  | .inr k :: as, s :: r, i, j + 1, o, n, h, h' => by
    have q := lookIo_of (as := as) (args := r) (i := i) (j := j) (o := o) (List.nodup_cons.mp n).2 (by simpa using h) (by simpa using h')
    have nk : ¬ k = i := fun e => (List.nodup_cons.mp n).1 (by rw [e]; exact mem_inrs (as := as) (j := j) (by simpa using h))
    cases s <;> simpa [lookIo, nk] using q
theorem mkArgs_of : ∀ {env : En} {as : List Ar} {args : En}, mkArgs env as = some args → ∀ (j : Nat) (s : Sl), args[j]? = some s → ∃ a, as[j]? = some a ∧ argOf env a = some s
  | env, [], args, h, j, s, q => by
    simp [mkArgs] at h
    subst h
    simp at q
  | env, a :: r, args, h, j, s, q => by
    simp only [mkArgs] at h
    cases ha : argOf env a with
    | none => rw [ha] at h; simp at h
    | some s' =>
      cases hr : mkArgs env r with
      | none => rw [ha, hr] at h; simp at h
      | some t =>
        rw [ha, hr] at h
        simp at h
        subst h
        cases j with
        | zero => simp at q; subst q; exact ⟨a, rfl, ha⟩
        | succ j =>
          obtain ⟨a', h1, h2⟩ := mkArgs_of hr j s (by simpa using q)
          exact ⟨a', by simpa using h1, h2⟩
theorem mkArgs_to : ∀ {env : En} {as : List Ar} {args : En}, mkArgs env as = some args → args.length = as.length ∧ ∀ (j : Nat) (a : Ar), as[j]? = some a → ∃ s, args[j]? = some s ∧ argOf env a = some s
  | env, [], args, h => by
    simp [mkArgs] at h
    subst h
    exact ⟨rfl, fun j a q => by simp at q⟩
  | env, a :: r, args, h => by
    simp only [mkArgs] at h
    cases ha : argOf env a with
    | none => rw [ha] at h; simp at h
    | some s' =>
      cases hr : mkArgs env r with
      | none => rw [ha, hr] at h; simp at h
      | some t =>
        rw [ha, hr] at h
        simp at h
        subst h
        obtain ⟨hl, hg⟩ := mkArgs_to hr
        refine ⟨by simp [hl], fun j a' q => ?_⟩
        cases j with
        | zero => simp at q; subst q; exact ⟨s', rfl, ha⟩
        | succ j =>
          obtain ⟨s, h1, h2⟩ := hg j a' (by simpa using q)
          exact ⟨s, by simpa using h1, h2⟩
section
variable {K : PySem.W.Frag} {U U' : Addr → Prop} {env : En} {σ : St} {H : Hp} {as : List Ar} {vs : List V}
theorem RAr.len : ∀ {as : List Ar} {vs : List V}, RAr K U σ H as vs → vs.length = as.length
  | [], _, h => by rw [show _ = _ from h]; rfl
  | .inl _ :: r, _, ⟨x, t, e, _, h⟩ => by rw [e, List.length_cons, List.length_cons, RAr.len h]
  | .inr _ :: r, _, ⟨x, t, e, _, h⟩ => by rw [e, List.length_cons, List.length_cons, RAr.len h]
theorem RAr.at : ∀ {as : List Ar} {vs : List V}, RAr K U σ H as vs → ∀ (j : Nat) (a : Ar), as[j]? = some a → ∃ v, vs[j]? = some v ∧ match a with
    | .inl d => Rep K U H d v
    | .inr i => σ[i]? = some (some v)
  | [], _, h, j, a, q => by simp at q
  | .inl d :: r, _, ⟨x, t, e, h1, h⟩, 0, a, q => by simp at q; subst q; exact ⟨x, by rw [e]; rfl, h1⟩
  | .inr d :: r, _, ⟨x, t, e, h1, h⟩, 0, a, q => by simp at q; subst q; exact ⟨x, by rw [e]; rfl, h1⟩
  | .inl d :: r, _, ⟨x, t, e, h1, h⟩, j + 1, a, q => by
    obtain ⟨v, e2, h2⟩ := RAr.at h j a (by simpa using q)
    exact ⟨v, by rw [e]; simpa using e2, h2⟩
  | .inr d :: r, _, ⟨x, t, e, h1, h⟩, j + 1, a, q => by
    obtain ⟨v, e2, h2⟩ := RAr.at h j a (by simpa using q)
    exact ⟨v, by rw [e]; simpa using e2, h2⟩
theorem RAr.to {H' : Hp} (hk : ∀ a o, ¬ U a → H a = some o → H' a = some o) (hu : ∀ a o, ¬ U a → H a = some o → ¬ U' a) : ∀ {as : List Ar} {vs : List V}, RAr K U σ H as vs → RAr K U' σ H' as vs
  | [], _, h => h
  | .inl d :: r, _, ⟨x, t, e, h1, h⟩ => ⟨x, t, e, Rep.to hk hu d x h1, RAr.to hk hu h⟩
  | .inr d :: r, _, ⟨x, t, e, h1, h⟩ => ⟨x, t, e, h1, RAr.to hk hu h⟩
theorem call_bridge {args : En} (sa : SA K U env σ H) (ra : RAr K (Ux U env σ) σ H as vs) (nd : (inrs as).Nodup) (mk : mkArgs env as = some args) :
    ∃ U', SA K U' args (vs.map some) H ∧ (∀ s ∈ args, s.arg = true) ∧ ∀ args' H', Ste K U' args (vs.map some) H args' (vs.map some) H' →
      Ste K U env σ H (putBack env as args') σ H' ∧ ∀ x, Ux U (putBack env as args') σ x → Ux U' args' (vs.map some) x := by
  obtain ⟨hl, hto⟩ := mkArgs_to mk
  have hof := mkArgs_of mk
  have vget : ∀ {j : Nat} {v : V}, (vs.map some)[j]? = some (some v) → vs[j]? = some v := fun {j v} h => by
    rw [List.getElem?_map] at h
    cases e : vs[j]? with
    | none => rw [e] at h; cases h
    | some w => rw [e] at h; cases h; rfl
  have vput : ∀ {j : Nat} {v : V}, vs[j]? = some v → (vs.map some)[j]? = some (some v) := fun {j v} h => by rw [List.getElem?_map, h]; rfl
  -- the arguments, one by one
  have ioOf : ∀ {j : Nat} {s : Sl} {o : Ob}, args[j]? = some s → s.ob = some o → ∃ i t, as[j]? = some (.inr i) ∧ env[i]? = some t ∧ t.ob = some o ∧ s = .io o := fun {j s o} h1 h2 => by
    obtain ⟨a, h3, h4⟩ := hof j s h1
    cases a with
    | inl d => simp [argOf] at h4; subst h4; cases h2
    | inr i =>
      simp only [argOf] at h4
      cases e : env[i]? with
      | none => rw [e] at h4; cases h4
      | some t =>
        rw [e] at h4
        cases e2 : t.ob with
        | none => simp [e2] at h4
        | some o' =>
          simp [e2] at h4
          subst h4
          cases h2
          exact ⟨i, t, h3, e, e2, rfl⟩
  have vOf : ∀ {j : Nat} {d : D}, args[j]? = some (.v d) → as[j]? = some (.inl d) := fun {j d} h1 => by
    obtain ⟨a, h3, h4⟩ := hof j _ h1
    cases a with
    | inl d' => simp [argOf] at h4; subst h4; exact h3
    | inr i =>
      simp only [argOf] at h4
      cases e : env[i]? with
      | none => rw [e] at h4; cases h4
      | some t =>
        rw [e] at h4
        cases e2 : t.ob with
        | none => simp [e2] at h4
        | some o' => simp [e2] at h4
  let Pa : Addr → Prop := fun a => ∃ (j i : Nat), as[j]? = some (.inr i) ∧ σ[i]? = some (some (V.ref a))
  have ownAt : ∀ {j i : Nat}, as[j]? = some (.inr i) → ∃ t o a, env[i]? = some t ∧ t.ob = some o ∧ args[j]? = some (.io o) ∧ σ[i]? = some (some (V.ref a)) ∧ vs[j]? = some (V.ref a) ∧ RepO K (Ux U env σ) H o a := fun {j i} h => by
    obtain ⟨s, h1, h2⟩ := hto j _ h
    simp only [argOf] at h2
    cases e : env[i]? with
    | none => rw [e] at h2; cases h2
    | some t =>
      rw [e] at h2
      cases e2 : t.ob with
      | none => simp [e2] at h2
      | some o =>
        simp [e2] at h2
        subst h2
        obtain ⟨a, h3, r⟩ := sa.ob i t o e e2
        obtain ⟨v, h4, h5⟩ := ra.at j _ h
        have h5 : σ[i]? = some (some v) := h5
        rw [h3] at h5
        cases h5
        exact ⟨t, o, a, rfl, e2, h1, h3, h4, r⟩
  have paChg : ∀ {a : Addr}, Pa a → Chg env σ a := fun {a} ⟨j, i, h1, h2⟩ => by
    obtain ⟨t, o, b, e1, e2, _, e3, _, _⟩ := ownAt h1
    exact ⟨i, t, o, e1, e2, h2⟩
  have chgPa : ∀ {a : Addr}, Chg args (vs.map some) a → Pa a := fun {a} ⟨j, s, o, h1, h2, h3⟩ => by
    obtain ⟨i, t, q1, q2, q3, _⟩ := ioOf h1 h2
    obtain ⟨t', o', b, e1, e2, _, e3, e4, _⟩ := ownAt q1
    have h4 := vget h3
    rw [e4] at h4
    cases h4
    exact ⟨j, i, q1, e3⟩
  have paArgs : ∀ {a : Addr}, Pa a → Chg args (vs.map some) a := fun {a} ⟨j, i, h1, h2⟩ => by
    obtain ⟨t, o, b, e1, e2, e5, e3, e4, _⟩ := ownAt h1
    rw [h2] at e3
    cases e3
    exact ⟨j, _, o, e5, rfl, vput e4⟩
  let U' : Addr → Prop := fun a => U a ∨ (Chg env σ a ∧ ¬ Pa a)
  have uxI : ∀ x, Ux U env σ x → Ux U' args (vs.map some) x := fun x h => by
    by_cases p : Pa x
    · exact .inr (paArgs p)
    · exact .inl (h.elim .inl fun c => .inr ⟨c, p⟩)
  have uxO : ∀ x, Ux U' args (vs.map some) x → Ux U env σ x := fun x h => h.elim (fun h => h.elim .inl fun c => .inr c.1) fun c => .inr (paChg (chgPa c))
  have sa' : SA K U' args (vs.map some) H := by
    refine ⟨by rw [List.length_map, hl, ra.len], fun a h => h.elim (sa.al a) fun c => sa.alx (.inr c.1), fun a c h => ?_, fun i j s t o p a h1 h2 h3 h4 h5 h6 => ?_, fun i d h => ?_, fun i s o h1 h2 => ?_⟩
    · have p := chgPa c
      exact h.elim (sa.nu a (paChg p)) fun q => q.2 p
    · obtain ⟨i1, t1, q1, q2, q3, _⟩ := ioOf h1 h2
      obtain ⟨i2, t2, q4, q5, q6, _⟩ := ioOf h3 h4
      obtain ⟨_, _, b, _, _, _, e3, e4, _⟩ := ownAt q1
      obtain ⟨_, _, b', _, _, _, e5, e6, _⟩ := ownAt q4
      have z1 := vget h5
      have z2 := vget h6
      rw [e4] at z1
      rw [e6] at z2
      cases z1
      cases z2
      have e := sa.inj i1 i2 t1 t2 o p a q2 q3 q5 q6 e3 e5
      subst e
      exact inr_uniq nd q1 q4
    · obtain ⟨v, e1, r⟩ := ra.at i _ (vOf h)
      exact ⟨v, vput e1, Rep.to (fun _ _ _ q => q) (fun x o n _ q => n (uxO x q)) d v r⟩
    · obtain ⟨k, t, q1, q2, q3, q4⟩ := ioOf h1 h2
      obtain ⟨t', o', b, e1, e2, e5, e3, e4, r⟩ := ownAt q1
      rw [q2] at e1
      cases e1
      rw [q3] at e2
      cases e2
      exact ⟨b, vput e4, RepO.to (fun _ _ _ q => q) (fun x o n _ q => n (uxO x q)) (fun _ q => q) r⟩
  refine ⟨U', sa', fun s hs => ?_, fun args' H' a => ?_⟩
  · obtain ⟨j, hj⟩ := List.mem_iff_getElem?.mp hs
    obtain ⟨x, h1, h2⟩ := hof j s hj
    cases x with
    | inl d => simp [argOf] at h2; subst h2; rfl
    | inr i =>
      obtain ⟨_, o, _, _, _, e, _⟩ := ownAt h1
      rw [hj] at e
      cases e
      rfl
  have pget : ∀ (i : Nat), (putBack env as args')[i]? = (env[i]?).map fun s => match lookIo as args' i with
      | some o => s.put o
      | none => s := fun i => by unfold putBack; rw [List.getElem?_mapIdx]
  have putOb : ∀ {s : Sl} {o o' : Ob}, s.ob = some o → (s.put o').ob = some o' := fun {s o o'} h => by cases s <;> first | rfl | cases h
  have putNone : ∀ {s : Sl} {o' : Ob}, s.ob = none → s.put o' = s := fun {s o'} h => by cases s <;> first | rfl | cases h
  have passIo : ∀ {j i : Nat}, as[j]? = some (.inr i) → ∃ o', args'[j]? = some (.io o') ∧ lookIo as args' i = some o' := fun {j i} h => by
    obtain ⟨_, o, b, _, _, e, _⟩ := ownAt h
    obtain ⟨o', h1, _⟩ := a.io j o e
    exact ⟨o', h1, lookIo_of nd h h1⟩
  have chgB : ∀ x, Chg (putBack env as args') σ x ↔ Chg env σ x := fun x => by
    constructor
    · rintro ⟨i, s, o, h1, h2, h3⟩
      rw [pget] at h1
      cases e : env[i]? with
      | none => rw [e] at h1; cases h1
      | some t =>
        rw [e] at h1
        cases e2 : t.ob with
        | none =>
          have : s = t := by
            cases e3 : lookIo as args' i with
            | none => simp [e3] at h1; exact h1.symm
            | some o' => simp [e3, putNone e2] at h1; exact h1.symm
          rw [this, e2] at h2
          cases h2
        | some o' => exact ⟨i, t, o', e, e2, h3⟩
    · rintro ⟨i, s, o, h1, h2, h3⟩
      cases e3 : lookIo as args' i with
      | none => exact ⟨i, s, o, by rw [pget, h1, e3]; rfl, h2, h3⟩
      | some o' => exact ⟨i, s.put o', o', by rw [pget, h1, e3]; rfl, putOb h2, h3⟩
  have sub : ∀ x, Ux U (putBack env as args') σ x → Ux U' args' (vs.map some) x := fun x h => by
    by_cases p : Pa x
    · obtain ⟨j, i, h1, h2⟩ := p
      obtain ⟨_, o, b, _, _, _, e3, e4, _⟩ := ownAt h1
      obtain ⟨o', h3, _⟩ := passIo h1
      rw [h2] at e3
      cases e3
      exact .inr ⟨j, _, o', h3, rfl, vput e4⟩
    · exact .inl (h.elim .inl fun c => .inr ⟨(chgB x).mp c, p⟩)
  have kept : ∀ x o, ¬ Pa x → H x = some o → H' x = some o := fun x o n h => a.gr x o (fun c => n (chgPa c)) h
  refine ⟨⟨⟨?_, fun x h => a.sa.al x (.inl h), fun x c => sa.nu x ((chgB x).mp c), fun i j s t o p x h1 h2 h3 h4 h5 h6 => ?_, fun i d h => ?_, fun i s o h1 h2 => ?_⟩, fun x o n h => kept x o (fun p => n (paChg p)) h, fun x c => .inl ((chgB x).mp c), fun i o h => ?_⟩, sub⟩
  · unfold putBack
    rw [List.length_mapIdx]
    exact sa.len
  · obtain ⟨i1, s1, o1, q1, q2, q3⟩ := (chgB x).mp ⟨i, s, o, h1, h2, h5⟩
    have g : ∀ {i : Nat} {s : Sl} {o : Ob}, (putBack env as args')[i]? = some s → s.ob = some o → ∃ t o', env[i]? = some t ∧ t.ob = some o' := fun {i s o} h1 h2 => by
      rw [pget] at h1
      cases e : env[i]? with
      | none => rw [e] at h1; cases h1
      | some t =>
        rw [e] at h1
        cases e2 : t.ob with
        | none =>
          have : s = t := by
            cases e3 : lookIo as args' i with
            | none => simp [e3] at h1; exact h1.symm
            | some o' => simp [e3, putNone e2] at h1; exact h1.symm
          rw [this, e2] at h2
          cases h2
        | some o' => exact ⟨t, o', rfl, e2⟩
    obtain ⟨t1, p1, e1, e2⟩ := g h1 h2
    obtain ⟨t2, p2, e3, e4⟩ := g h3 h4
    exact sa.inj i j t1 t2 p1 p2 x e1 e2 e3 e4 h5 h6
  · rw [pget] at h
    cases e : env[i]? with
    | none => rw [e] at h; cases h
    | some t =>
      rw [e] at h
      have et : t = .v d := by
        cases e3 : lookIo as args' i with
        | none => simp [e3] at h; exact h
        | some o' =>
          simp [e3] at h
          cases t <;> simp [Sl.put] at h
          exact congrArg _ h
      subst et
      obtain ⟨v, e1, r⟩ := sa.val i d e
      exact ⟨v, e1, Rep.to (fun x o n h => kept x o (fun p => n (.inr (paChg p))) h) (fun x o n _ q => n (q.imp id fun c => (chgB x).mp c)) d v r⟩
  · rw [pget] at h1
    cases e : env[i]? with
    | none => rw [e] at h1; cases h1
    | some t =>
      rw [e] at h1
      cases e3 : lookIo as args' i with
      | none =>
        simp [e3] at h1
        subst h1
        obtain ⟨x, e1, r⟩ := sa.ob i t o e h2
        refine ⟨x, e1, RepO.to (fun x o n h => kept x o (fun p => n (.inr (paChg p))) h) (fun x o n _ q => n (q.imp id fun c => (chgB x).mp c)) (fun u h => kept x u (fun p => ?_) h) r⟩
        obtain ⟨j, k, p1, p2⟩ := p
        obtain ⟨t', o', b, z1, z2, _, z3, _, _⟩ := ownAt p1
        rw [p2] at z3
        cases z3
        have ek := sa.inj i k t t' o o' x e h2 z1 z2 e1 p2
        subst ek
        obtain ⟨o2, _, y⟩ := passIo p1
        rw [e3] at y
        cases y
      | some o' =>
        simp [e3] at h1
        obtain ⟨j, p1, p2⟩ := lookIo_spec e3
        obtain ⟨t', o1, b, z1, z2, _, z3, z4, _⟩ := ownAt p1
        rw [e] at z1
        cases z1
        subst h1
        rw [putOb z2] at h2
        cases h2
        obtain ⟨x, e1, r⟩ := a.sa.ob j _ _ p2 rfl
        have e2 := vget e1
        rw [z4] at e2
        cases e2
        exact ⟨_, z3, RepO.to (fun _ _ _ q => q) (fun x o n _ q => n (sub x q)) (fun _ q => q) r⟩
  · cases e3 : lookIo as args' i with
    | none => exact ⟨o, by rw [pget, h, e3]; rfl, rfl⟩
    | some o' => exact ⟨o', by rw [pget, h, e3]; rfl, rfl⟩
end
/-- the bridge, for a promise of a mirror -/
theorem spM_call {K : PySem.W.Frag} {W : WX} {U : Addr → Prop} {env : En} {σ : St} {H : Hp} {m : En → Rs D} {ma : En → Rs (List Ar)} {n : Nat} {Q : VK} (sa : SA K U env σ H) (po : Po (RD K) K W U env σ H (xCall m ma env) Q)
    (hn : ∀ as e, ma env = .ok as e → as.length = n) : tM (RAr K) K W ma σ H fun vs H1 => spM K n m vs H1 Q fun cls d H' => W cls d σ H' := by
  refine ⟨U, env, sa, ?_⟩
  cases hm : ma env with
  | bad => unfold xCall at po; rw [hm] at po; exact po
  | er x e => unfold xCall at po; rw [hm] at po; exact po
  | ok as e =>
    intro vs H1 a ra
    have ra : RAr K (Ux U e σ) σ H1 as vs := ra
    have po := Po.shift (R2 := RD K) a po
    unfold xCall at po
    rw [hm] at po
    simp only [Rs.bind_ok] at po
    by_cases nd : (inrs as).Nodup
    · rw [if_pos nd] at po
      cases mk : mkArgs e as with
      | none => rw [mk] at po; exact po.elim
      | some args =>
        rw [mk] at po
        obtain ⟨U', sa', har, back⟩ := call_bridge a.sa ra nd mk
        refine ⟨U', args, by rw [ra.len, hn as e hm], sa', har, ?_⟩
        cases hr : m args with
        | bad => simp only [hr] at po; exact po
        | ok d args' =>
          simp only [hr] at po
          intro v H' b r
          obtain ⟨b', sub⟩ := back args' H' b
          exact po v H' b' (Rep.to (fun _ _ _ q => q) (fun x o n _ q => n (sub x q)) d v r)
        | er x args' =>
          simp only [hr] at po
          intro cls dd H' b ex
          obtain ⟨b', sub⟩ := back args' H' b
          refine po cls dd H' b' ?_
          obtain ⟨h1, h2⟩ := ex
          refine ⟨h1, h2.imp id ?_⟩
          rintro ⟨q, xs, e1, e2, e3, r⟩
          exact ⟨q, xs, e1, e2, e3, Reps.to (fun _ _ _ q => q) (fun y o n _ q => n (sub y q)) _ _ r⟩
    · rw [if_neg nd] at po
      exact po.elim
end Mi

set_option Elab.async false
set_option linter.all false
set_option maxRecDepth 100000
set_option maxHeartbeats 4000000
/-! Mi6: expressions' mirrors -/
namespace Mi
open PySem PySem.Spec L2
/-! ### names, constants, arguments -/
def Ob.val : Ob → D
  | .lst ds => .lst ds
  | .dct t ks ds => .dct t ks ds
  | .ins c ns ds => .obj c ns ds
def xVar (i : Nat) : En → Rs D := fun env => match env[i]? with
  | some (.v d) => .ok d env
  | some (.ow o) => .ok o.val (env.set i (.v o.val))
  | _ => .bad
def xC (d : D) : En → Rs D := fun env => .ok d env
def flatD : D → Option V
  | .non => some .non
  | .bl b => some (.bl b)
  | .int i => some (.int i)
  | .str x => some (.str x)
  | _ => none
theorem flat_rep {K : PySem.W.Frag} {U : Addr → Prop} {H : Hp} {d : D} {v : V} (h : flatD d = some v) : Rep K U H d v := by
  cases d <;> simp [flatD] at h <;> subst h <;> rfl
section
variable {K : PySem.W.Frag} {W : WX} {U : Addr → Prop} {env : En} {σ : St} {H : Hp}
/-- a name gives up the object that it alone held: it is a value from now on -/
theorem Ste.free {i : Nat} {o : Ob} {a : Addr} (sa : SA K U env σ H) (h : env[i]? = some (.ow o)) (ha : σ[i]? = some (some (V.ref a))) : Ste K U env σ H (env.set i (.v o.val)) σ H ∧ Rep K (Ux U (env.set i (.v o.val)) σ) H o.val (.ref a) := by
  have hi : i < env.length := (List.getElem?_eq_some_iff.mp h).1
  have old : ∀ {j : Nat} {s : Sl} {p : Ob}, (env.set i (.v o.val))[j]? = some s → s.ob = some p → env[j]? = some s ∧ j ≠ i := fun {j s p} h1 h2 => by
    by_cases e : i = j
    · subst e
      rw [List.getElem?_set_self hi] at h1
      cases h1
      cases h2
    · rw [List.getElem?_set_ne e] at h1
      exact ⟨h1, fun z => e z.symm⟩
  have ch : ∀ x, Chg (env.set i (.v o.val)) σ x → Chg env σ x := fun x ⟨j, s, p, h1, h2, h3⟩ => ⟨j, s, p, (old h1 h2).1, h2, h3⟩
  have nc : ¬ Chg (env.set i (.v o.val)) σ a := fun ⟨j, s, p, h1, h2, h3⟩ => by
    obtain ⟨h4, n⟩ := old h1 h2
    exact n (sa.inj j i s _ p o a h4 h2 h rfl h3 ha)
  have sub : ∀ x, Ux U (env.set i (.v o.val)) σ x → Ux U env σ x := fun x q => q.imp id (ch x)
  have ra : Rep K (Ux U (env.set i (.v o.val)) σ) H o.val (.ref a) := by
    obtain ⟨b, h1, r⟩ := sa.ob i _ o h rfl
    rw [ha] at h1
    cases h1
    have nu : ¬ Ux U (env.set i (.v o.val)) σ a := fun q => q.elim (sa.nu a ⟨i, _, o, h, rfl, ha⟩) nc
    have r' := RepO.to (K := K) (fun _ _ _ q => q) (fun x o n _ q => n (sub x q)) (fun _ q => q) r
    cases o with
    | lst ds => obtain ⟨xs, e, r⟩ := r'; exact ⟨a, xs, rfl, ⟨e, nu⟩, r⟩
    | dct t ks ds => obtain ⟨xs, e, r⟩ := r'; exact ⟨a, xs, rfl, nu, e.rd, r⟩
    | ins c ns ds => obtain ⟨dx, xs, e, l, r⟩ := r'; exact ⟨a, dx, xs, rfl, nu, e, l, r⟩
  refine ⟨⟨⟨by rw [List.length_set]; exact sa.len, sa.al, fun x c => sa.nu x (ch x c), fun j k s t p q x h1 h2 h3 h4 h5 h6 => sa.inj j k s t p q x (old h1 h2).1 h2 (old h3 h4).1 h4 h5 h6, fun j d h1 => ?_, fun j s p h1 h2 => ?_⟩, .refl, fun x c => .inl (ch x c), fun j p h1 => ?_⟩, ra⟩
  · by_cases e : i = j
    · subst e
      rw [List.getElem?_set_self hi] at h1
      cases h1
      exact ⟨_, ha, ra⟩
    · rw [List.getElem?_set_ne e] at h1
      obtain ⟨v, e1, r⟩ := sa.val j d h1
      exact ⟨v, e1, Rep.to (fun _ _ _ q => q) (fun x o n _ q => n (sub x q)) d v r⟩
  · obtain ⟨b, e1, r⟩ := sa.ob j s p (old h1 h2).1 h2
    exact ⟨b, e1, RepO.to (fun _ _ _ q => q) (fun x o n _ q => n (sub x q)) (fun _ q => q) r⟩
  · refine ⟨p, ?_, rfl⟩
    by_cases e : i = j
    · subst e
      rw [h] at h1
      cases h1
    · rw [List.getElem?_set_ne e]
      exact h1
end
section
variable {X : Cx} {W : WX} {e : Expr} {es : List Expr} {m : En → Rs D} {pos : Pos}
theorem ev_var {i : Nat} (h : PE X e (tVar i)) : Ev X W e (xVar i) := by
  refine PE_imp h fun σ H Q ⟨U, env, sa, po⟩ => ?_
  unfold xVar at po
  cases hi : env[i]? with
  | none => rw [hi] at po; exact po.elim
  | some s =>
    rw [hi] at po
    cases s with
    | un => exact po.elim
    | io o => exact po.elim
    | v d =>
      obtain ⟨v, e1, r⟩ := sa.val i d hi
      exact ⟨v, e1, po v H (.refl sa) r⟩
    | ow o =>
      obtain ⟨a, e1, _⟩ := sa.ob i _ o hi rfl
      obtain ⟨a1, r⟩ := Ste.free sa hi e1
      exact ⟨_, e1, po _ H a1 r⟩
theorem ev_c {d : D} {v : V} (h : PE X e (tC v)) (hd : flatD d = some v) : Ev X W e (xC d) :=
  PE_imp h fun σ H Q ⟨U, env, sa, po⟩ => po v H (.refl sa) (flat_rep hd)
theorem ev_cr {d : D} {v : V} (h : PE X e (tC v)) (hd : ∀ U H, Rep X.K U H d v) : Ev X W e (xC d) :=
  PE_imp h fun σ H Q ⟨U, env, sa, po⟩ => po v H (.refl sa) (hd _ _)
end
/-- a list of arguments, n of them -/
structure EvN (X : Cx) (W : WX) (es : List Expr) (n : Nat) (m : En → Rs (List D)) : Prop where
  pa : EvA X W es m
  len : ∀ env ds e, m env = .ok ds e → ds.length = n
structure EvQ (X : Cx) (W : WX) (es : List Expr) (n : Nat) (m : En → Rs (List Ar)) : Prop where
  pa : EvR X W es m
  len : ∀ env ds e, m env = .ok ds e → ds.length = n
def xNil : En → Rs (List D) := fun env => .ok [] env
def xCons (m : En → Rs D) (ma : En → Rs (List D)) : En → Rs (List D) := fun env => (m env).bind fun d e1 => (ma e1).bind fun ds e2 => .ok (d :: ds) e2
def qNil : En → Rs (List Ar) := fun env => .ok [] env
def qVal (m : En → Rs D) (ma : En → Rs (List Ar)) : En → Rs (List Ar) := fun env => (m env).bind fun d e1 => (ma e1).bind fun ds e2 => .ok (.inl d :: ds) e2
/-- the object of slot i, handed on -/
def qIo (i : Nat) (ma : En → Rs (List Ar)) : En → Rs (List Ar) := fun env => match (env[i]?).bind Sl.ob with
  | some _ => (ma env).bind fun ds e2 => .ok (.inr i :: ds) e2
  | none => .bad
section
variable {X : Cx} {W : WX} {e : Expr} {es : List Expr} {m : En → Rs D} {ma : En → Rs (List D)} {mq : En → Rs (List Ar)} {n : Nat}
theorem Rs.bind_eq_ok {α β : Type} {r : Rs α} {f : α → En → Rs β} {b : β} {e : En} (h : r.bind f = .ok b e) : ∃ a e1, r = .ok a e1 ∧ f a e1 = .ok b e := by
  cases r with
  | ok a e1 => exact ⟨a, e1, rfl, h⟩
  | er x e1 => cases h
  | bad => cases h
theorem en_nil : EvN X W [] 0 xNil := ⟨PA_imp pa_nil fun σ H Q ⟨U, env, sa, po⟩ => po [] H (.refl sa) rfl, fun env ds e h => by cases h; rfl⟩
theorem en_cons (h1 : Ev X W e m) (h2 : EvN X W es n ma) (hs : starEach (e :: es) X.env = (false, eval e X.env) :: starEach es X.env := by rfl) : EvN X W (e :: es) (n + 1) (xCons m ma) := by
  refine ⟨PA_imp (pa_cons h1 h2.pa hs) fun σ H Q ⟨U, env, sa, po⟩ => ⟨U, env, sa, Po.step po fun v H1 d e1 a r po1 => ⟨U, e1, a.sa, Po.step po1 fun vs H2 ds e2 a2 r2 po2 => ?_⟩⟩, fun env ds e h => ?_⟩
  · exact po2 _ _ (.refl a2.sa) ⟨v, vs, rfl, a2.rep a.sa r, r2⟩
  · obtain ⟨d, e1, _, h⟩ := Rs.bind_eq_ok h
    obtain ⟨ds', e2, h3, h⟩ := Rs.bind_eq_ok h
    cases h
    rw [List.length_cons, h2.len _ _ _ h3]
theorem eq_nil : EvQ X W [] 0 qNil := ⟨PA_imp pa_nil fun σ H Q ⟨U, env, sa, po⟩ => po [] H (.refl sa) rfl, fun env ds e h => by cases h; rfl⟩
theorem Ste.rar {K : PySem.W.Frag} {U : Addr → Prop} {env env1 : En} {σ : St} {H H1 : Hp} {as : List Ar} {vs : List V} (a : Ste K U env σ H env1 σ H1) (r : RAr K (Ux U env σ) σ H as vs) : RAr K (Ux U env1 σ) σ H1 as vs :=
  RAr.to (fun x o n h => a.gr x o (fun c => n (.inr c)) h) (fun x o n h q => q.elim (fun z => n (.inl z)) fun c => (a.fr x c).elim (fun z => n (.inr z)) fun z => by rw [h] at z; cases z) r
theorem eq_val (h1 : Ev X W e m) (h2 : EvQ X W es n mq) (hs : starEach (e :: es) X.env = (false, eval e X.env) :: starEach es X.env := by rfl) : EvQ X W (e :: es) (n + 1) (qVal m mq) := by
  refine ⟨PA_imp (pa_cons h1 h2.pa hs) fun σ H Q ⟨U, env, sa, po⟩ => ⟨U, env, sa, Po.step po fun v H1 d e1 a r po1 => ⟨U, e1, a.sa, Po.step po1 fun vs H2 ds e2 a2 r2 po2 => ?_⟩⟩, fun env ds e h => ?_⟩
  · exact po2 _ _ (.refl a2.sa) ⟨v, vs, rfl, a2.rep a.sa r, r2⟩
  · obtain ⟨d, e1, _, h⟩ := Rs.bind_eq_ok h
    obtain ⟨ds', e2, h3, h⟩ := Rs.bind_eq_ok h
    cases h
    rw [List.length_cons, h2.len _ _ _ h3]
theorem eq_io {i : Nat} (h1 : PE X e (tVar i)) (h2 : EvQ X W es n mq) (hs : starEach (e :: es) X.env = (false, eval e X.env) :: starEach es X.env := by rfl) : EvQ X W (e :: es) (n + 1) (qIo i mq) := by
  refine ⟨PA_imp (pa_cons h1 h2.pa hs) fun σ H Q ⟨U, env, sa, po⟩ => ?_, fun env ds e h => ?_⟩
  · unfold qIo at po
    cases hb : (env[i]?).bind Sl.ob with
    | none => rw [hb] at po; exact po.elim
    | some o =>
      rw [hb] at po
      obtain ⟨s, h3, h4⟩ := Option.bind_eq_some_iff.mp hb
      obtain ⟨a, e1, _⟩ := sa.ob i s o h3 h4
      refine ⟨_, e1, U, env, sa, Po.step po fun vs H2 ds e2 a2 r2 po2 => ?_⟩
      exact po2 _ _ (.refl a2.sa) ⟨_, vs, rfl, e1, r2⟩
  · unfold qIo at h
    cases hb : (env[i]?).bind Sl.ob with
    | none => rw [hb] at h; cases h
    | some o =>
      rw [hb] at h
      obtain ⟨ds', e2, h3, h⟩ := Rs.bind_eq_ok h
      cases h
      rw [List.length_cons, h2.len _ _ _ h3]
end
/-! ### calls of defs -/
section
variable {X : Cx} {W : WX} {k n : Nat} {f : Addr} {fd : FuncData} {ps : List Str} {x : Str} {p pos : Pos} {e : Expr} {es : List Expr} {m : En → Rs D} {mq : En → Rs (List Ar)}
theorem ev_call (F : FnG X.prog X.w X.K X.mg X.base k f fd ps (spM X.K (n + 1) m)) (c : Co X k) (tk : Takes X W) (hm : X.mg x = some (.ref f)) (hk : PySem.W.keepIn X.K (.ref f) = true) (hb : Binds X.K fd ps [])
    (ha : EvQ X W (e :: es) (n + 1) mq) (hg : Gl X x := by rfl) (hdb : (x == ("__debug__" : Str)) = false := by decide) (he : starEach (e :: es) X.env = (false, eval e X.env) :: starEach es X.env := by rfl)
    (hpl : (backTo pos (starEach es X.env)).any (·.1) = false := by rfl) : Ev X W (.Call (.Name x p) (e :: es) [] pos) (xCall m mq) := by
  refine PE_imp (pe_cg F c tk hm hk hb .nil ha.pa hg hdb he hpl) fun σ H Q ⟨U, env, sa, po⟩ => ?_
  have q := spM_call sa po (n := n + 1) fun as e1 h => ha.len _ _ _ h
  show tM _ _ _ _ _ _ _
  simp only [List.append_nil]
  exact q
theorem ev_call0 (F : FnG X.prog X.w X.K X.mg X.base k f fd ps (spM X.K 0 m)) (c : Co X k) (tk : Takes X W) (hm : X.mg x = some (.ref f)) (hk : PySem.W.keepIn X.K (.ref f) = true) (hb : Binds X.K fd ps [])
    (hg : Gl X x := by rfl) (hdb : (x == ("__debug__" : Str)) = false := by decide) : Ev X W (.Call (.Name x p) [] [] pos) (xCall m qNil) := by
  refine PE_imp (pe_cg0 F c tk hm hk hb .nil hg hdb) fun σ H Q ⟨U, env, sa, po⟩ => ?_
  obtain ⟨U', e', sa', q⟩ := spM_call sa po (n := 0) fun as e1 h => by cases h; rfl
  have q := q [] H (.refl sa') rfl
  simpa [tCG, tNil] using q
end
/-! ### values' operations -/
def Al (U : Addr → Prop) (H : Hp) : Prop := ∀ a, U a → ∃ o, H a = some o
theorem Al.new {U : Addr → Prop} {H : Hp} {p : Addr} (al : Al U H) (hp : H p = none) : ¬ U p := fun q => by
  obtain ⟨o, e⟩ := al p q
  rw [hp] at e
  cases e
theorem same_new {H : Hp} {p : Addr} {o : HO} (hp : H p = none) : Same H (upd H p o) := fun b u e => by rw [upd_ne (ne_of_none e hp)]; exact e
theorem Reps.same {K : PySem.W.Frag} {U : Addr → Prop} {H H' : Hp} (s : Same H H') {ds : List D} {xs : List V} (r : Reps K U H ds xs) : Reps K U H' ds xs := Reps.to (fun a o _ h => s a o h) (fun _ _ n _ => n) ds xs r
theorem Rep.same {K : PySem.W.Frag} {U : Addr → Prop} {H H' : Hp} (s : Same H H') {d : D} {x : V} (r : Rep K U H d x) : Rep K U H' d x := Rep.to (fun a o _ h => s a o h) (fun _ _ n _ => n) d x r
section
variable {K : PySem.W.Frag} {U : Addr → Prop} {H : Hp} {ds : List D} {xs : List V} {p : Addr}
theorem rep_tup_new (al : Al U H) (hp : H p = none) (r : Reps K U H ds xs) : Rep K U (upd H p (.tup xs)) (.tup ds) (.ref p) := ⟨p, xs, rfl, ⟨upd_same, al.new hp⟩, r.same (same_new hp)⟩
theorem rep_lst_new (al : Al U H) (hp : H p = none) (r : Reps K U H ds xs) : Rep K U (upd H p (.lst xs)) (.lst ds) (.ref p) := ⟨p, xs, rfl, ⟨upd_same, al.new hp⟩, r.same (same_new hp)⟩
theorem Reps.len : ∀ {ds : List D} {xs : List V}, Reps K U H ds xs → xs.length = ds.length
  | [], _, h => by rw [show _ = _ from h]; rfl
  | _ :: _, _, ⟨x, r, e, _, h⟩ => by rw [e, List.length_cons, List.length_cons, Reps.len h]
theorem Reps.get : ∀ {ds : List D} {xs : List V}, Reps K U H ds xs → ∀ {i : Nat} {d : D}, ds[i]? = some d → ∃ x, xs[i]? = some x ∧ Rep K U H d x
  | [], _, _, i, d, h => by simp at h
  | _ :: _, _, ⟨x, r, e, h1, h2⟩, 0, d, h => by simp at h; subst h; exact ⟨x, by rw [e]; rfl, h1⟩
  | _ :: _, _, ⟨x, r, e, h1, h2⟩, i + 1, d, h => by
    obtain ⟨y, e2, q⟩ := Reps.get h2 (i := i) (d := d) (by simpa using h)
    exact ⟨y, by rw [e]; simpa using e2, q⟩
theorem Reps.append : ∀ {ds es : List D} {xs ys : List V}, Reps K U H ds xs → Reps K U H es ys → Reps K U H (ds ++ es) (xs ++ ys)
  | [], _, _, _, h, q => by rw [show _ = _ from h]; exact q
  | _ :: _, _, _, _, ⟨x, r, e, h1, h2⟩, q => ⟨x, r ++ _, by rw [e]; rfl, h1, Reps.append h2 q⟩
theorem Reps.take : ∀ {ds : List D} {xs : List V} (n : Nat), Reps K U H ds xs → Reps K U H (ds.take n) (xs.take n)
  | _, _, 0, _ => by rw [List.take_zero, List.take_zero]; rfl
  | [], _, n + 1, h => by rw [show _ = _ from h]; rfl
  | _ :: _, _, n + 1, ⟨x, r, e, h1, h2⟩ => ⟨x, r.take n, by rw [e]; rfl, h1, Reps.take n h2⟩
theorem Reps.drop : ∀ {ds : List D} {xs : List V} (n : Nat), Reps K U H ds xs → Reps K U H (ds.drop n) (xs.drop n)
  | _, _, 0, h => h
  | [], _, n + 1, h => by rw [show _ = _ from h]; rfl
  | _ :: _, _, n + 1, ⟨x, r, e, h1, h2⟩ => by rw [e]; exact Reps.drop n h2
theorem Rep.tup_sq {v : V} (r : Rep K U H (.tup ds) v) : ∃ a xs, v = .ref a ∧ H a = some (.tup xs) ∧ ¬ U a ∧ Reps K U H ds xs := by
  obtain ⟨a, xs, e, ⟨h, n⟩, q⟩ := r
  exact ⟨a, xs, e, h, n, q⟩
theorem Rep.lst_sq {v : V} (r : Rep K U H (.lst ds) v) : ∃ a xs, v = .ref a ∧ H a = some (.lst xs) ∧ ¬ U a ∧ Reps K U H ds xs := by
  obtain ⟨a, xs, e, ⟨h, n⟩, q⟩ := r
  exact ⟨a, xs, e, h, n, q⟩
end
def Snd1 (K : PySem.W.Frag) (g : D → Option D) (r : V → Hp → VK → Prop) : Prop := ∀ (U : Addr → Prop) (H : Hp) (x : V) (d z : D) (Q : VK), Al U H → Rep K U H d x → g d = some z → (∀ v H', Same H H' → Rep K U H' z v → Q v H') → r x H Q
def Snd2 (K : PySem.W.Frag) (g : D → D → Option D) (r : R2) : Prop := ∀ (U : Addr → Prop) (H : Hp) (x y : V) (d e z : D) (Q : VK), Al U H → Rep K U H d x → Rep K U H e y → g d e = some z → (∀ v H', Same H H' → Rep K U H' z v → Q v H') → r x y H Q
def SndN (K : PySem.W.Frag) (g : List D → Option D) (r : List V → Hp → VK → Prop) : Prop := ∀ (U : Addr → Prop) (H : Hp) (xs : List V) (ds : List D) (z : D) (Q : VK), Al U H → Reps K U H ds xs → g ds = some z → (∀ v H', Same H H' → Rep K U H' z v → Q v H') → r xs H Q
def x1 (g : D → Option D) (m : En → Rs D) : En → Rs D := fun env => (m env).bind fun d e => .of (g d) e
def x2 (g : D → D → Option D) (m n : En → Rs D) : En → Rs D := fun env => (m env).bind fun d e1 => (n e1).bind fun d2 e2 => .of (g d d2) e2
def xN (g : List D → Option D) (ma : En → Rs (List D)) : En → Rs D := fun env => (ma env).bind fun ds e => .of (g ds) e
section
variable {X : Cx} {W : WX} {K : PySem.W.Frag} {U : Addr → Prop} {env : En} {σ : St} {H : Hp}
theorem Po.of_some {z : Option D} {Q : VK} (sa : SA K U env σ H) (h : Po (RD K) K W U env σ H (.of z env) Q) : ∃ d, z = some d ∧ ∀ v H', Same H H' → Rep K (Ux U env σ) H' d v → Q v H' := by
  cases z with
  | none => exact h.elim
  | some d => exact ⟨d, rfl, fun v H' s r => Po.of_ok (R2 := RD K) h sa s r⟩
theorem SA.alU (sa : SA K U env σ H) : Al (Ux U env σ) H := fun _ h => sa.alx h
variable {a b e : Expr} {es : List Expr} {m n : En → Rs D} {ma : En → Rs (List D)} {k : Nat} {pos : Pos}
theorem ev_op {op : Operator} {g : D → D → Option D} {r : R2} (ho : OpR X (binaryOp op) r) (hs : Snd2 X.K g r) (ha : Ev X W a m) (hb : Ev X W b n) : Ev X W (.BinOp a op b pos) (x2 g m n) :=
  PE_imp (pe_op ho ha hb) fun σ H Q ⟨U, env, sa, po⟩ => ⟨U, env, sa, Po.step po fun v H1 d e1 a r po1 => ⟨U, e1, a.sa, Po.step po1 fun v2 H2 d2 e2 a2 r2 po2 => by
    obtain ⟨z, hz, q⟩ := Po.of_some a2.sa po2
    exact hs _ _ _ _ _ _ _ _ a2.sa.alU (a2.rep a.sa r) r2 hz q⟩⟩
theorem ev_un {op : UnaryOp} {g : D → Option D} {r : V → Hp → VK → Prop} (ho : UnR X (unaryOp op) r) (hs : Snd1 X.K g r) (ha : Ev X W a m) : Ev X W (.UnaryOp op a pos) (x1 g m) :=
  PE_imp (pe_un ho ha) fun σ H Q ⟨U, env, sa, po⟩ => ⟨U, env, sa, Po.step po fun v H1 d e1 a r po1 => by
    obtain ⟨z, hz, q⟩ := Po.of_some a.sa po1
    exact hs _ _ _ _ _ _ a.sa.alU r hz q⟩
theorem ev_cmp {op : CmpOp} {g : D → D → Option D} {r : R2} (ho : OpR X (compareOp op) r) (hs : Snd2 X.K g r) (ha : Ev X W a m) (hb : Ev X W b n) (hm : behindInMarks op b = false) : Ev X W (.Compare a [op] [b] pos) (x2 g m n) :=
  PE_imp (pe_cmpR ho ha hb hm) fun σ H Q ⟨U, env, sa, po⟩ => ⟨U, env, sa, Po.step po fun v H1 d e1 a r po1 => ⟨U, e1, a.sa, Po.step po1 fun v2 H2 d2 e2 a2 r2 po2 => by
    obtain ⟨z, hz, q⟩ := Po.of_some a2.sa po2
    exact hs _ _ _ _ _ _ _ _ a2.sa.alU (a2.rep a.sa r) r2 hz q⟩⟩
/-- a truth -/
def isBl : D → Option Bool
  | .bl b => some b
  | _ => none
def tB1 (m : En → Rs D) : En → Rs Bool := fun env => (m env).bind fun d e => .of (isBl d) e
theorem isBl_rep {d : D} {b : Bool} {x : V} (h : isBl d = some b) (r : Rep K U H d x) : x = .bl b := by
  cases d <;> simp [isBl] at h
  subst h
  exact r
theorem Po.isBl {d : D} {Q : Bool → Hp → Prop} {x : V} (sa : SA K U env σ H) (r : Rep K (Ux U env σ) H d x) (h : Po RB K W U env σ H (.of (isBl d) env) Q) : ∃ b, x = .bl b ∧ Q b H := by
  cases e : Mi.isBl d with
  | none => rw [e] at h; exact h.elim
  | some b => rw [e] at h; exact ⟨b, isBl_rep e r, h b H (.refl sa) rfl⟩
theorem et_cmp {op : CmpOp} {g : D → D → Option D} {r : R2} (ho : OpR X (compareOp op) r) (hs : Snd2 X.K g r) (ha : Ev X W a m) (hb : Ev X W b n) (hm : behindInMarks op b = false) : EvT X W (.Compare a [op] [b] pos) (tB1 (x2 g m n)) := by
  refine PT_imp (pt_cmpR ho ha hb hm) fun σ H Q ⟨U, env, sa, po⟩ => ⟨U, env, sa, ?_⟩
  unfold tB1 x2 at po
  rw [Rs.bind_assoc] at po
  refine Po.step po fun v H1 d e1 a r po1 => ⟨U, e1, a.sa, ?_⟩
  rw [Rs.bind_assoc] at po1
  refine Po.step po1 fun v2 H2 d2 e2 a2 r2 po2 => ?_
  cases hz : g d d2 with
  | none => rw [hz] at po2; exact po2.elim
  | some z =>
    rw [hz] at po2
    refine hs _ _ _ _ _ _ _ _ a2.sa.alU (a2.rep a.sa r) r2 hz fun x H' s q => ?_
    have a3 := (Ste.refl a2.sa).same s
    obtain ⟨b, e, h⟩ := Po.isBl a3.sa q (Po.shift (R2 := RB) a3 po2)
    exact ⟨b, e, h⟩
theorem ev_n {t : TA → TE} {g : List D → Option D} {r : List V → Hp → VK → Prop} (hs : SndN X.K g r) (ha : EvN X W es k ma) (h : PE X e (tCB r (tA X.K W ma))) : Ev X W e (xN g ma) :=
  PE_imp h fun σ H Q ⟨U, env, sa, po⟩ => ⟨U, env, sa, Po.step po fun v H1 d e1 a r po1 => by
    obtain ⟨z, hz, q⟩ := Po.of_some a.sa po1
    exact hs _ _ _ _ _ _ a.sa.alU r hz q⟩
end
end Mi

set_option Elab.async false
set_option linter.all false
set_option maxRecDepth 100000
set_option maxHeartbeats 4000000
/-! Mi7: the operations on trees, each with its rule -/
namespace Mi
open PySem PySem.Spec L2
section
variable {K : PySem.W.Frag} {U : Addr → Prop} {H : Hp}
/-! ### arithmetic -/
def gAdd : D → D → Option D
  | .int i, .int j => some (.int (i + j))
  | .str x, .str y => if x.length + y.length ≤ sizeLine then some (.str (x ++ y)) else none
  | .lst a, .lst b => if a.length + b.length ≤ sizeLine then some (.lst (a ++ b)) else none
  | .tup a, .tup b => if a.length + b.length ≤ sizeLine then some (.tup (a ++ b)) else none
  | _, _ => none
def rAddM (K : PySem.W.Frag) : R2 := fun x y H Q => ((∃ i j, x = .int i ∧ y = .int j ∧ Q (.int (i + j)) H) ∨ (∃ i j, x = .str i ∧ y = .str j ∧ i.length + j.length ≤ sizeLine ∧ Q (.str (i ++ j)) H)) ∨ (rCat x y H Q ∨ rCatA K x y H Q)
theorem op_addM {X : Cx} : OpR X (binaryOp .Add) (rAddM X.K) := OpR.or (OpR.or op_add op_add_str) (OpR.or op_cat op_catA)
theorem s_add : Snd2 K gAdd (rAddM K) := by
  intro U H x y d e z Q al rx ry hz q
  cases d <;> cases e <;> simp [gAdd] at hz
  · subst hz; exact .inl (.inl ⟨_, _, rx, ry, q _ H (Same.refl H) rfl⟩)
  · obtain ⟨h, rfl⟩ := hz; exact .inl (.inr ⟨_, _, rx, ry, h, q _ H (Same.refl H) rfl⟩)
  · obtain ⟨h, rfl⟩ := hz
    obtain ⟨a, xs, rfl, h1, n1, r1⟩ := rx.tup_sq
    obtain ⟨b, ys, rfl, h2, n2, r2⟩ := ry.tup_sq
    refine .inr (.inr ⟨a, b, xs, ys, rfl, rfl, .of h1, .of h2, by rw [r1.len, r2.len]; exact h, fun e => ?_, fun _ e => ?_, fun _ _ p hp => ?_⟩)
    · subst e
      have : (_ : List D).length = 0 := r1.len.symm
      obtain rfl := List.length_eq_zero_iff.mp this
      exact q _ H (Same.refl H) ry
    · subst e
      have : (_ : List D).length = 0 := r2.len.symm
      obtain rfl := List.length_eq_zero_iff.mp this
      rw [List.append_nil] at q
      exact q _ H (Same.refl H) rx
    · exact q _ _ (same_new hp) (rep_tup_new al hp (r1.append r2))
  · obtain ⟨h, rfl⟩ := hz
    obtain ⟨a, xs, rfl, h1, n1, r1⟩ := rx.lst_sq
    obtain ⟨b, ys, rfl, h2, n2, r2⟩ := ry.lst_sq
    exact .inr (.inl ⟨a, b, xs, ys, rfl, rfl, h1, h2, by rw [r1.len, r2.len]; exact h, fun p hp => q _ _ (same_new hp) (rep_lst_new al hp (r1.append r2))⟩)
def gSub : D → D → Option D
  | .int i, .int j => some (.int (i - j))
  | _, _ => none
theorem s_sub : Snd2 K gSub (rI0 fun i j => .int (i - j)) := by
  intro U H x y d e z Q al rx ry hz q
  cases d <;> cases e <;> simp [gSub] at hz
  subst hz; exact ⟨_, _, rx, ry, q _ H (Same.refl H) rfl⟩
theorem Reps.rep {ds : List D} {xs : List V} (r : Reps K U H ds xs) : ∀ n : Nat, Reps K U H (List.replicate n ds).flatten (List.replicate n xs).flatten
  | 0 => rfl
  | n + 1 => by
    rw [List.replicate_succ, List.replicate_succ, List.flatten_cons, List.flatten_cons]
    exact r.append (Reps.rep r n)
def gMul : D → D → Option D
  | .int i, .int j => if i.natAbs.log2 + j.natAbs.log2 < 1000000 ∨ j.natAbs.log2 < 60 then some (.int (i * j)) else none
  | .lst a, .int k => if k.natAbs ≤ 1000000 ∧ a.length * k.toNat ≤ sizeLine then some (.lst (List.replicate k.toNat a).flatten) else none
  | .tup a, .int k => if a ≠ [] ∧ 2 ≤ k ∧ k ≤ 1000 ∧ a.length ≤ 1000 then some (.tup (List.replicate k.toNat a).flatten) else none
  | _, _ => none
def rMulM (K : PySem.W.Frag) : R2 := fun x y H Q => (rI CMulW (fun i j => .int (i * j)) x y H Q ∨ rI CMul (fun i j => .int (i * j)) x y H Q) ∨ (rRep x y H Q ∨ rRepT K x y H Q)
theorem op_mulM {X : Cx} : OpR X (binaryOp .Mult) (rMulM X.K) := OpR.or (OpR.or op_mulW op_mul) (OpR.or op_rep op_repT)
theorem s_mul : Snd2 K gMul (rMulM K) := by
  intro U H x y d e z Q al rx ry hz q
  cases d <;> cases e <;> simp only [gMul, Option.ite_none_right_eq_some, reduceCtorEq] at hz
  · obtain ⟨h, e⟩ := hz
    cases e
    rcases h with h | h
    · exact .inl (.inl ⟨_, _, rx, ry, h, q _ H (Same.refl H) rfl⟩)
    · have h2 := PySem.lt_two_pow_of_log2_lt h
      exact .inl (.inr ⟨_, _, rx, ry, .inr (by omega), q _ H (Same.refl H) rfl⟩)
  · obtain ⟨⟨h1, h2, h3, h4⟩, e⟩ := hz
    cases e
    obtain ⟨a, xs, rfl, h5, n1, r1⟩ := rx.tup_sq
    refine .inr (.inr ⟨a, _, xs, rfl, ry, .of h5, fun e => h1 ?_, h2, h3, by rw [r1.len]; exact h4, fun p hp => q _ _ (same_new hp) (rep_tup_new al hp (r1.rep _))⟩)
    subst e
    exact List.length_eq_zero_iff.mp r1.len.symm
  · obtain ⟨⟨h1, h3⟩, e⟩ := hz
    cases e
    obtain ⟨a, xs, rfl, h5, n1, r1⟩ := rx.lst_sq
    exact .inr (.inl ⟨a, _, xs, rfl, ry, h5, by omega, by omega, by rw [r1.len]; exact h3, fun p hp => q _ _ (same_new hp) (rep_lst_new al hp (r1.rep _))⟩)
def gFdiv : D → D → Option D
  | .int i, .int j => if 0 < j ∧ j.natAbs.log2 < 9000 then some (.int (i / j)) else none
  | _, _ => none
theorem s_fdiv : Snd2 K gFdiv (rI CDivW fun i j => .int (i / j)) := by
  intro U H x y d e z Q al rx ry hz q
  cases d <;> cases e <;> simp only [gFdiv, Option.ite_none_right_eq_some, reduceCtorEq] at hz
  obtain ⟨h, e⟩ := hz
  cases e
  exact ⟨_, _, rx, ry, h, q _ H (Same.refl H) rfl⟩
def gMod : D → D → Option D
  | .int i, .int j => if 0 < j then some (.int (i % j)) else none
  | _, _ => none
theorem s_mod : Snd2 K gMod (rI (fun _ j => 0 < j) fun i j => .int (i % j)) := by
  intro U H x y d e z Q al rx ry hz q
  cases d <;> cases e <;> simp only [gMod, Option.ite_none_right_eq_some, reduceCtorEq] at hz
  obtain ⟨h, e⟩ := hz
  cases e
  exact ⟨_, _, rx, ry, h, q _ H (Same.refl H) rfl⟩
def gPow : D → D → Option D
  | .int i, .int j => if 0 ≤ j ∧ j ≤ 1000000 ∧ i.natAbs < 2 ^ 64 then some (.int (i ^ j.toNat)) else none
  | _, _ => none
theorem s_pow : Snd2 K gPow (rI CPow fun i j => .int (i ^ j.toNat)) := by
  intro U H x y d e z Q al rx ry hz q
  cases d <;> cases e <;> simp only [gPow, Option.ite_none_right_eq_some, reduceCtorEq] at hz
  obtain ⟨h, e⟩ := hz
  cases e
  exact ⟨_, _, rx, ry, h, q _ H (Same.refl H) rfl⟩
def gNeg : D → Option D
  | .int i => some (.int (-i))
  | _ => none
theorem s_neg : Snd1 K gNeg (rU fun i => .int (-i)) := by
  intro U H x d z Q al rx hz q
  cases d <;> simp [gNeg] at hz
  subst hz
  exact ⟨_, rx, q _ H (Same.refl H) rfl⟩
/-! ### comparisons -/
/-- the data alone -/
def D.py : D → Option PyData
  | .non => some .none
  | .bl b => some (.bool b)
  | .int i => some (.int i)
  | .str x => some (.str x)
  | .tup xs => (pys xs).map .tuple
  | .lst xs => (pys xs).map .list
  | _ => none
where pys : List D → Option (List PyData)
  | [] => some []
  | d :: ds => d.py.bind fun p => (pys ds).map fun r => p :: r
mutual
theorem Rep.dp : ∀ (d : D) (p : PyData) (v : V), Rep K U H d v → d.py = some p → Dp K H v p
  | .non, p, v, r, h => by simp [D.py] at h; subst h; rw [show v = _ from r]; exact .non
  | .bl b, p, v, r, h => by simp [D.py] at h; subst h; rw [show v = _ from r]; exact .bl b
  | .int i, p, v, r, h => by simp [D.py] at h; subst h; rw [show v = _ from r]; exact .int i
  | .str x, p, v, r, h => by simp [D.py] at h; subst h; rw [show v = _ from r]; exact .str x
  | .tup xs, p, v, r, h => by
    simp only [D.py, Option.map_eq_some_iff] at h
    obtain ⟨ps, h, rfl⟩ := h
    obtain ⟨a, vs, rfl, h1, _, r⟩ := r.tup_sq
    exact .tup (.of h1) (Reps.dp xs ps vs r h)
  | .lst xs, p, v, r, h => by
    simp only [D.py, Option.map_eq_some_iff] at h
    obtain ⟨ps, h, rfl⟩ := h
    obtain ⟨a, vs, rfl, h1, _, r⟩ := r.lst_sq
    exact .lst (.of h1) (Reps.dp xs ps vs r h)
  | .dct t ks vs, p, v, r, h => by simp [D.py] at h
  | .obj c ns vs, p, v, r, h => by simp [D.py] at h
  | .fz vs, p, v, r, h => by simp [D.py] at h
theorem Reps.dp : ∀ (ds : List D) (ps : List PyData) (vs : List V), Reps K U H ds vs → D.py.pys ds = some ps → DpAll K H vs ps
  | [], ps, vs, r, h => by simp [D.py.pys] at h; subst h; rw [show vs = _ from r]; exact .nil
  | d :: ds, ps, vs, r, h => by
    obtain ⟨x, t, rfl, r1, r2⟩ := r
    simp only [D.py.pys, Option.bind_eq_some_iff, Option.map_eq_some_iff] at h
    obtain ⟨p, h1, qs, h2, rfl⟩ := h
    exact .cons (Rep.dp d p x r1 h1) (Reps.dp ds qs t r2 h2)
end
def eqD (d e : D) : Option Bool := match d, e with
  | .str x, .str y => some (decide (x = y))
  | d, e => match d.py, e.py with
    | some p, some q => if SeqAt.shaped p = true ∧ SeqAt.shaped q = true then some (PyData.eqv p q) else none
    | _, _ => none
def gEq (d e : D) : Option D := (eqD d e).map .bl
def gNe (d e : D) : Option D := (eqD d e).map fun b => .bl (!b)
def rEqM (K : PySem.W.Frag) : R2 := fun x y H Q => rEqD K x y H Q ∨ rEq x y H Q
def rNeM (K : PySem.W.Frag) : R2 := fun x y H Q => rNeD K x y H Q ∨ rNe x y H Q
theorem op_eqM {X : Cx} (hu : X.A.units + 64 < cLine) : OpR X (compareOp .Eq) (rEqM X.K) := OpR.or (op_eqD hu) op_eq
theorem op_neM {X : Cx} (hu : X.A.units + 64 < cLine) : OpR X (compareOp .NotEq) (rNeM X.K) := OpR.or (op_neD hu) op_ne
theorem eqD_or {d e : D} {b : Bool} (h : eqD d e = some b) : (∃ x y, d = .str x ∧ e = .str y ∧ b = decide (x = y)) ∨ ∃ p q, d.py = some p ∧ e.py = some q ∧ SeqAt.shaped p = true ∧ SeqAt.shaped q = true ∧ b = PyData.eqv p q := by
  unfold eqD at h
  split at h
  · exact .inl ⟨_, _, rfl, rfl, (Option.some.inj h).symm⟩
  · cases h1 : d.py with
    | none => rw [h1] at h; cases h
    | some p =>
      cases h2 : e.py with
      | none => rw [h1, h2] at h; cases h
      | some p2 =>
        rw [h1, h2] at h
        simp only [Option.ite_none_right_eq_some] at h
        exact .inr ⟨p, p2, rfl, rfl, h.1.1, h.1.2, (Option.some.inj h.2).symm⟩
theorem dec_str (x y : Str) : decide (V.str x = V.str y) = decide (x = y) := by
  by_cases e : x = y
  · subst e; simp
  · simp [e]
theorem s_eq : Snd2 K gEq (rEqM K) := by
  intro U H x y d e z Q al rx ry hz q
  obtain ⟨b, hb, rfl⟩ := Option.map_eq_some_iff.mp hz
  rcases eqD_or hb with ⟨a, c, rfl, rfl, rfl⟩ | ⟨p, p2, h1, h2, s1, s2, rfl⟩
  · refine .inr ⟨by rw [show x = _ from rx, show y = _ from ry]; rfl, ?_⟩
    rw [show x = _ from rx, show y = _ from ry, dec_str]
    exact q _ H (Same.refl H) rfl
  · exact .inl ⟨p, p2, Rep.dp _ _ _ rx h1, Rep.dp _ _ _ ry h2, s1, s2, q _ H (Same.refl H) rfl⟩
theorem s_ne : Snd2 K gNe (rNeM K) := by
  intro U H x y d e z Q al rx ry hz q
  obtain ⟨b, hb, rfl⟩ := Option.map_eq_some_iff.mp hz
  rcases eqD_or hb with ⟨a, c, rfl, rfl, rfl⟩ | ⟨p, p2, h1, h2, s1, s2, rfl⟩
  · refine .inr ⟨by rw [show x = _ from rx, show y = _ from ry]; rfl, ?_⟩
    rw [show x = _ from rx, show y = _ from ry, dec_str]
    exact q _ H (Same.refl H) rfl
  · exact .inl ⟨p, p2, Rep.dp _ _ _ rx h1, Rep.dp _ _ _ ry h2, s1, s2, q _ H (Same.refl H) rfl⟩
def sLt (x y : Str) : Bool := decide (x.cps.toList < y.cps.toList)
def gOrd (f : Int → Int → Bool) (g : Str → Str → Bool) : D → D → Option D
  | .int i, .int j => some (.bl (f i j))
  | .str x, .str y => some (.bl (g x y))
  | _, _ => none
abbrev gLt : D → D → Option D := gOrd (fun i j => decide (i < j)) fun x y => sLt x y
abbrev gLe : D → D → Option D := gOrd (fun i j => decide (i ≤ j)) fun x y => !sLt y x
abbrev gGt : D → D → Option D := gOrd (fun i j => decide (j < i)) fun x y => sLt y x
abbrev gGe : D → D → Option D := gOrd (fun i j => decide (j ≤ i)) fun x y => !sLt x y
def rOrd (f : Int → Int → Bool) (g : Str → Str → Bool) : R2 := fun x y H Q => (∃ i j, x = .int i ∧ y = .int j ∧ Q (.bl (f i j)) H) ∨ (∃ i j, x = .str i ∧ y = .str j ∧ Q (.bl (g i j)) H)
theorem s_ord {f : Int → Int → Bool} {g : Str → Str → Bool} : Snd2 K (gOrd f g) (rOrd f g) := by
  intro U H x y d e z Q al rx ry hz q
  cases d <;> cases e <;> simp [gOrd] at hz
  · subst hz; exact .inl ⟨_, _, rx, ry, q _ H (Same.refl H) rfl⟩
  · subst hz; exact .inr ⟨_, _, rx, ry, q _ H (Same.refl H) rfl⟩
theorem op_ltM {X : Cx} : OpR X (compareOp .Lt) (rOrd (fun i j => decide (i < j)) fun x y => sLt x y) := OpR.or op_lt op_lt_str
theorem op_leM {X : Cx} : OpR X (compareOp .LtE) (rOrd (fun i j => decide (i ≤ j)) fun x y => !sLt y x) := OpR.or op_le op_le_str
theorem op_gtM {X : Cx} : OpR X (compareOp .Gt) (rOrd (fun i j => decide (j < i)) fun x y => sLt y x) := OpR.or op_gt op_gt_str
theorem op_geM {X : Cx} : OpR X (compareOp .GtE) (rOrd (fun i j => decide (j ≤ i)) fun x y => !sLt x y) := OpR.or op_ge op_ge_str
def isNon : D → Bool
  | .non => true
  | _ => false
def gIsN : D → D → Option D
  | d, .non => some (.bl (isNon d))
  | _, _ => none
theorem Rep.non_iff {d : D} {x : V} (r : Rep K U H d x) : decide (x = .non) = isNon d := by
  have fin : ∀ v : V, x = v → decide (v = V.non) = isNon d → decide (x = .non) = isNon d := fun v e h => by rw [e]; exact h
  cases d with
  | non => exact fin _ r rfl
  | bl b => exact fin _ r rfl
  | int b => exact fin _ r rfl
  | str b => exact fin _ r rfl
  | tup b => obtain ⟨a, xs, rfl, _⟩ := r; rfl
  | lst b => obtain ⟨a, xs, rfl, _⟩ := r; rfl
  | dct t k b => obtain ⟨a, xs, rfl, _⟩ := r; rfl
  | obj t k b => obtain ⟨a, dx, xs, rfl, _⟩ := r; rfl
  | fz b => obtain ⟨a, xs, rfl, _⟩ := r; rfl
theorem s_isN : Snd2 K gIsN (fun x y H Q => y = .non ∧ Q (.bl (decide (x = .non))) H) := by
  intro U H x y d e z Q al rx ry hz q
  cases e <;> simp [gIsN] at hz
  subst hz
  refine ⟨ry, ?_⟩
  rw [rx.non_iff]
  exact q _ H (Same.refl H) rfl
def gNotN : D → D → Option D
  | d, .non => some (.bl (!isNon d))
  | _, _ => none
theorem s_notN : Snd2 K gNotN (fun x y H Q => y = .non ∧ Q (.bl (!decide (x = .non))) H) := by
  intro U H x y d e z Q al rx ry hz q
  cases e <;> simp [gNotN] at hz
  subst hz
  refine ⟨ry, ?_⟩
  rw [rx.non_iff]
  exact q _ H (Same.refl H) rfl
/-- in: a flat thing in a list or tuple of such, a text in a text, a key in a dict -/
def isFlat : D → Bool
  | .non => true
  | .bl _ => true
  | .int _ => true
  | .str _ => true
  | _ => false
def eqF : D → D → Bool
  | .non, .non => true
  | .bl a, .bl b => a == b
  | .bl a, .int b => (if a then 1 else 0) == b
  | .int a, .bl b => a == (if b then 1 else 0)
  | .int a, .int b => a == b
  | .str a, .str b => a == b
  | _, _ => false
theorem flat_v {d : D} {x : V} (h : isFlat d = true) (r : Rep K U H d x) : flatV x = true := by
  cases d <;> simp [isFlat] at h <;> rw [show x = _ from r] <;> rfl
theorem eqF_v {d e : D} {x y : V} (h1 : isFlat d = true) (h2 : isFlat e = true) (r1 : Rep K U H d x) (r2 : Rep K U H e y) : eqV x y = eqF d e := by
  cases d <;> simp [isFlat] at h1 <;> rw [show x = _ from r1] <;> cases e <;> simp [isFlat] at h2 <;> rw [show y = _ from r2] <;> rfl
theorem flats_v : ∀ {ds : List D} {xs : List V}, ds.all isFlat = true → Reps K U H ds xs → xs.all flatV = true
  | [], _, _, r => by rw [show _ = _ from r]; rfl
  | d :: ds, _, h, ⟨x, t, e, r1, r2⟩ => by
    rw [List.all_cons, Bool.and_eq_true] at h
    rw [e, List.all_cons, flat_v h.1 r1, flats_v h.2 r2]; rfl
def inF (d : D) (ds : List D) : Bool := ds.any fun e => eqF e d
theorem inF_v {d : D} {x : V} (h1 : isFlat d = true) (r1 : Rep K U H d x) : ∀ {ds : List D} {xs : List V}, ds.all isFlat = true → Reps K U H ds xs → inV x xs = inF d ds
  | [], _, _, r => by rw [show _ = _ from r]; rfl
  | e :: ds, _, h, ⟨y, t, q, r2, r3⟩ => by
    rw [List.all_cons, Bool.and_eq_true] at h
    have ih := inF_v h1 r1 h.2 r3
    rw [q]
    show (eqV y x || inV x t) = (eqF e d || inF d ds)
    rw [ih, eqF_v h.1 h1 r2 r1]
/-- a key of a dict -/
def keyOf : D → Option Key
  | .int i => some (.inl i)
  | .str x => some (.inr x)
  | _ => none
def keysOf : List D → Option (List Key)
  | [] => some []
  | d :: ds => match keyOf d, keysOf ds with
    | some k, some r => some (k :: r)
    | _, _ => none
def kyOf : Key → Ky
  | .inl i => .int i
  | .inr x => .str x
def findK (k : Ky) : List Ky → List D → Option D
  | l :: ks, v :: vs => if l = k then some v else findK k ks vs
  | _, _ => none
/-- what d[k] gives; none outside: no such key -/
def getK : D → D → Option (Option D)
  | .dct false ks vs, k => (keyOf k).map fun k => findK (kyOf k) ks vs
  | .dct true ks vs, .tup xs => (keysOf xs).map fun k => findK (.tup k) ks vs
  | _, _ => none
theorem keyOf_v {d : D} {k : Key} {x : V} (h : keyOf d = some k) (r : Rep K U H d x) : x = kV k := by
  cases d <;> simp [keyOf] at h <;> subst h <;> exact r
theorem keysOf_v : ∀ {ds : List D} {k : List Key} {xs : List V}, keysOf ds = some k → Reps K U H ds xs → xs = k.map kV
  | [], k, xs, h, r => by simp [keysOf] at h; subst h; exact r
  | d :: ds, k, xs, h, ⟨x, t, e, r1, r2⟩ => by
    simp only [keysOf] at h
    cases h1 : keyOf d with
    | none => simp [h1] at h
    | some a =>
      cases h2 : keysOf ds with
      | none => simp [h1, h2] at h
      | some b =>
        simp [h1, h2] at h
        subst h
        rw [e, keyOf_v h1 r1, keysOf_v h2 r2]
        rfl
def RepOp (K : PySem.W.Frag) (U : Addr → Prop) (H : Hp) : Option D → Option V → Prop
  | some z, some v => Rep K U H z v
  | none, none => True
  | _, _ => False
theorem findK_valV {κ : Type} [DecidableEq κ] (f : Ky → Option κ) (g : κ → Ky) (fg : ∀ k, f (g k) = some k) (gf : ∀ l k, f l = some k → l = g k) (k : κ) : ∀ (ks : List Ky) (vs : List D) (kvs : List (κ × V)), ks.map f = kvs.map (fun p => some p.1) →
    Reps K U H vs (kvs.map (·.2)) → RepOp K U H (findK (g k) ks vs) (valV kvs k)
  | [], vs, kvs, h, r => by
    cases kvs with
    | nil => cases vs <;> trivial
    | cons p kvs => simp at h
  | l :: ks, vs, [], h, r => by simp at h
  | l :: ks, [], p :: kvs, h, r => by
    have r := Reps.len r
    simp at r
  | l :: ks, v :: vs, p :: kvs, h, ⟨x, t, e, r1, r2⟩ => by
    simp only [List.map_cons, List.cons.injEq] at h e
    obtain ⟨h1, h2⟩ := h
    obtain ⟨rfl, rfl⟩ := e
    have hl : l = g p.1 := gf _ _ h1
    by_cases hk : p.1 = k
    · have e1 : findK (g k) (l :: ks) (v :: vs) = some v := by unfold findK; rw [if_pos (by rw [hl, hk])]
      have e2 : valV (p :: kvs) k = some p.2 := by unfold valV; rw [List.find?_cons_of_pos (by simpa using hk)]; rfl
      rw [e1, e2]
      exact r1
    · have e1 : findK (g k) (l :: ks) (v :: vs) = findK (g k) ks vs := by
        rw [findK, if_neg]
        rintro q
        apply hk
        have := fg p.1
        rw [← hl, q, fg] at this
        exact (Option.some.inj this).symm
      have e2 : valV (p :: kvs) k = valV kvs k := by unfold valV; rw [List.find?_cons_of_neg (by simpa using hk)]
      rw [e1, e2]
      exact findK_valV f g fg gf k ks vs kvs h2 r2
theorem getK_get {d k : D} {r : Option D} {x y : V} (rx : Rep K U H d x) (ry : Rep K U H k y) (h : getK d k = some r) : ∃ a r', x = .ref a ∧ DGet H a y r' ∧ RepOp K U H r r' := by
  cases d with
  | dct t ks vs =>
    obtain ⟨a, xs, rfl, _, dc, q⟩ := rx
    cases t with
    | false =>
      obtain ⟨kvs, h1, h2, h3⟩ := dc
      simp only [getK, Option.map_eq_some_iff] at h
      obtain ⟨c, h4, rfl⟩ := h
      obtain rfl := keyOf_v h4 ry
      subst h3
      refine ⟨a, _, rfl, .inl ⟨kvs, _, h1, rfl, rfl⟩, findK_valV kyK kyOf (fun k => by cases k <;> rfl) (fun l k e => ?_) c ks vs kvs h2 q⟩
      cases l <;> simp [kyK] at e <;> subst e <;> rfl
    | true =>
      obtain ⟨kvs, h1, h2, h3⟩ := dc
      cases k <;> simp only [getK, reduceCtorEq] at h
      simp only [Option.map_eq_some_iff] at h
      obtain ⟨c, h4, rfl⟩ := h
      obtain ⟨b, ys, rfl, h5, _, r5⟩ := ry.tup_sq
      obtain rfl := keysOf_v h4 r5
      subst h3
      refine ⟨a, _, rfl, .inr ⟨kvs, _, _, h1, rfl, h5, rfl⟩, findK_valV kyT Ky.tup (fun k => rfl) (fun l k e => ?_) c ks vs kvs h2 q⟩
      cases l <;> simp [kyT] at e
      subst e
      rfl
  | _ => simp [getK] at h
end
end Mi

set_option Elab.async false
set_option linter.all false
set_option maxRecDepth 100000
set_option maxHeartbeats 4000000
/-! Mi8: truth, and, or, conditions, displays, subscripts, slices, in -/
namespace Mi
open PySem PySem.Spec L2
/-! ### truth -/
def D.truth : D → Option Bool
  | .non => some false
  | .bl b => some b
  | .int i => some (i != 0)
  | .str x => if x.length ≤ sizeLine then some ((x.length : Int) != 0) else none
  | .tup xs => some (!xs.isEmpty)
  | .lst xs => some (!xs.isEmpty)
  | _ => none
section
variable {K : PySem.W.Frag} {U : Addr → Prop} {H : Hp}
theorem Reps.empty {ds : List D} {xs : List V} (r : Reps K U H ds xs) : xs.isEmpty = ds.isEmpty := by
  cases ds with
  | nil => have e : xs = [] := r; subst e; rfl
  | cons d ds => obtain ⟨x, t, rfl, _⟩ := r; rfl
theorem truth_v {d : D} {x : V} {b : Bool} (r : Rep K U H d x) (h : d.truth = some b) : TruV K x H b := by
  cases d with
  | non => simp [D.truth] at h; rw [show x = _ from r]; exact h
  | bl c => simp [D.truth] at h; rw [show x = _ from r]; exact h.symm
  | int i => simp [D.truth] at h; rw [show x = _ from r]; exact h.symm
  | str y =>
    simp only [D.truth, Option.ite_none_right_eq_some] at h
    rw [show x = _ from r]
    exact ⟨h.1, (Option.some.inj h.2).symm⟩
  | tup ds =>
    obtain ⟨a, xs, rfl, h1, _, r⟩ := r.tup_sq
    exact .inr (.inl ⟨xs, .of h1, by rw [r.empty]; exact (Option.some.inj h).symm⟩)
  | lst ds =>
    obtain ⟨a, xs, rfl, h1, _, r⟩ := r.lst_sq
    exact .inl ⟨xs, .of h1, by rw [r.empty]; exact (Option.some.inj h).symm⟩
  | dct t ks vs => simp [D.truth] at h
  | obj c ns vs => simp [D.truth] at h
  | fz vs => simp [D.truth] at h
end
def ttTru (m : En → Rs D) : En → Rs Bool := fun env => (m env).bind fun d e => .of d.truth e
def ttNot (m : En → Rs Bool) : En → Rs Bool := fun env => (m env).bind fun b e => .ok (!b) e
def ttAnd (m n : En → Rs Bool) : En → Rs Bool := fun env => (m env).bind fun b e => match b with
  | true => n e
  | false => .ok false e
def ttOr (m n : En → Rs Bool) : En → Rs Bool := fun env => (m env).bind fun b e => match b with
  | true => .ok true e
  | false => n e
def xAnd (m n : En → Rs D) : En → Rs D := fun env => (m env).bind fun d e => match d with
  | .bl true => n e
  | .bl false => .ok (.bl false) e
  | _ => .bad
def xOr (m n : En → Rs D) : En → Rs D := fun env => (m env).bind fun d e => match d with
  | .bl true => .ok (.bl true) e
  | .bl false => n e
  | _ => .bad
def xNot (m : En → Rs D) : En → Rs D := fun env => (m env).bind fun d e => .of (d.truth.map fun b => .bl (!b)) e
def xIf (t : En → Rs Bool) (m n : En → Rs D) : En → Rs D := fun env => (t env).bind fun b e => match b with
  | true => m e
  | false => n e
def xChain (g g' : D → D → Option D) (ma mb mc : En → Rs D) : En → Rs D := fun env => (ma env).bind fun d1 e1 => (mb e1).bind fun d2 e2 => match g d1 d2 with
  | some (.bl true) => (mc e2).bind fun d3 e3 => .of (g' d2 d3) e3
  | some (.bl false) => .ok (.bl false) e2
  | _ => .bad
section
variable {X : Cx} {W : WX} {a b c e : Expr} {rest : List Expr} {m n o : En → Rs D} {tm tn : En → Rs Bool} {pos : Pos}
theorem et_tru (ha : Ev X W a m) (he : ∀ whole, isTrue a X.env whole = (do let v ← whole; standAt a.pos; holding [v] (truthy v)) := by intro _; rfl) : EvT X W a (ttTru m) :=
  PT_imp (pt_truth ha he) fun σ H Q ⟨U, env, sa, po⟩ => ⟨U, env, sa, Po.step po fun v H1 d e1 a r po1 => by
    cases hd : d.truth with
    | none => rw [hd] at po1; exact po1.elim
    | some k => rw [hd] at po1; exact ⟨k, truth_v r hd, po1 k H1 (.refl a.sa) rfl⟩⟩
theorem et_not (ha : EvT X W a tm) : EvT X W (.UnaryOp .Not a pos) (ttNot tm) :=
  PT_imp (pt_not ha) fun σ H Q ⟨U, env, sa, po⟩ => ⟨U, env, sa, Po.step po fun v H1 d e1 a r po1 => by
    obtain rfl : v = d := r
    exact po1 (!v) H1 (.refl a.sa) rfl⟩
abbrev EvW (X : Cx) (W : WX) (e : Expr) (m : En → Rs Bool) : Prop := PW X e (tT X.K W m)
theorem ew_and1 (ha : EvT X W a tm) : EvW X W (.BoolOp .And [a] pos) tm := pw_and1 ha
theorem ew_or1 (ha : EvT X W a tm) : EvW X W (.BoolOp .Or [a] pos) tm := pw_or1 ha
theorem ew_and (ha : EvT X W a tm) (hb : EvW X W (.BoolOp .And (b :: rest) pos) tn) : EvW X W (.BoolOp .And (a :: b :: rest) pos) (ttAnd tm tn) :=
  PW_imp (pw_and ha hb) fun σ H Q ⟨U, env, sa, po⟩ => ⟨U, env, sa, Po.step po fun v H1 d e1 a r po1 => by
    obtain rfl : v = d := r
    cases v with
    | true => exact iteT ⟨U, e1, a.sa, po1⟩
    | false => exact iteF (po1 false H1 (.refl a.sa) rfl)⟩
theorem ew_or (ha : EvT X W a tm) (hb : EvW X W (.BoolOp .Or (b :: rest) pos) tn) : EvW X W (.BoolOp .Or (a :: b :: rest) pos) (ttOr tm tn) :=
  PW_imp (pw_or ha hb) fun σ H Q ⟨U, env, sa, po⟩ => ⟨U, env, sa, Po.step po fun v H1 d e1 a r po1 => by
    obtain rfl : v = d := r
    cases v with
    | true => exact iteT (po1 true H1 (.refl a.sa) rfl)
    | false => exact iteF ⟨U, e1, a.sa, po1⟩⟩
theorem et_w (h : EvW X W a tm) : EvT X W a tm := PW.pt h
theorem ev_and (ha : Ev X W a m) (hb : Ev X W (.BoolOp .And (b :: rest) pos) n) : Ev X W (.BoolOp .And (a :: b :: rest) pos) (xAnd m n) :=
  PE_imp (pe_and ha hb) fun σ H Q ⟨U, env, sa, po⟩ => ⟨U, env, sa, Po.step po fun v H1 d e1 a r po1 => by
    cases d with
    | bl k =>
      cases k with
      | true => exact ⟨true, r, iteT ⟨U, e1, a.sa, po1⟩⟩
      | false => exact ⟨false, r, iteF (po1 _ H1 (.refl a.sa) rfl)⟩
    | _ => exact po1.elim⟩
theorem ev_or (ha : Ev X W a m) (hb : Ev X W (.BoolOp .Or (b :: rest) pos) n) : Ev X W (.BoolOp .Or (a :: b :: rest) pos) (xOr m n) :=
  PE_imp (pe_or ha hb) fun σ H Q ⟨U, env, sa, po⟩ => ⟨U, env, sa, Po.step po fun v H1 d e1 a r po1 => by
    cases d with
    | bl k =>
      cases k with
      | true => exact ⟨true, r, iteT (po1 _ H1 (.refl a.sa) rfl)⟩
      | false => exact ⟨false, r, iteF ⟨U, e1, a.sa, po1⟩⟩
    | _ => exact po1.elim⟩
theorem ev_last {op : BoolOp} (ha : Ev X W a m) : Ev X W (.BoolOp op [a] pos) m := pe_one ha
theorem ev_not (ha : Ev X W a m) : Ev X W (.UnaryOp .Not a pos) (xNot m) :=
  PE_imp (pe_notT ha) fun σ H Q ⟨U, env, sa, po⟩ => ⟨U, env, sa, Po.step po fun v H1 d e1 a r po1 => by
    cases hd : d.truth with
    | none => rw [hd] at po1; exact po1.elim
    | some k => rw [hd] at po1; exact ⟨k, truth_v r hd, po1 _ H1 (.refl a.sa) rfl⟩⟩
theorem ev_if (hc : EvT X W c tm) (ha : Ev X W a m) (hb : Ev X W b n) : Ev X W (.IfExp c a b pos) (xIf tm m n) :=
  PE_imp (pe_ifExp hc ha hb) fun σ H Q ⟨U, env, sa, po⟩ => ⟨U, env, sa, Po.step po fun v H1 d e1 a r po1 => by
    obtain rfl : v = d := r
    cases v with
    | true => exact iteT ⟨U, e1, a.sa, po1⟩
    | false => exact iteF ⟨U, e1, a.sa, po1⟩⟩
theorem chain_ok {g g' : D → D → Option D} {r r' : R2} {K : PySem.W.Frag} (hs : Snd2 K g r) (hs' : Snd2 K g' r') {U : Addr → Prop} {env : En} {σ : St} {H : Hp} {Q : VK} (sa : SA K U env σ H) (po : Po (RD K) K W U env σ H (xChain g g' m n o env) Q) :
    tChain r r' (tE K W m) (tE K W n) (tE K W o) σ H Q := ⟨U, env, sa, Po.step po fun v H1 d e1 a r1 po1 => ⟨U, e1, a.sa, Po.step po1 fun v2 H2 d2 e2 a2 r2 po2 => by
    have key : ∀ k, g d d2 = some (.bl k) → (∀ v' H', Same H2 H' → Rep K (Ux U e2 σ) H' (.bl k) v' → ∃ k', v' = .bl k' ∧ (if k' = true then tE K W o σ H' (fun w' H4 => r' v2 w' H4 Q) else Q (.bl false) H')) → r v v2 H2 fun z H3 => ∃ k', z = .bl k' ∧ (if k' = true then tE K W o σ H3 (fun w' H4 => r' v2 w' H4 Q) else Q (.bl false) H3) :=
      fun k e h => hs _ _ _ _ _ _ _ _ a2.sa.alU (a2.rep a.sa r1) r2 e h
    cases hg : g d d2 with
    | none => simp only [hg] at po2; exact po2.elim
    | some z =>
      cases z with
      | bl k =>
        refine key k hg fun v' H' s q => ⟨k, q, ?_⟩
        have a3 := (Ste.refl a2.sa).same s
        simp only [hg] at po2
        cases k with
        | true => exact iteT ⟨U, e2, a3.sa, Po.step (Po.shift (R2 := RD K) a3 po2) fun v3 H3 d3 e3 a4 r3 po3 => by
            obtain ⟨z, hz, q⟩ := Po.of_some a4.sa po3
            exact hs' _ _ _ _ _ _ _ _ a4.sa.alU (a4.rep a3.sa (a3.rep a2.sa r2)) r3 hz q⟩
        | false => exact iteF (po2 _ H' a3 rfl)
      | _ => simp only [hg] at po2; exact po2.elim⟩⟩
theorem ev_chain {op op' : CmpOp} {g g' : D → D → Option D} {r r' : R2} (ho : OpR X (compareOp op) r) (ho' : OpR X (compareOp op') r') (hs : Snd2 X.K g r) (hs' : Snd2 X.K g' r') (ha : Ev X W a m) (hb : Ev X W b n) (hc : Ev X W c o)
    (hm : lastMarks [op, op'] [b, c] = false := by with_unfolding_all rfl) : Ev X W (.Compare a [op, op'] [b, c] pos) (xChain g g' m n o) :=
  PE_imp (pe_chain ho ho' ha hb hc hm) fun σ H Q ⟨U, env, sa, po⟩ => chain_ok hs hs' sa po
theorem et_chain {op op' : CmpOp} {g g' : D → D → Option D} {r r' : R2} (ho : OpR X (compareOp op) r) (ho' : OpR X (compareOp op') r') (hs : Snd2 X.K g r) (hs' : Snd2 X.K g' r') (ha : Ev X W a m) (hb : Ev X W b n) (hc : Ev X W c o)
    (hm : lastMarks [op, op'] [b, c] = false := by with_unfolding_all rfl) : EvT X W (.Compare a [op, op'] [b, c] pos) (tB1 (xChain g g' m n o)) := by
  refine PT_imp (pt_chain ho ho' ha hb hc hm) fun σ H Q ⟨U, env, sa, po⟩ => chain_ok hs hs' sa ?_
  unfold tB1 at po
  generalize xChain g g' m n o env = R at po
  cases R with
  | bad => exact po
  | er x e => exact po
  | ok d e =>
    intro v H' a r
    obtain ⟨b, e, h⟩ := Po.isBl a.sa r (Po.shift (R2 := RB) a po)
    exact ⟨b, e, h⟩
end
/-! ### displays -/
def xTup (ma : En → Rs (List D)) : En → Rs D := fun env => (ma env).bind fun ds e => .ok (.tup ds) e
def xLst (ma : En → Rs (List D)) : En → Rs D := fun env => (ma env).bind fun ds e => .ok (.lst ds) e
section
variable {X : Cx} {W : WX} {es : List Expr} {ma : En → Rs (List D)} {n k : Nat} {pos : Pos}
theorem ev_tup (h : EvN X W es n ma) (hn : n ≤ sizeLine := by decide) : Ev X W (.Tuple es k pos) (xTup ma) :=
  PE_imp (pe_tup h.pa) fun σ H Q ⟨U, env, sa, po⟩ => ⟨U, env, sa, by
    unfold xTup at po
    cases hm : ma env with
    | bad => rw [hm] at po; exact po
    | er x e => rw [hm] at po; exact po
    | ok ds e =>
      rw [hm] at po
      intro v H1 a r
      refine ⟨by rw [Reps.len r, h.len _ _ _ hm]; exact hn, fun p hp => ?_⟩
      exact po _ _ (a.same (same_new hp)) (rep_tup_new a.sa.alU hp r)⟩
theorem ev_lst (h : EvN X W es n ma) (hn : n ≤ sizeLine := by decide) : Ev X W (.List es pos) (xLst ma) :=
  PE_imp (pe_lst h.pa) fun σ H Q ⟨U, env, sa, po⟩ => ⟨U, env, sa, by
    unfold xLst at po
    cases hm : ma env with
    | bad => rw [hm] at po; exact po
    | er x e => rw [hm] at po; exact po
    | ok ds e =>
      rw [hm] at po
      intro v H1 a r
      refine ⟨by rw [Reps.len r, h.len _ _ _ hm]; exact hn, fun p hp => ?_⟩
      exact po _ _ (a.same (same_new hp)) (rep_lst_new a.sa.alU hp r)⟩
end
/-! ### subscripts -/
section
variable {X : Cx} {K : PySem.W.Frag}
def rIxD : R2 := fun x y H Q => ∃ a v, x = .ref a ∧ DGet H a y (some v) ∧ Q v H
theorem ix_dict (hu : X.A.units + 1 < cLine) : IxR X rIxD := by
  intro value slice pins s σ H x y v u Q I rx ry h hs
  obtain ⟨a, z, rfl, g, q⟩ := h
  obtain rfl : v = Value.ref a := rx
  have hT := dict_typeIs I g
  have core : wpAny (model X.prog X.w) X.A (subscripted slice false (.ref a) u) (fun r s₃ => wpAny (model X.prog X.w) X.A (letTemporaryGo value (.ref a) r >>= fun _ => pure r) (EP X pins σ Q) X.xe s₃) X.xe s := by
    rw [hs]
    exact wpAny_operating (wpAny_mono (d_getItem hu I g ry fun w' s3 I3 rw' => (⟨z, H, I3, rw', q⟩ : EP X pins σ Q w' s3)) (fun r s₃ h₃ => wpAny_bind (wpAny_letTemporaryGo (wpAny_pure h₃))) fun _ _ x => x)
  unfold PyProof.Rows.subscriptTail
  refine wpAny_bind ?_
  rw [getitemInPython_of_ne hT.not_modules]
  refine wpAny_bind (wpAny_specialOf hT PySem.F.slot_dict_getitem.lookup ?_)
  first
    | exact wpAny_pure (wpAny_bind core)
    | exact wpAny_bind (wpAny_pure (wpAny_bind core))
    | exact wpAny_bind core
def gIx : D → D → Option D
  | .fz ds, .int i => atI ds i
  | .lst ds, .int i => atI ds i
  | .tup ds, .int i => atI ds i
  | .str z, .int i => if z.length ≤ sizeLine then (atI z.cps.toList i).map fun c => .str ⟨#[c]⟩ else none
  | .dct t ks vs, k => (getK (.dct t ks vs) k).bind id
  | _, _ => none
def rIxM (K : PySem.W.Frag) : R2 := fun x y H Q => rIx K x y H Q ∨ rIxD x y H Q
theorem ix_m (hu : X.A.units + 1 < cLine) : IxR X (rIxM X.K) := IxR.or ix_seq (ix_dict hu)
theorem Reps.atI {U : Addr → Prop} {H : Hp} {ds : List D} {xs : List V} {i : Int} {d : D} (r : Reps K U H ds xs) (h : atI ds i = some d) : ∃ v, L2.atI xs i = some v ∧ Rep K U H d v := by
  unfold L2.atI at h ⊢
  rw [r.len]
  obtain ⟨j, h1, h2⟩ := Option.bind_eq_some_iff.mp h
  obtain ⟨v, h3, h4⟩ := r.get h2
  exact ⟨v, by rw [h1]; exact h3, h4⟩
theorem s_ix : Snd2 K gIx (rIxM K) := by
  intro U H x y d e z Q al rx ry hz q
  cases d with
  | lst ds =>
    cases e <;> simp only [gIx, reduceCtorEq] at hz
    obtain ⟨a, xs, rfl, h1, _, r⟩ := rx.lst_sq
    obtain ⟨v, h2, h3⟩ := r.atI hz
    exact .inl (.inl ⟨a, xs, _, v, rfl, ry, .of h1, h2, q v H (Same.refl H) h3⟩)
  | fz ds =>
    cases e <;> simp only [gIx, reduceCtorEq] at hz
    obtain ⟨a, xs, rfl, h1, r⟩ := rx
    obtain ⟨v, h2, h3⟩ := r.atI hz
    exact .inl (.inl ⟨a, xs, _, v, rfl, ry, h1.sq, h2, q v H (Same.refl H) h3⟩)
  | tup ds =>
    cases e <;> simp only [gIx, reduceCtorEq] at hz
    obtain ⟨a, xs, rfl, h1, _, r⟩ := rx.tup_sq
    obtain ⟨v, h2, h3⟩ := r.atI hz
    exact .inl (.inr (.inl ⟨a, xs, _, v, rfl, ry, .of h1, h2, q v H (Same.refl H) h3⟩))
  | str w =>
    cases e <;> simp only [gIx, reduceCtorEq, Option.ite_none_right_eq_some, Option.map_eq_some_iff] at hz
    obtain ⟨h1, c, h2, rfl⟩ := hz
    exact .inl (.inr (.inr ⟨w, _, c, rx, ry, h1, h2, q _ H (Same.refl H) rfl⟩))
  | dct t ks vs =>
    simp only [gIx, Option.bind_eq_some_iff, id_eq] at hz
    obtain ⟨r, h1, rfl⟩ := hz
    obtain ⟨a, r', rfl, g, m⟩ := getK_get rx ry h1
    cases r' with
    | none => exact m.elim
    | some v => exact .inr ⟨a, v, rfl, g, q v H (Same.refl H) m⟩
  | _ => simp [gIx] at hz
variable {W : WX} {a b : Expr} {m n : En → Rs D} {pos : Pos} {k : Nat}
theorem ev_ix (c : Co X k) (ha : Ev X W a m) (hb : Ev X W b n) (hs : PlainIx b := by exact fun _ _ => rfl) : Ev X W (.Subscript a b pos) (x2 gIx m n) :=
  PE_imp (pe_ix (ix_m (hu_of c.hr)) ha hb hs) fun σ H Q ⟨U, env, sa, po⟩ => ⟨U, env, sa, Po.step po fun v H1 d e1 a r po1 => ⟨U, e1, a.sa, Po.step po1 fun v2 H2 d2 e2 a2 r2 po2 => by
    obtain ⟨z, hz, q⟩ := Po.of_some a2.sa po2
    exact s_ix _ _ _ _ _ _ _ _ a2.sa.alU (a2.rep a.sa r) r2 hz q⟩⟩
/-! ### slices -/
def RO : (Addr → Prop) → St → Hp → Option Int → Option Int → Prop := fun _ _ _ a b => b = a
abbrev EvO (X : Cx) (W : WX) (e : Option Expr) (m : En → Rs (Option Int)) : Prop := PO X e (tM RO X.K W m)
def oNone : En → Rs (Option Int) := fun env => .ok none env
def isInt : D → Option Int
  | .int i => some i
  | _ => none
def oSome (m : En → Rs D) : En → Rs (Option Int) := fun env => (m env).bind fun d e => .of ((isInt d).map some) e
theorem isInt_v {U : Addr → Prop} {H : Hp} {d : D} {i : Int} {x : V} (h : isInt d = some i) (r : Rep K U H d x) : x = .int i := by
  cases d <;> simp [isInt] at h
  subst h
  exact r
theorem PO_imp {e : Option Expr} {t t' : TO} (h : PO X e t) (k : ∀ σ H Q, t' σ H Q → t σ H Q) : PO X e t' := ⟨fun pins s σ H Q I q => h.run pins s σ H Q I (k σ H Q q)⟩
theorem eo_none : EvO X W none oNone := PO_imp po_none fun σ H Q ⟨U, env, sa, po⟩ => po none H (.refl sa) rfl
theorem eo_some (h : Ev X W a m) : EvO X W (some a) (oSome m) :=
  PO_imp (po_some h) fun σ H Q ⟨U, env, sa, po⟩ => ⟨U, env, sa, Po.step po fun v H1 d e1 a r po1 => by
    cases hd : isInt d with
    | none => rw [hd] at po1; exact po1.elim
    | some i => rw [hd] at po1; exact ⟨i, isInt_v hd r, po1 (some i) H1 (.refl a.sa) rfl⟩⟩
def cutL {α : Type} (xs : List α) (lo hi : Option Int) : List α := (xs.drop (HT.sIx xs.length 0 lo)).take (HT.sIx xs.length xs.length hi - HT.sIx xs.length 0 lo)
def gSl (lo hi : Option Int) : D → Option D
  | .fz ds => some (.lst (cutL ds lo hi))
  | .lst ds => some (.lst (cutL ds lo hi))
  | .tup ds => some (.tup (cutL ds lo hi))
  | .str z => if z.length ≤ sizeLine then some (.str (cutS z lo hi)) else none
  | _ => none
def xSl (m : En → Rs D) (lo hi : En → Rs (Option Int)) : En → Rs D := fun env => (m env).bind fun d e1 => (lo e1).bind fun l e2 => (hi e2).bind fun h e3 => .of (gSl l h d) e3
theorem Reps.cut {U : Addr → Prop} {H : Hp} {ds : List D} {xs : List V} (r : Reps K U H ds xs) (lo hi : Option Int) : Reps K U H (cutL ds lo hi) (cutV xs lo hi) := by
  unfold cutL cutV
  rw [r.len]
  exact (r.drop _).take _
def rSlM (K : PySem.W.Frag) : V → Option Int → Option Int → Hp → VK → Prop := fun x lo hi H Q => rSlL K x lo hi H Q ∨ (rSlA K x lo hi H Q ∨ rSlS x lo hi H Q)
theorem sl_m : SlR X (rSlM X.K) := SlR.or sl_list (SlR.or sl_tupA sl_str)
theorem s_sl {lo hi : Option Int} {U : Addr → Prop} {H : Hp} {x : V} {d z : D} {Q : VK} (al : Al U H) (rx : Rep K U H d x) (hz : gSl lo hi d = some z) (q : ∀ v H', Same H H' → Rep K U H' z v → Q v H') : rSlM K x lo hi H Q := by
  cases d with
  | lst ds =>
    cases hz
    obtain ⟨a, xs, rfl, h1, _, r⟩ := rx.lst_sq
    exact .inl ⟨a, xs, rfl, .of h1, fun p hp => q _ _ (same_new hp) (rep_lst_new al hp (r.cut lo hi))⟩
  | fz ds =>
    cases hz
    obtain ⟨a, xs, rfl, h1, r⟩ := rx
    exact .inl ⟨a, xs, rfl, h1.sq, fun p hp => q _ _ (same_new hp) (rep_lst_new al hp (r.cut lo hi))⟩
  | tup ds =>
    cases hz
    have rx' := rx
    obtain ⟨a, xs, rfl, h1, _, r⟩ := rx.tup_sq
    refine .inr (.inl ⟨a, xs, rfl, .of h1, fun ⟨e1, e2⟩ => ?_, fun _ p hp => q _ _ (same_new hp) (rep_tup_new al hp (r.cut lo hi))⟩)
    have e : cutL ds lo hi = ds := by
      unfold cutL
      rw [← r.len, e1, e2, List.drop_zero, Nat.sub_zero, List.take_of_length_le (by rw [r.len]; exact Nat.le_refl _)]
    rw [e] at q
    exact q _ H (Same.refl H) rx'
  | str w =>
    simp only [gSl, Option.ite_none_right_eq_some] at hz
    obtain ⟨h1, e⟩ := hz
    cases e
    exact .inr (.inr ⟨w, rx, h1, q _ H (Same.refl H) rfl⟩)
  | _ => simp [gSl] at hz
theorem ev_sl {lo hi : Option Expr} {ml mh : En → Rs (Option Int)} {p2 : Pos} (ha : Ev X W a m) (hl : EvO X W lo ml) (hh : EvO X W hi mh) : Ev X W (.Subscript a (.Slice lo hi none p2) pos) (xSl m ml mh) :=
  PE_imp (pe_slice sl_m ha hl hh) fun σ H Q ⟨U, env, sa, po⟩ => ⟨U, env, sa, Po.step po fun v H1 d e1 a r po1 => ⟨U, e1, a.sa, Po.step po1 fun l H2 l' e2 a2 r2 po2 => ⟨U, e2, a2.sa, Po.step po2 fun h H3 h' e3 a3 r3 po3 => by
    obtain rfl : l = l' := r2
    obtain rfl : h = h' := r3
    obtain ⟨z, hz, q⟩ := Po.of_some a3.sa po3
    exact s_sl a3.sa.alU (a3.rep a2.sa (a2.rep a.sa r)) hz q⟩⟩⟩
/-! ### in -/
def sIn (x y : Str) : Option Bool := match x.cps.toList with
  | [c] => some (decide (c ∈ y.cps.toList))
  | _ => none
def gInB : D → D → Option Bool
  | d, .lst ds => if isFlat d = true ∧ ds.all isFlat = true then some (inF d ds) else none
  | d, .tup ds => if isFlat d = true ∧ ds.all isFlat = true then some (inF d ds) else none
  | .str x, .str y => sIn x y
  | d, .dct t ks vs => (getK (.dct t ks vs) d).map (·.isSome)
  | _, _ => none
def gIn (d e : D) : Option D := (gInB d e).map .bl
def gNotIn (d e : D) : Option D := (gInB d e).map fun b => .bl (!b)
def rInD (neg : Bool) : R2 := fun y x H Q => ∃ a o, x = .ref a ∧ DGet H a y o ∧ Q (.bl (if neg then !o.isSome else o.isSome)) H
theorem op_inD (hu : X.A.units + 1 < cLine) : OpR X (compareOp .In) (rInD false) := by
  intro pins s σ H y x u v Q I ry rx h
  obtain ⟨a, o, rfl, g, q⟩ := h
  obtain rfl : v = Value.ref a := rx
  exact d_in hu I g ry fun s3 I3 => ⟨.bl _, H, I3, rfl, q⟩
theorem op_notInD (hu : X.A.units + 1 < cLine) : OpR X (compareOp .NotIn) (rInD true) := by
  intro pins s σ H y x u v Q I ry rx h
  obtain ⟨a, o, rfl, g, q⟩ := h
  obtain rfl : v = Value.ref a := rx
  exact d_notIn hu I g ry fun s3 I3 => ⟨.bl _, H, I3, rfl, q⟩
def rSign (neg : Bool) : R2 := fun x y H Q => ∃ (c : Nat) (z : Str), x = .str ⟨#[c]⟩ ∧ y = .str z ∧ Q (.bl (if neg then !decide (c ∈ z.cps.toList) else decide (c ∈ z.cps.toList))) H
def rInM (K : PySem.W.Frag) (neg : Bool) : R2 := fun x y H Q => rIn K neg x y H Q ∨ (rSign neg x y H Q ∨ rInD neg x y H Q)
theorem op_inM (hu : X.A.units + 1 < cLine) : OpR X (compareOp .In) (rInM X.K false) := OpR.or op_in_seq (OpR.or op_in_sign (op_inD hu))
theorem op_notInM (hu : X.A.units + 1 < cLine) : OpR X (compareOp .NotIn) (rInM X.K true) := OpR.or op_notIn_seq (OpR.or op_notIn_sign (op_notInD hu))
theorem in_core {neg : Bool} {U : Addr → Prop} {H : Hp} {x y : V} {d e : D} {b : Bool} {Q : VK} (rx : Rep K U H d x) (ry : Rep K U H e y) (hb : gInB d e = some b) (q : ∀ v, v = V.bl (if neg then !b else b) → Q v H) : rInM K neg x y H Q := by
  have fl : ∀ ds xs, isFlat d = true → ds.all isFlat = true → inF d ds = b → Reps K U H ds xs → flatV x = true ∧ xs.all flatV = true ∧ inV x xs = b := fun ds xs h1 h2 h3 r => ⟨flat_v h1 rx, flats_v h2 r, by rw [inF_v h1 rx h2 r, h3]⟩
  cases e with
  | lst ds =>
    obtain ⟨a, xs, rfl, h1, _, r⟩ := ry.lst_sq
    have hb : (if isFlat d = true ∧ ds.all isFlat = true then some (inF d ds) else none) = some b := by cases d <;> exact hb
    rw [Option.ite_none_right_eq_some] at hb
    obtain ⟨⟨h2, h3⟩, e⟩ := hb
    obtain ⟨f1, f2, f3⟩ := fl ds xs h2 h3 (Option.some.inj e) r
    exact .inl ⟨a, xs, rfl, .inl (.of h1), f1, f2, q _ (by rw [f3])⟩
  | tup ds =>
    obtain ⟨a, xs, rfl, h1, _, r⟩ := ry.tup_sq
    have hb : (if isFlat d = true ∧ ds.all isFlat = true then some (inF d ds) else none) = some b := by cases d <;> exact hb
    rw [Option.ite_none_right_eq_some] at hb
    obtain ⟨⟨h2, h3⟩, e⟩ := hb
    obtain ⟨f1, f2, f3⟩ := fl ds xs h2 h3 (Option.some.inj e) r
    exact .inl ⟨a, xs, rfl, .inr (.of h1), f1, f2, q _ (by rw [f3])⟩
  | str z =>
    cases d <;> simp only [gInB, reduceCtorEq] at hb
    rename_i w
    unfold sIn at hb
    cases hl : w.cps.toList with
    | nil => rw [hl] at hb; cases hb
    | cons c t =>
      cases t with
      | cons c2 t => rw [hl] at hb; cases hb
      | nil =>
        rw [hl] at hb
        have hb : decide (c ∈ z.cps.toList) = b := Option.some.inj hb
        have ew : w = ⟨#[c]⟩ := by
          cases w
          have : _ = [c].toArray := congrArg List.toArray hl
          simp at this
          rw [this]
        refine .inr (.inl ⟨c, z, by rw [← ew]; exact rx, ry, q _ ?_⟩)
        rw [hb]
  | dct t ks vs =>
    have hb : (getK (.dct t ks vs) d).map (·.isSome) = some b := by cases d <;> exact hb
    obtain ⟨r, h1, rfl⟩ := Option.map_eq_some_iff.mp hb
    obtain ⟨a, r', rfl, g, m⟩ := getK_get ry rx h1
    refine .inr (.inr ⟨a, r', rfl, g, q _ ?_⟩)
    cases r <;> cases r' <;> first | rfl | exact m.elim
  | _ => cases d <;> simp [gInB] at hb
theorem s_in : Snd2 K gIn (rInM K false) := by
  intro U H x y d e z Q al rx ry hz q
  obtain ⟨b, hb, rfl⟩ := Option.map_eq_some_iff.mp hz
  exact in_core rx ry hb fun v hv => q v H (Same.refl H) hv
theorem s_notIn : Snd2 K gNotIn (rInM K true) := by
  intro U H x y d e z Q al rx ry hz q
  obtain ⟨b, hb, rfl⟩ := Option.map_eq_some_iff.mp hz
  exact in_core rx ry hb fun v hv => q v H (Same.refl H) hv
end
end Mi

set_option Elab.async false
set_option linter.all false
set_option maxRecDepth 100000
set_option maxHeartbeats 4000000
/-! Mi9: statements -/
namespace Mi
open PySem PySem.Spec L2
section
variable {K : PySem.W.Frag} {W : WX} {U : Addr → Prop} {env : En} {σ : St} {H : Hp}
/-- a slot takes a value -/
theorem Ste.set {i : Nat} {d : D} {v : V} (sa : SA K U env σ H) (hi : i < env.length) (nio : ∀ o, env[i]? ≠ some (.io o)) (r : Rep K (Ux U env σ) H d v) : Ste K U env σ H (env.set i (.v d)) (σ.set i (some v)) H := by
  have his : i < σ.length := by rw [← sa.len]; exact hi
  have old : ∀ {j : Nat} {s : Sl} {p : Ob}, (env.set i (.v d))[j]? = some s → s.ob = some p → env[j]? = some s ∧ j ≠ i := fun {j s p} h1 h2 => by
    by_cases e : i = j
    · subst e
      rw [List.getElem?_set_self hi] at h1
      cases h1
      cases h2
    · rw [List.getElem?_set_ne e] at h1
      exact ⟨h1, fun z => e z.symm⟩
  have oldS : ∀ {j : Nat}, j ≠ i → (σ.set i (some v))[j]? = σ[j]? := fun {j} n => List.getElem?_set_ne (Ne.symm n)
  have ch : ∀ x, Chg (env.set i (.v d)) (σ.set i (some v)) x → Chg env σ x := fun x ⟨j, s, p, h1, h2, h3⟩ => by
    obtain ⟨h4, n⟩ := old h1 h2
    rw [oldS n] at h3
    exact ⟨j, s, p, h4, h2, h3⟩
  have sub : ∀ x, Ux U (env.set i (.v d)) (σ.set i (some v)) x → Ux U env σ x := fun x q => q.imp id (ch x)
  refine ⟨⟨by rw [List.length_set, List.length_set]; exact sa.len, sa.al, fun x c => sa.nu x (ch x c), fun j k s t p q x h1 h2 h3 h4 h5 h6 => ?_, fun j e h1 => ?_, fun j s p h1 h2 => ?_⟩, .refl, fun x c => .inl (ch x c), fun j p h1 => ?_⟩
  · obtain ⟨e1, n1⟩ := old h1 h2
    obtain ⟨e2, n2⟩ := old h3 h4
    rw [oldS n1] at h5
    rw [oldS n2] at h6
    exact sa.inj j k s t p q x e1 h2 e2 h4 h5 h6
  · by_cases e : i = j
    · subst e
      rw [List.getElem?_set_self hi] at h1
      cases h1
      exact ⟨v, List.getElem?_set_self his, Rep.to (fun _ _ _ q => q) (fun x o n _ q => n (sub x q)) _ v r⟩
    · rw [List.getElem?_set_ne e] at h1
      obtain ⟨w, e1, r'⟩ := sa.val j _ h1
      exact ⟨w, by rw [oldS (Ne.symm e)]; exact e1, Rep.to (fun _ _ _ q => q) (fun x o n _ q => n (sub x q)) _ w r'⟩
  · obtain ⟨e1, n1⟩ := old h1 h2
    obtain ⟨b, e2, r'⟩ := sa.ob j s p e1 h2
    exact ⟨b, by rw [oldS n1]; exact e2, RepO.to (fun _ _ _ q => q) (fun x o n _ q => n (sub x q)) (fun _ q => q) r'⟩
  · have n : j ≠ i := fun e => by subst e; exact nio p h1
    exact ⟨p, by rw [List.getElem?_set_ne (Ne.symm n)]; exact h1, oldS n⟩
/-- one address more that is not to be touched -/
def Up (U : Addr → Prop) (p : Addr) : Addr → Prop := fun a => U a ∨ a = p
theorem ux_up {p a : Addr} : Ux (Up U p) env σ a ↔ Ux U env σ a ∨ a = p := by
  unfold Ux Up
  constructor
  · rintro ((h | h) | h)
    · exact .inl (.inl h)
    · exact .inr h
    · exact .inl (.inr h)
  · rintro ((h | h) | h)
    · exact .inl (.inl h)
    · exact .inr h
    · exact .inl (.inr h)
/-- an expression that makes a new object which nothing else holds: it stands at p -/
structure Fre (K : PySem.W.Frag) (U : Addr → Prop) (env : En) (σ : St) (H : Hp) (env' : En) (H' : Hp) (o : Ob) (p : Addr) : Prop where
  nw : Chg env σ p ∨ H p = none
  nu : ¬ U p
  sa : SA K (Up U p) env' σ H'
  gr : Gr (Chg env σ) H H'
  fr : ∀ a, Chg env' σ a → Chg env σ a ∨ H a = none
  io : ∀ (i : Nat) (o : Ob), env[i]? = some (.io o) → ∃ o' : Ob, env'[i]? = some (.io o')
  ob : RepO K (Ux (Up U p) env' σ) H' o p
theorem Fre.ste {env' : En} {H' : Hp} {o : Ob} {p : Addr} (sa : SA K U env σ H) (f : Fre K U env σ H env' H' o p) : Ste K U env σ H env' σ H' ∧ Rep K (Ux U env' σ) H' o.val (.ref p) := by
  have sub : ∀ x, Ux U env' σ x → Ux (Up U p) env' σ x := fun x h => ux_up.mpr (.inl h)
  have np : ¬ Ux U env' σ p := fun h => by
    rcases h with h | h
    · exact f.nu h
    · exact f.sa.nu p h (.inr rfl)
  have r := RepO.to (K := K) (fun _ _ _ q => q) (fun x o n _ q => n (sub x q)) (fun _ q => q) f.ob
  refine ⟨⟨⟨f.sa.len, fun a h => f.sa.al a (.inl h), fun a c h => f.sa.nu a c (.inl h), f.sa.inj, fun i d h => ?_, fun i s o h1 h2 => ?_⟩, f.gr, f.fr, fun i o h => ?_⟩, ?_⟩
  · obtain ⟨v, e, r⟩ := f.sa.val i d h
    exact ⟨v, e, Rep.to (fun _ _ _ q => q) (fun x o n _ q => n (sub x q)) _ v r⟩
  · obtain ⟨a, e, r⟩ := f.sa.ob i s o h1 h2
    exact ⟨a, e, RepO.to (fun _ _ _ q => q) (fun x o n _ q => n (sub x q)) (fun _ q => q) r⟩
  · obtain ⟨o', e⟩ := f.io i o h
    exact ⟨o', e, rfl⟩
  · cases o with
    | lst ds => obtain ⟨xs, e, r⟩ := r; exact ⟨p, xs, rfl, ⟨e, np⟩, r⟩
    | dct t ks ds => obtain ⟨xs, e, r⟩ := r; exact ⟨p, xs, rfl, np, e.rd, r⟩
    | ins c ns ds => obtain ⟨dx, xs, e, l, r⟩ := r; exact ⟨p, dx, xs, rfl, np, e, l, r⟩
/-- .. and a name holds it -/
theorem Fre.own {env' : En} {H' : Hp} {o : Ob} {p : Addr} {i : Nat} (sa : SA K U env σ H) (f : Fre K U env σ H env' H' o p) (hi : i < env'.length) (nio : ∀ o, env'[i]? ≠ some (.io o)) :
    Ste K U env σ H (env'.set i (.ow o)) (σ.set i (some (.ref p))) H' := by
  have his : i < σ.length := by rw [← f.sa.len]; exact hi
  have np : ¬ U p := f.nu
  have get : ∀ {j : Nat} {s : Sl}, (env'.set i (.ow o))[j]? = some s → (j = i ∧ s = .ow o) ∨ (j ≠ i ∧ env'[j]? = some s) := fun {j s} h => by
    by_cases e : i = j
    · subst e
      rw [List.getElem?_set_self hi] at h
      cases h
      exact .inl ⟨rfl, rfl⟩
    · rw [List.getElem?_set_ne e] at h
      exact .inr ⟨Ne.symm e, h⟩
  have oldS : ∀ {j : Nat}, j ≠ i → (σ.set i (some (V.ref p)))[j]? = σ[j]? := fun {j} n => List.getElem?_set_ne (Ne.symm n)
  have newS : (σ.set i (some (V.ref p)))[i]? = some (some (V.ref p)) := List.getElem?_set_self his
  have ch : ∀ x, Chg (env'.set i (.ow o)) (σ.set i (some (.ref p))) x → Chg env' σ x ∨ x = p := fun x ⟨j, s, q, h1, h2, h3⟩ => by
    rcases get h1 with ⟨rfl, rfl⟩ | ⟨n, h4⟩
    · rw [newS] at h3
      cases h3
      exact .inr rfl
    · rw [oldS n] at h3
      exact .inl ⟨j, s, q, h4, h2, h3⟩
  have sub : ∀ x, Ux U (env'.set i (.ow o)) (σ.set i (some (.ref p))) x → Ux (Up U p) env' σ x := fun x h => ux_up.mpr (h.elim (fun h => .inl (.inl h)) fun c => (ch x c).imp .inr id)
  have ne : ∀ {x}, Chg env' σ x → x ≠ p := fun c e => f.sa.nu _ c (.inr e)
  refine ⟨⟨by rw [List.length_set, List.length_set]; exact f.sa.len, fun a h => f.sa.al a (.inl h), fun a c h => ?_, fun j k s t p1 p2 x h1 h2 h3 h4 h5 h6 => ?_, fun j d h => ?_, fun j s q h1 h2 => ?_⟩, f.gr, fun x c => ?_, fun j q h => ?_⟩
  · rcases ch a c with c | rfl
    · exact f.sa.nu a c (.inl h)
    · exact np h
  · rcases get h1 with ⟨rfl, rfl⟩ | ⟨n1, h1⟩
    · rw [newS] at h5
      cases h5
      rcases get h3 with ⟨e, _⟩ | ⟨n2, h3⟩
      · exact e.symm
      · rw [oldS n2] at h6
        exact absurd rfl (ne ⟨k, t, p2, h3, h4, h6⟩)
    · rw [oldS n1] at h5
      have cj : Chg env' σ x := ⟨j, s, p1, h1, h2, h5⟩
      rcases get h3 with ⟨rfl, rfl⟩ | ⟨n2, h3⟩
      · rw [newS] at h6
        cases h6
        exact absurd rfl (ne cj)
      · rw [oldS n2] at h6
        exact f.sa.inj j k s t p1 p2 x h1 h2 h3 h4 h5 h6
  · rcases get h with ⟨_, e⟩ | ⟨n, h⟩
    · cases e
    · obtain ⟨v, e, r⟩ := f.sa.val j d h
      exact ⟨v, by rw [oldS n]; exact e, Rep.to (fun _ _ _ q => q) (fun x o n _ q => n (sub x q)) _ v r⟩
  · rcases get h1 with ⟨rfl, rfl⟩ | ⟨n, h1⟩
    · cases h2
      exact ⟨p, newS, RepO.to (fun _ _ _ q => q) (fun x o n _ q => n (sub x q)) (fun _ q => q) f.ob⟩
    · obtain ⟨a, e, r⟩ := f.sa.ob j s q h1 h2
      exact ⟨a, by rw [oldS n]; exact e, RepO.to (fun _ _ _ q => q) (fun x o n _ q => n (sub x q)) (fun _ q => q) r⟩
  · rcases ch x c with c | rfl
    · exact f.fr x c
    · exact f.nw
  · obtain ⟨q', e⟩ := f.io j q h
    have n : j ≠ i := fun z => by subst z; exact nio q' e
    exact ⟨q', by rw [List.getElem?_set_ne (Ne.symm n)]; exact e, oldS n⟩
/-- the object of a name is changed -/
theorem Ste.write {i : Nat} {s : Sl} {o o' : Ob} {a : Addr} {ho : HO} (sa : SA K U env σ H) (h1 : env[i]? = some s) (h2 : s.ob = some o) (ha : σ[i]? = some (some (V.ref a))) (hr : ∀ H', (∀ b u, ¬ Ux U env σ b → H b = some u → H' b = some u) → H' a = some ho → RepO K (Ux U env σ) H' o' a) :
    Ste K U env σ H (env.set i (s.put o')) σ (upd H a ho) := by
  have hi : i < env.length := (List.getElem?_eq_some_iff.mp h1).1
  have pob : (s.put o').ob = some o' := by cases s <;> first | rfl | cases h2
  have get : ∀ {j : Nat} {t : Sl}, (env.set i (s.put o'))[j]? = some t → (j = i ∧ t = s.put o') ∨ (j ≠ i ∧ env[j]? = some t) := fun {j t} h => by
    by_cases e : i = j
    · subst e
      rw [List.getElem?_set_self hi] at h
      cases h
      exact .inl ⟨rfl, rfl⟩
    · rw [List.getElem?_set_ne e] at h
      exact .inr ⟨Ne.symm e, h⟩
  have ca : Chg env σ a := ⟨i, s, o, h1, h2, ha⟩
  have ch : ∀ x, Chg (env.set i (s.put o')) σ x → Chg env σ x := fun x ⟨j, t, q, h3, h4, h5⟩ => by
    rcases get h3 with ⟨rfl, rfl⟩ | ⟨n, h6⟩
    · exact ⟨j, s, o, h1, h2, h5⟩
    · exact ⟨j, t, q, h6, h4, h5⟩
  have hc : ∀ x, Chg env σ x → Chg (env.set i (s.put o')) σ x := fun x ⟨j, t, q, h3, h4, h5⟩ => by
    by_cases e : j = i
    · subst e
      exact ⟨j, s.put o', o', List.getElem?_set_self hi, pob, h5⟩
    · exact ⟨j, t, q, by rw [List.getElem?_set_ne (Ne.symm e)]; exact h3, h4, h5⟩
  have sub : ∀ x, Ux U (env.set i (s.put o')) σ x → Ux U env σ x := fun x q => q.imp id (ch x)
  have keep : ∀ b u, ¬ Ux U env σ b → H b = some u → upd H a ho b = some u := fun b u n e => by
    rw [upd_ne (fun z => n (by rw [z]; exact .inr ca))]
    exact e
  refine ⟨⟨by rw [List.length_set]; exact sa.len, fun x h => ?_, fun x c => sa.nu x (ch x c), fun j k t u q r x h3 h4 h5 h6 h7 h8 => ?_, fun j d h => ?_, fun j t q h3 h4 => ?_⟩, fun b u n e => ?_, fun x c => .inl (ch x c), fun j q h => ?_⟩
  · obtain ⟨u, e⟩ := sa.al x h
    by_cases z : x = a
    · exact ⟨ho, by rw [z]; exact upd_same⟩
    · exact ⟨u, by rw [upd_ne z]; exact e⟩
  · have g : ∀ {j : Nat} {t : Sl} {q : Ob}, (env.set i (s.put o'))[j]? = some t → t.ob = some q → ∃ t' q', env[j]? = some t' ∧ t'.ob = some q' := fun {j t q} h3 h4 => by
      rcases get h3 with ⟨rfl, rfl⟩ | ⟨n, h6⟩
      · exact ⟨s, o, h1, h2⟩
      · exact ⟨t, q, h6, h4⟩
    obtain ⟨t1, q1, e1, e2⟩ := g h3 h4
    obtain ⟨t2, q2, e3, e4⟩ := g h5 h6
    exact sa.inj j k t1 t2 q1 q2 x e1 e2 e3 e4 h7 h8
  · rcases get h with ⟨rfl, e⟩ | ⟨n, h⟩
    · rw [← e] at pob; cases pob
    · obtain ⟨v, e, r⟩ := sa.val j d h
      exact ⟨v, e, Rep.to keep (fun x o n _ q => n (sub x q)) _ v r⟩
  · rcases get h3 with ⟨rfl, rfl⟩ | ⟨n, h3⟩
    · rw [pob] at h4
      cases h4
      exact ⟨a, ha, RepO.to (fun _ _ _ q => q) (fun x o n _ q => n (sub x q)) (fun _ q => q) (hr _ keep upd_same)⟩
    · obtain ⟨b, e, r⟩ := sa.ob j t q h3 h4
      refine ⟨b, e, RepO.to keep (fun x o n _ q => n (sub x q)) (fun u z => ?_) r⟩
      rw [upd_ne (fun z => n ?_)]
      · exact z
      · rw [z] at e
        exact sa.inj j i t s q o a h3 h4 h1 h2 e ha
  · rw [upd_ne (fun z => n (by rw [z]; exact ca))]
    exact e
  · by_cases e : j = i
    · subst e
      rw [h] at h1
      cases h1
      exact ⟨o', by rw [List.getElem?_set_self hi]; rfl, rfl⟩
    · exact ⟨q, by rw [List.getElem?_set_ne (Ne.symm e)]; exact h, rfl⟩
end
/-! ### targets -/
def gSet (i : Nat) (d : D) (env : En) : Option En := match env[i]? with
  | some (.io _) => none
  | some _ => some (env.set i (.v d))
  | none => none
/-- only the slots `is` are stored to -/
def Btw (is : List Nat) (σ σ' : St) : Prop := σ'.length = σ.length ∧ ∀ j, j ∉ is → σ'[j]? = σ[j]?
theorem Btw.trans {is js : List Nat} {σ σ1 σ2 : St} (a : Btw is σ σ1) (b : Btw js σ1 σ2) : Btw (is ++ js) σ σ2 :=
  ⟨b.1.trans a.1, fun j h => (b.2 j fun z => h (List.mem_append_right _ z)).trans (a.2 j fun z => h (List.mem_append_left _ z))⟩
def tGt (K : PySem.W.Frag) (is : List Nat) (mg : D → En → Option En) : TG := fun v σ H Q => ∃ U env d env', SA K U env σ H ∧ Rep K (Ux U env σ) H d v ∧ mg d env = some env' ∧ ∀ σ' H', Ste K U env σ H env' σ' H' → Btw is σ σ' → Q σ' H'
def tGs (K : PySem.W.Frag) (is : List Nat) (mg : List D → En → Option En) : TGs := fun vs σ H Q => ∃ U env ds env', SA K U env σ H ∧ Reps K (Ux U env σ) H ds vs ∧ mg ds env = some env' ∧ ∀ σ' H', Ste K U env σ H env' σ' H' → Btw is σ σ' → Q σ' H'
abbrev EvG (X : Cx) (tg : Expr) (is : List Nat) (mg : D → En → Option En) : Prop := PG X tg (tGt X.K is mg)
abbrev EvGs (X : Cx) (tg : List Expr) (is : List Nat) (mg : List D → En → Option En) : Prop := PGs X tg (tGs X.K is mg)
theorem PG_imp {X : Cx} {tg : Expr} {t t' : TG} (h : PG X tg t) (k : ∀ v σ H Q, t' v σ H Q → t v σ H Q) : PG X tg t' := ⟨fun pins s σ H v u Q I r q => h.run pins s σ H v u Q I r (k v σ H Q q)⟩
theorem PGs_imp {X : Cx} {tg : List Expr} {t t' : TGs} (h : PGs X tg t) (k : ∀ v σ H Q, t' v σ H Q → t v σ H Q) : PGs X tg t' := ⟨fun pins s σ H v u Q I r q => h.run pins s σ H v u Q I r (k v σ H Q q)⟩
theorem PG_or {X : Cx} {tg : Expr} {t t' : TG} (h : PG X tg t) (h' : PG X tg t') : PG X tg fun v σ H Q => t v σ H Q ∨ t' v σ H Q :=
  ⟨fun pins s σ H v u Q I r q => q.elim (h.run pins s σ H v u Q I r) (h'.run pins s σ H v u Q I r)⟩
def gsNil : List D → En → Option En := fun ds env => match ds with
  | [] => some env
  | _ => none
def gsCons (mg : D → En → Option En) (ms : List D → En → Option En) : List D → En → Option En := fun ds env => match ds with
  | d :: r => (mg d env).bind fun e => ms r e
  | [] => none
/-- a tuple or a list taken apart -/
def gUnp (n : Nat) (ms : List D → En → Option En) : D → En → Option En := fun d env => match d with
  | .tup ds => if ds.length = n then ms ds env else none
  | .lst ds => if ds.length = n then ms ds env else none
  | _ => none
theorem gSet_ok {K : PySem.W.Frag} {U : Addr → Prop} {env env' : En} {σ : St} {H : Hp} {i : Nat} {d : D} {v : V} (sa : SA K U env σ H) (r : Rep K (Ux U env σ) H d v) (h : gSet i d env = some env') : Ste K U env σ H env' (σ.set i (some v)) H := by
  unfold gSet at h
  cases e : env[i]? with
  | none => rw [e] at h; cases h
  | some s =>
    have hi := (List.getElem?_eq_some_iff.mp e).1
    cases s with
    | io o => rw [e] at h; cases h
    | un => rw [e] at h; cases h; exact Ste.set sa hi (fun o q => by rw [e] at q; cases q) r
    | v d => rw [e] at h; cases h; exact Ste.set sa hi (fun o q => by rw [e] at q; cases q) r
    | ow d => rw [e] at h; cases h; exact Ste.set sa hi (fun o q => by rw [e] at q; cases q) r
section
variable {X : Cx} {e : Expr} {es : List Expr} {is js : List Nat} {mg : D → En → Option En} {ms : List D → En → Option En} {n k : Nat} {pos : Pos}
theorem eg_name {i : Nat} (h : PG X e (gName i)) : EvG X e [i] (gSet i) := PG_imp h fun v σ H Q ⟨U, env, d, env', sa, r, hm, q⟩ => q _ _ (gSet_ok sa r hm) ⟨List.length_set, fun j hj => List.getElem?_set_ne fun z => hj (by simp [z])⟩
theorem eg_nil : EvGs X [] [] gsNil := PGs_imp pgs_nil fun vs σ H Q ⟨U, env, ds, env', sa, r, hm, q⟩ => by
  cases ds with
  | nil =>
    cases hm
    exact ⟨r, q σ H (.refl sa) ⟨rfl, fun _ _ => rfl⟩⟩
  | cons d ds => cases hm
theorem eg_cons (h1 : EvG X e is mg) (h2 : EvGs X es js ms) (hs : (assignEach (e :: es) X.env).map (·.2) = assign e X.env :: (assignEach es X.env).map (·.2) := by rfl) : EvGs X (e :: es) (is ++ js) (gsCons mg ms) :=
  PGs_imp (pgs_cons h1 h2 hs) fun vs σ H Q ⟨U, env, ds, env', sa, r, hm, q⟩ => by
    cases ds with
    | nil => cases hm
    | cons d ds =>
      obtain ⟨x, t, rfl, r1, r2⟩ := r
      obtain ⟨e1, h3, h4⟩ := Option.bind_eq_some_iff.mp hm
      exact ⟨x, t, rfl, U, env, d, e1, sa, r1, h3, fun σ' H' a w => ⟨U, e1, ds, env', a.sa, a.reps sa r2, h4, fun σ2 H2 a2 w2 => q σ2 H2 (a.trans a2) (w.trans w2)⟩⟩
theorem eg_unp (c : X.calm = true) (h : EvGs X es is ms) (hn : (assignEach es X.env).length = n := by rfl) (hst : (assignEach es X.env).findIdx? (·.1) = none := by rfl) : EvG X (.Tuple es k pos) is (gUnp n ms) :=
  PG_imp (PG_or (pg_tup c h hn hst) (pg_unl c h hn hst)) fun v σ H Q ⟨U, env, d, env', sa, r, hm, q⟩ => by
    cases d with
    | tup ds =>
      simp only [gUnp, Option.ite_none_right_eq_some] at hm
      obtain ⟨a, xs, rfl, h1, _, r⟩ := r.tup_sq
      exact .inl ⟨a, xs, rfl, .of h1, by rw [r.len]; exact hm.1, U, env, ds, env', sa, r, hm.2, q⟩
    | lst ds =>
      simp only [gUnp, Option.ite_none_right_eq_some] at hm
      obtain ⟨a, xs, rfl, h1, _, r⟩ := r.lst_sq
      exact .inr ⟨a, xs, rfl, .of h1, by rw [r.len]; exact hm.1, U, env, ds, env', sa, r, hm.2, q⟩
    | _ => simp [gUnp] at hm
end
/-! ### assignments, expressions, if, return -/
def mAsg (mg : D → En → Option En) (m : En → Rs D) : En → Rs Fl := fun env => (m env).bind fun d e1 => match mg d e1 with
  | some e2 => .ok .nx e2
  | none => .bad
def mDrop (m : En → Rs D) : En → Rs Fl := fun env => (m env).bind fun _ e1 => .ok .nx e1
def mRet (m : En → Rs D) : En → Rs Fl := fun env => (m env).bind fun d e1 => .ok (.rt d) e1
def mRetN : En → Rs Fl := fun env => .ok (.rt .non) env
def mIf (t : En → Rs Bool) (m n : En → Rs Fl) : En → Rs Fl := fun env => (t env).bind fun b e => match b with
  | true => m e
  | false => n e
def mBad : En → Rs Fl := fun _ => .bad
/-- several names at once -/
def mPar (is : List Nat) (ma : En → Rs (List D)) : En → Rs Fl := fun env => (ma env).bind fun ds e1 => match parS is ds e1 with
  | some e2 => .ok .nx e2
  | none => .bad
where parS : List Nat → List D → En → Option En
  | [], [], e => some e
  | i :: is, d :: ds, e => (gSet i d e).bind (parS is ds)
  | _, _, _ => none
section
variable {X : Cx} {W : WX} {tg e c : Expr} {a b : List Stmt} {st : Stmt} {mg : D → En → Option En} {m : En → Rs D} {t : En → Rs Bool} {ms ns : En → Rs Fl} {pos : Pos}
theorem asg_imp {is : List Nat} {te : TE} {K : PySem.W.Frag} {Dn : Ends} {σ : St} {H : Hp} {U : Addr → Prop} {env : En} (sa : SA K U env σ H) (po : PoS K W U env σ H (mAsg mg m env) Dn) : tAsg (tE K W m) (tGt K is mg) Dn σ H := ⟨U, env, sa, PoS.step po fun v H1 d e1 a r po1 => by
    cases hm : mg d e1 with
    | none => rw [hm] at po1; exact po1.elim
    | some e2 => rw [hm] at po1; exact ⟨U, e1, d, e2, a.sa, r, hm, fun σ' H' a2 _ => po1 σ' H' a2⟩⟩
theorem es_asg {is : List Nat} (he : Ev X W e m) (hg : EvG X tg is mg) (hs : swapsWithSole [tg] e pos.line X.env = pure false := by rfl) (hw : swappedStores [tg] e X.env = pure none := by rfl) (h1 : (assignEach [tg] X.env).map (·.2) = [assign tg X.env] := by rfl) :
    EvS X W (.Assign [tg] e pos) (mAsg mg m) := PS_imp (ps_asg he hg hs hw h1) fun Dn σ H ⟨U, env, sa, po⟩ => asg_imp (te := tE X.K W m) sa po
theorem es_of_set {i : Nat} (h : ∀ te, PE X e te → PS X st (tAsg te (gName i))) (he : Ev X W e m) : EvS X W st (mAsg (gSet i) m) :=
  PS_imp (h _ he) fun Dn σ H ⟨U, env, sa, po⟩ => ⟨U, env, sa, PoS.step po fun v H1 d e1 a r po1 => by
    cases hm : gSet i d e1 with
    | none => rw [hm] at po1; exact po1.elim
    | some e2 => rw [hm] at po1; exact po1 _ _ (gSet_ok a.sa r hm)⟩
theorem es_set {i : Nat} {x : Str} {p : Pos} (he : Ev X W e m) (hN : X.N.Nodup) (hi : X.N[i]? = some x) (hx : Loc X.env.scope x) (hs : swapsWith e (some (.Name x p)) pos.line X.env = pure false := by rfl) (hf : X.fn x = true ∨ X.env.scope.names.lookup x = some .local := by first | exact .inl rfl | exact .inr rfl | assumption) :
    EvS X W (.Assign [.Name x p] e pos) (mAsg (gSet i) m) := es_of_set (fun te h => ps_set hN hi hx h hs hf) he
theorem es_expr (he : Ev X W e m) (hs : swapsWith e none pos.line X.env = pure false := by rfl) : EvS X W (.Expr e pos) (mDrop m) :=
  PS_imp (ps_expr he hs) fun Dn σ H ⟨U, env, sa, po⟩ => ⟨U, env, sa, PoS.step po fun v H1 d e1 a r po1 => po1 σ H1 (.refl a.sa)⟩
theorem es_ret (he : Ev X W e m) : EvS X W (.Return (some e) pos) (mRet m) :=
  PS_imp (ps_ret he) fun Dn σ H ⟨U, env, sa, po⟩ => ⟨U, env, sa, PoS.step po fun v H1 d e1 a r po1 => po1 σ H1 (.refl a.sa) v r⟩
theorem es_retN : EvS X W (.Return none pos) mRetN := PS_imp ps_retN fun Dn σ H ⟨U, env, sa, po⟩ => po σ H (.refl sa) .non rfl
theorem es_if (hc : EvT X W c t) (ha : EvSs X W a ms) (hb : EvSs X W b ns) : EvS X W (.If c a b pos) (mIf t ms ns) :=
  PS_imp (ps_if hc ha hb) fun Dn σ H ⟨U, env, sa, po⟩ => ⟨U, env, sa, PoS.step po fun v H1 d e1 a r po1 => by
    obtain rfl : v = d := r
    cases v with
    | true => exact iteT ⟨U, e1, a.sa, po1⟩
    | false => exact iteF ⟨U, e1, a.sa, po1⟩⟩
theorem es_bad : EvS X W st mBad := PS_imp ps_never fun Dn σ H ⟨U, env, sa, po⟩ => po.elim
def mPass : En → Rs Fl := fun env => .ok .nx env
def mBrk : En → Rs Fl := fun env => .ok .bk env
def mCnt : En → Rs Fl := fun env => .ok .ct env
theorem es_pass : EvS X W (.Pass pos) mPass := PS_imp ps_pass fun Dn σ H ⟨U, env, sa, po⟩ => po σ H (.refl sa)
theorem es_brk : EvS X W (.Break pos) mBrk := PS_imp ps_break fun Dn σ H ⟨U, env, sa, po⟩ => po σ H (.refl sa)
theorem es_cnt : EvS X W (.Continue pos) mCnt := PS_imp ps_continue fun Dn σ H ⟨U, env, sa, po⟩ => po σ H (.refl sa)
theorem es_par2 {i j : Nat} {ma : En → Rs (List D)} {e1 e2 : Expr} (h : ∀ ta, PA X [e1, e2] ta → PS X st (tPar i j ta)) (he : EvN X W [e1, e2] 2 ma) : EvS X W st (mPar [i, j] ma) :=
  PS_imp (h _ he.pa) fun Dn σ H ⟨U, env, sa, po⟩ => ⟨U, env, sa, PoS.step po fun vs H1 ds e1 a r po1 => by
    cases hm : mPar.parS [i, j] ds e1 with
    | none => rw [hm] at po1; exact po1.elim
    | some e2 =>
      rw [hm] at po1
      match ds, hm, r with
      | [d1, d2], hm, ⟨x, _, e, r1, y, _, e', r2, e''⟩ =>
        obtain ⟨e3, h3, hm⟩ := Option.bind_eq_some_iff.mp hm
        obtain ⟨e4, h4, hm⟩ := Option.bind_eq_some_iff.mp hm
        cases hm
        subst e e' e''
        have s1 := gSet_ok a.sa r1 h3
        have s2 := gSet_ok s1.sa (s1.rep a.sa r2) h4
        exact ⟨x, y, rfl, po1 _ _ (s1.trans s2)⟩
      | [], hm, _ => cases hm
      | [d1], hm, _ => simp [mPar.parS] at hm
      | d1 :: d2 :: d3 :: _, hm, _ => simp [mPar.parS] at hm⟩
theorem es_par3 {i j l : Nat} {ma : En → Rs (List D)} {e1 e2 e3 : Expr} (h : ∀ ta, PA X [e1, e2, e3] ta → PS X st (tPar3 i j l ta)) (he : EvN X W [e1, e2, e3] 3 ma) : EvS X W st (mPar [i, j, l] ma) :=
  PS_imp (h _ he.pa) fun Dn σ H ⟨U, env, sa, po⟩ => ⟨U, env, sa, PoS.step po fun vs H1 ds e1 a r po1 => by
    cases hm : mPar.parS [i, j, l] ds e1 with
    | none => rw [hm] at po1; exact po1.elim
    | some e2 =>
      rw [hm] at po1
      match ds, hm, r with
      | [d1, d2, d3], hm, ⟨x, _, e, r1, y, _, e', r2, z, _, e'', r3, e'''⟩ =>
        obtain ⟨e3, h3, hm⟩ := Option.bind_eq_some_iff.mp hm
        obtain ⟨e4, h4, hm⟩ := Option.bind_eq_some_iff.mp hm
        obtain ⟨e5, h5, hm⟩ := Option.bind_eq_some_iff.mp hm
        cases hm
        subst e e' e'' e'''
        have s1 := gSet_ok a.sa r1 h3
        have s2 := gSet_ok s1.sa (s1.rep a.sa r2) h4
        have s3 := gSet_ok s2.sa (s2.rep s1.sa (s1.rep a.sa r3)) h5
        exact ⟨x, y, z, rfl, po1 _ _ ((s1.trans s2).trans s3)⟩
      | [], hm, _ => cases hm
      | [d1], hm, _ => simp [mPar.parS] at hm
      | [d1, d2], hm, _ => simp [mPar.parS] at hm
      | d1 :: d2 :: d3 :: _ :: _, hm, _ => simp [mPar.parS] at hm⟩
end
end Mi

set_option Elab.async false
set_option linter.all false
set_option maxRecDepth 100000
set_option maxHeartbeats 4000000
/-! Mi10: loops; objects of one's own -/
namespace Mi
open PySem PySem.Spec L2
/-! ### what is walked -/
structure ItOk (K : PySem.W.Frag) (U : Addr → Prop) (H : Hp) (ds : List D) (J : It) : Prop where
  stop : ∀ i H2, ds.length ≤ i → (∀ a o, ¬ U a → H a = some o → H2 a = some o) → i = ds.length → J.stop i H2
  go : ∀ i H2, i < ds.length → (∀ a o, ¬ U a → H a = some o → H2 a = some o) → J.go i H2
  yld : ∀ i d H2 H3 x (U' : Addr → Prop), ds[i]? = some d → (∀ a o, ¬ U a → H a = some o → H2 a = some o) → (∀ a o, ¬ U a → H a = some o → ¬ U' a) → Al U' H2 → J.yld i H2 x H3 → Same H2 H3 ∧ Rep K U' H3 d x
def RI (K : PySem.W.Frag) : (Addr → Prop) → St → Hp → List D → It → Prop := fun U _ H ds J => ItOk K U H ds J
abbrev EvI (X : Cx) (W : WX) (tg iter : Expr) (m : En → Rs (List D)) : Prop := PI X tg iter (tM (RI X.K) X.K W m)
theorem PI_imp {X : Cx} {tg e : Expr} {t t' : TI} (h : PI X tg e t) (k : ∀ σ H Q, t' σ H Q → t σ H Q) : PI X tg e t' := ⟨fun pins s σ H Q I q => h.run pins s σ H Q I (k σ H Q q)⟩
def iterD : D → Option (List D)
  | .lst ds => some ds
  | .tup ds => some ds
  | .str z => some (z.cps.toList.map fun c => .str ⟨#[c]⟩)
  | _ => none
def xIter (m : En → Rs D) : En → Rs (List D) := fun env => (m env).bind fun d e => .of (iterD d) e
section
variable {K : PySem.W.Frag} {U : Addr → Prop} {H : Hp} {ds : List D} {xs : List V} {a : Addr}
theorem Reps.at2 (r : Reps K U H ds xs) {i : Nat} {d : D} (h : ds[i]? = some d) {x : V} (hx : xs[i]? = some x) : Rep K U H d x := by
  obtain ⟨y, e, q⟩ := r.get h
  rw [hx] at e
  cases e
  exact q
theorem itok_list (h : H a = some (.lst xs)) (nu : ¬ U a) (r : Reps K U H ds xs) : ItOk K U H ds (Itl K a) where
  stop := fun i H2 hi k e => ⟨xs, .of (k a _ nu h), by rw [r.len]; exact hi⟩
  go := fun i H2 hi k => ⟨xs, xs[i]'(by rw [r.len]; exact hi), .of (k a _ nu h), by simp⟩
  yld := fun i d H2 H3 x U' hd k ku al ⟨e, q⟩ => by
    subst e
    exact ⟨Same.refl _, Rep.to k ku d x (r.at2 hd (q xs (.of (k a _ nu h))))⟩
theorem itok_tup (h : H a = some (.tup xs)) (nu : ¬ U a) (r : Reps K U H ds xs) : ItOk K U H ds (Itt K a) where
  stop := fun i H2 hi k e => ⟨xs, .of (k a _ nu h), by rw [r.len]; exact hi⟩
  go := fun i H2 hi k => ⟨xs, xs[i]'(by rw [r.len]; exact hi), .of (k a _ nu h), by simp⟩
  yld := fun i d H2 H3 x U' hd k ku al ⟨e, q⟩ => by
    subst e
    exact ⟨Same.refl _, Rep.to k ku d x (r.at2 hd (q xs (.of (k a _ nu h))))⟩
theorem itok_str {z : Str} : ItOk K U H (z.cps.toList.map fun c => .str ⟨#[c]⟩) (Its z) where
  stop := fun i H2 hi k e => by show z.cps.size ≤ i; simpa using hi
  go := fun i H2 hi k => by show i < z.cps.size; simpa using hi
  yld := fun i d H2 H3 x U' hd k ku al ⟨e, c, hc, q⟩ => by
    subst e
    refine ⟨Same.refl _, ?_⟩
    rw [List.getElem?_map, Array.getElem?_toList, hc] at hd
    cases hd
    exact q
theorem itok_range {lo : Int} {n : Nat} : ItOk K U H ((List.range n).map fun i => .int (lo + (i : Nat))) (Itr lo n) where
  stop := fun i H2 hi k e => by show n ≤ i; simpa using hi
  go := fun i H2 hi k => by show i < n; simpa using hi
  yld := fun i d H2 H3 x U' hd k ku al ⟨e, q⟩ => by
    subst e
    refine ⟨Same.refl _, ?_⟩
    rw [List.getElem?_map] at hd
    cases h : (List.range n)[i]? with
    | none => rw [h] at hd; cases hd
    | some j =>
      rw [h] at hd
      cases hd
      obtain ⟨hj, e⟩ := List.getElem?_eq_some_iff.mp h
      rw [List.getElem_range] at e
      subst e
      exact q
end
section
variable {X : Cx} {W : WX} {tg e a b : Expr} {es : List Expr} {m n : En → Rs D} {pos p : Pos}
theorem ei_of (h : Ev X W e m) : EvI X W tg e (xIter m) := by
  refine ⟨fun pins s σ H R I ⟨U, env, sa, po⟩ => ?_⟩
  unfold xIter at po
  cases hm : m env with
  | bad => rw [hm] at po; exact po.elim
  | er x e1 => exact (pi_list h).run pins s σ H R I ⟨U, env, sa, by rw [hm] at po ⊢; exact po⟩
  | ok d e1 =>
    cases d with
    | lst ds =>
      refine (pi_list h).run pins s σ H R I ⟨U, env, sa, ?_⟩
      rw [hm] at po ⊢
      intro v H1 a r
      obtain ⟨l, xs, rfl, h1, n1, r⟩ := Rep.lst_sq r
      exact ⟨l, rfl, ⟨xs, .of h1⟩, po _ H1 a (itok_list h1 n1 r)⟩
    | tup ds =>
      refine (pi_tup h).run pins s σ H R I ⟨U, env, sa, ?_⟩
      rw [hm] at po ⊢
      intro v H1 a r
      obtain ⟨l, xs, rfl, h1, n1, r⟩ := Rep.tup_sq r
      exact ⟨l, rfl, ⟨xs, .of h1⟩, po _ H1 a (itok_tup h1 n1 r)⟩
    | str z =>
      refine (pi_str h).run pins s σ H R I ⟨U, env, sa, ?_⟩
      rw [hm] at po ⊢
      intro v H1 a r
      exact ⟨z, r, po _ H1 a itok_str⟩
    | _ => rw [hm] at po; exact po.elim
def rngD (lo hi : Int) : Option (List D) := if lo.natAbs ≤ 1000000000 ∧ hi.natAbs ≤ 1000000000 then some ((List.range (hi - lo).toNat).map fun i => .int (lo + (i : Nat))) else none
def xRng1 (ma : En → Rs (List D)) : En → Rs (List D) := fun env => (ma env).bind fun ds e => match ds with
  | [.int j] => .of (rngD 0 j) e
  | _ => .bad
def xRng2 (ma : En → Rs (List D)) : En → Rs (List D) := fun env => (ma env).bind fun ds e => match ds with
  | [.int i, .int j] => .of (rngD i j) e
  | _ => .bad
theorem ei_rng1 {ma : En → Rs (List D)} (hg : Gl X "range") (hm : X.mg "range" = none) (ha : EvN X W [a] 1 ma) (hs : starEach [a] X.env = [(false, eval a X.env)] := by rfl) : EvI X W tg (.Call (.Name "range" p) [a] [] pos) (xRng1 ma) :=
  PI_imp (pi_range1 hg hm ha.pa hs) fun σ H Q ⟨U, env, sa, po⟩ => ⟨U, env, sa, Po.step po fun vs H1 ds e1 a r po1 => by
    match ds, r, po1 with
    | [.int j], ⟨x, _, e, r1, e'⟩, po1 =>
      subst e e'
      simp only [rngD] at po1
      by_cases h : (0 : Int).natAbs ≤ 1000000000 ∧ j.natAbs ≤ 1000000000
      · rw [if_pos h] at po1
        refine ⟨j, by rw [show x = _ from r1], by omega, by omega, po1 _ H1 (.refl a.sa) ?_⟩
        have := itok_range (K := X.K) (U := Ux U e1 σ) (H := H1) (lo := 0) (n := j.toNat)
        show ItOk _ _ _ _ _
        simpa using this
      · rw [if_neg h] at po1
        exact po1.elim
    | [], _, po1 => exact po1.elim
    | .non :: _, _, po1 => exact po1.elim
    | .bl _ :: _, _, po1 => exact po1.elim
    | .str _ :: _, _, po1 => exact po1.elim
    | .tup _ :: _, _, po1 => exact po1.elim
    | .lst _ :: _, _, po1 => exact po1.elim
    | .dct _ _ _ :: _, _, po1 => exact po1.elim
    | .obj _ _ _ :: _, _, po1 => exact po1.elim
    | .fz _ :: _, _, po1 => exact po1.elim
    | .int _ :: _ :: _, _, po1 => exact po1.elim⟩
theorem ei_rng2 {ma : En → Rs (List D)} (hg : Gl X "range") (hm : X.mg "range" = none) (ha : EvN X W [a, b] 2 ma) (hs : starEach [a, b] X.env = [(false, eval a X.env), (false, eval b X.env)] := by rfl) (hs2 : starEach [b] X.env = [(false, eval b X.env)] := by rfl) :
    EvI X W tg (.Call (.Name "range" p) [a, b] [] pos) (xRng2 ma) :=
  PI_imp (pi_range2 hg hm ha.pa hs hs2) fun σ H Q ⟨U, env, sa, po⟩ => ⟨U, env, sa, by
    unfold xRng2 at po
    cases hm : ma env with
    | bad => rw [hm] at po; exact po
    | er x e => rw [hm] at po; exact po
    | ok ds e1 =>
      rw [hm] at po
      intro vs H1 a r
      have r : Reps X.K (Ux U e1 σ) H1 ds vs := r
      have hl := ha.len _ _ _ hm
      match ds, hl, r, po with
      | [d1, d2], _, ⟨x, _, e, r1, y, _, e', r2, e''⟩, po =>
        subst e e' e''
        cases d1 with
        | int i =>
          cases d2 with
          | int j =>
            simp only [Rs.bind_ok, rngD] at po
            by_cases h : i.natAbs ≤ 1000000000 ∧ j.natAbs ≤ 1000000000
            · rw [if_pos h] at po
              exact ⟨i, j, by rw [show x = _ from r1, show y = _ from r2], by omega, po _ H1 a itok_range⟩
            · rw [if_neg h] at po
              exact po.elim
          | _ => exact po.elim
        | _ => exact po.elim⟩
end
/-! ### for -/
def forL (mg : D → En → Option En) (mb : En → Rs Fl) : List D → En → Rs Fl
  | [], e => .ok .nx e
  | d :: r, e => match mg d e with
    | none => .bad
    | some e2 => match mb e2 with
      | .ok .nx e3 => forL mg mb r e3
      | .ok .ct e3 => forL mg mb r e3
      | .ok .bk e3 => .ok .nx e3
      | .ok (.rt d) e3 => .ok (.rt d) e3
      | .er x e3 => .er x e3
      | .bad => .bad
def mFor (mi : En → Rs (List D)) (mg : D → En → Option En) (mb : En → Rs Fl) : En → Rs Fl := fun env => (mi env).bind fun ds e1 => forL mg mb ds e1
section
variable {X : Cx} {W : WX} {tg iter : Expr} {body : List Stmt} {mi : En → Rs (List D)} {is : List Nat} {mg : D → En → Option En} {mb : En → Rs Fl} {pos : Pos}
theorem es_for (hp : PassesOwn (model X.prog X.w) X.A X.env X.xe) (hc : X.calm = true) (hi : EvI X W tg iter mi) (hg : EvG X tg is mg) (hb : EvSs X W body mb) (hs : ∀ x, foldedSetIterable iter X.env x = pure x := by intro _; rfl) :
    EvS X W (.For tg iter body [] pos) (mFor mi mg mb) :=
  PS_imp (ps_for hp hc hi hg hb hs) fun Dn σ H ⟨U, env, sa, po⟩ => ⟨U, env, sa, PoS.step po fun J H1 ds e1 a it po1 => by
    have it : ItOk X.K (Ux U e1 σ) H1 ds J := it
    refine ⟨fun i m σ' H' => m = ds.length - i ∧ i ≤ ds.length ∧ ∃ e, Ste X.K U e1 σ H1 e σ' H' ∧ PoS X.K W U e σ' H' (forL mg mb (ds.drop i) e) Dn, ⟨ds.length, by simp, Nat.zero_le _, e1, .refl a.sa, po1⟩, ?_⟩
    rintro i m σ' H' ⟨rfl, hi, e, st, po2⟩
    have kp : ∀ a o, ¬ Ux U e1 σ a → H1 a = some o → H' a = some o := fun a o n h => st.gr a o (fun c => n (.inr c)) h
    by_cases hlt : i < ds.length
    · refine .inr ⟨it.go i H' hlt kp, fun σ2 H2 => ∃ e2, Ste X.K U e1 σ H1 e2 σ2 H2 ∧ PoS X.K W U e2 σ2 H2 (forL mg mb (ds.drop (i + 1)) e2) Dn, fun σ2 H2 ⟨e2, h1, h2⟩ => ⟨ds.length - (i + 1), by omega, rfl, hlt, e2, h1, h2⟩, fun x H2 y => ?_⟩
      have hd : ds[i]? = some ds[i] := by simp [hlt]
      have ku : ∀ a o, ¬ Ux U e1 σ a → H1 a = some o → ¬ Ux U e σ' a := fun a o n h q => q.elim (fun z => n (.inl z)) fun c => (st.fr a c).elim (fun z => n (.inr z)) fun z => by rw [h] at z; cases z
      obtain ⟨sm, rx⟩ := it.yld i _ H' H2 x (Ux U e σ') hd kp ku st.sa.alU y
      have st2 := st.same sm
      have po3 := PoS.shift ((Ste.refl st.sa).same sm) po2
      rw [List.drop_eq_getElem_cons hlt] at po3
      simp only [forL] at po3
      cases hg : mg ds[i] e with
      | none => simp only [hg] at po3; exact po3.elim
      | some e2 =>
        simp only [hg] at po3
        refine ⟨U, e, ds[i], e2, st2.sa, rx, hg, fun σ3 H3 s3 _ => ⟨U, e2, s3.sa, ?_⟩⟩
        have st3 := st2.trans s3
        cases hb : mb e2 with
        | bad => simp only [hb] at po3; exact po3.elim
        | er x e3 => simp only [hb] at po3; exact PoS.shift s3 po3
        | ok fl e3 =>
          simp only [hb] at po3
          cases fl with
          | nx => exact fun σ4 H4 s4 => ⟨e3, st3.trans s4, PoS.shift (s3.trans s4) po3⟩
          | ct => exact fun σ4 H4 s4 => ⟨e3, st3.trans s4, PoS.shift (s3.trans s4) po3⟩
          | bk => exact PoS.shift s3 po3
          | rt d => exact PoS.shift s3 po3
    · have e : i = ds.length := by omega
      subst e
      refine .inl ⟨it.stop _ H' (Nat.le_refl _) kp rfl, ?_⟩
      rw [List.drop_length] at po2
      exact po2 σ' H' (.refl st.sa)⟩
end
/-! ### while -/
def whileL (mt : En → Rs Bool) (mb : En → Rs Fl) : Nat → En → Rs Fl
  | 0, _ => .bad
  | n + 1, e => (mt e).bind fun b e1 => match b with
    | false => .ok .nx e1
    | true => match mb e1 with
      | .ok .nx e3 => whileL mt mb n e3
      | .ok .ct e3 => whileL mt mb n e3
      | .ok .bk e3 => .ok .nx e3
      | .ok (.rt d) e3 => .ok (.rt d) e3
      | .er x e3 => .er x e3
      | .bad => .bad
/-- n: more turns than are ever taken -/
def mWhile (n : Nat) (mt : En → Rs Bool) (mb : En → Rs Fl) : En → Rs Fl := fun env => whileL mt mb n env
theorem es_while {X : Cx} {W : WX} {c : Expr} {body : List Stmt} {mt : En → Rs Bool} {mb : En → Rs Fl} {n : Nat} {pos : Pos} (hp : PassesOwn (model X.prog X.w) X.A X.env X.xe) (hc : EvT X W c mt) (hb : EvSs X W body mb) :
    EvS X W (.While c body [] pos) (mWhile n mt mb) :=
  PS_imp (ps_while hp hc hb) fun Dn σ H ⟨U, env, sa, po⟩ => by
    refine ⟨fun m σ' H' => ∃ e, Ste X.K U env σ H e σ' H' ∧ PoS X.K W U e σ' H' (whileL mt mb m e) Dn, ⟨n, env, .refl sa, po⟩, ?_⟩
    rintro m σ' H' ⟨e, st, po1⟩
    cases m with
    | zero => exact po1.elim
    | succ m =>
      refine ⟨U, e, st.sa, PoS.step po1 fun v H1 b e1 a r po2 => ?_⟩
      obtain rfl : v = b := r
      have st1 := st.trans a
      cases v with
      | false => exact iteF (po2 σ' H1 (.refl a.sa))
      | true =>
        refine iteT ⟨fun σ2 H2 => ∃ e2, Ste X.K U env σ H e2 σ2 H2 ∧ PoS X.K W U e2 σ2 H2 (whileL mt mb m e2) Dn, fun σ2 H2 h => ⟨m, Nat.lt_succ_self m, h⟩, U, e1, a.sa, ?_⟩
        simp only at po2
        cases hb : mb e1 with
        | bad => simp only [hb] at po2; exact po2.elim
        | er x e3 => simp only [hb] at po2; exact po2
        | ok fl e3 =>
          simp only [hb] at po2
          cases fl with
          | nx => exact fun σ4 H4 s4 => ⟨e3, st1.trans s4, PoS.shift s4 po2⟩
          | ct => exact fun σ4 H4 s4 => ⟨e3, st1.trans s4, PoS.shift s4 po2⟩
          | bk => exact po2
          | rt d => exact po2
end Mi

set_option Elab.async false
set_option linter.all false
set_option maxRecDepth 100000
set_option maxHeartbeats 4000000
/-! Mi11: reading what names hold by themselves; new objects; lists made by comprehensions -/
namespace Mi
open PySem PySem.Spec L2
/-! ### reading without taking -/
def tP (K : PySem.W.Frag) (mp : En → Option D) : TE := fun σ H Q => ∃ U env d, SA K U env σ H ∧ mp env = some d ∧ ∀ v H', Same H H' → Rep K U H' d v → Q v H'
def tPs (K : PySem.W.Frag) (mp : En → Option (List D)) : TA := fun σ H Q => ∃ U env d, SA K U env σ H ∧ mp env = some d ∧ ∀ v H', Same H H' → Reps K U H' d v → Q v H'
abbrev EvP (X : Cx) (e : Expr) (mp : En → Option D) : Prop := PE X e (tP X.K mp)
abbrev EvPs (X : Cx) (es : List Expr) (mp : En → Option (List D)) : Prop := PA X es (tPs X.K mp)
def pVar (i : Nat) : En → Option D := fun env => match env[i]? with
  | some (.v d) => some d
  | some (.ow o) => some o.val
  | some (.io o) => some o.val
  | _ => none
def pC (d : D) : En → Option D := fun _ => some d
def p1 (g : D → Option D) (m : En → Option D) : En → Option D := fun env => (m env).bind g
def p2 (g : D → D → Option D) (m n : En → Option D) : En → Option D := fun env => (m env).bind fun d => (n env).bind fun e => g d e
def psNil : En → Option (List D) := fun _ => some []
def psCons (m : En → Option D) (ms : En → Option (List D)) : En → Option (List D) := fun env => (m env).bind fun d => (ms env).map fun r => d :: r
def pN (g : List D → Option D) (ms : En → Option (List D)) : En → Option D := fun env => (ms env).bind g
/-- its value, when it is flat -/
def xBor (mp : En → Option D) : En → Rs D := fun env => match mp env with
  | some d => if isFlat d = true then .ok d env else .bad
  | none => .bad
theorem flat_any {K : PySem.W.Frag} {U U' : Addr → Prop} {H H' : Hp} {d : D} {v : V} (h : isFlat d = true) (r : Rep K U H d v) : Rep K U' H' d v := by
  cases d <;> simp [isFlat] at h <;> exact r
section
variable {X : Cx} {W : WX} {e a b : Expr} {es : List Expr} {mp m n : En → Option D} {ms : En → Option (List D)} {pos : Pos} {k : Nat}
theorem ev_bor (h : EvP X e mp) : Ev X W e (xBor mp) :=
  PE_imp h fun σ H Q ⟨U, env, sa, po⟩ => by
    unfold xBor at po
    cases hm : mp env with
    | none => rw [hm] at po; exact po.elim
    | some d =>
      simp only [hm] at po
      by_cases hf : isFlat d = true
      · rw [if_pos hf] at po
        exact ⟨U, env, d, sa, hm, fun v H' s r => Po.of_ok (R2 := RD X.K) po sa s (flat_any hf r)⟩
      · rw [if_neg hf] at po; exact po.elim
theorem SA.held {K : PySem.W.Frag} {U : Addr → Prop} {env : En} {σ : St} {H : Hp} {i : Nat} {s : Sl} {o : Ob} (sa : SA K U env σ H) (h1 : env[i]? = some s) (h2 : s.ob = some o) : ∃ p, σ[i]? = some (some (V.ref p)) ∧ Rep K U H o.val (.ref p) := by
  obtain ⟨p, e, r⟩ := sa.ob i s o h1 h2
  have nu := sa.nu p ⟨i, s, o, h1, h2, e⟩
  have r := RepO.to (K := K) (U' := U) (fun _ _ _ q => q) (fun x o n _ q => n (.inl q)) (fun _ q => q) r
  refine ⟨p, e, ?_⟩
  cases o with
  | lst ds => obtain ⟨xs, e, r⟩ := r; exact ⟨p, xs, rfl, ⟨e, nu⟩, r⟩
  | dct t ks ds => obtain ⟨xs, e, r⟩ := r; exact ⟨p, xs, rfl, nu, e.rd, r⟩
  | ins c ns ds => obtain ⟨dx, xs, e, l, r⟩ := r; exact ⟨p, dx, xs, rfl, nu, e, l, r⟩
theorem ep_var {i : Nat} (h : PE X e (tVar i)) : EvP X e (pVar i) :=
  PE_imp h fun σ H Q ⟨U, env, d, sa, hm, q⟩ => by
    unfold pVar at hm
    cases hi : env[i]? with
    | none => rw [hi] at hm; cases hm
    | some s =>
      rw [hi] at hm
      cases s with
      | un => cases hm
      | v d' =>
        cases hm
        obtain ⟨v, e1, r⟩ := sa.val i d hi
        exact ⟨v, e1, q v H (Same.refl H) (Rep.to (fun _ _ _ q => q) (fun x o n _ q => n (.inl q)) d v r)⟩
      | ow o =>
        cases hm
        obtain ⟨p, e1, r⟩ := sa.held hi rfl
        exact ⟨_, e1, q _ H (Same.refl H) r⟩
      | io o =>
        cases hm
        obtain ⟨p, e1, r⟩ := sa.held hi rfl
        exact ⟨_, e1, q _ H (Same.refl H) r⟩
theorem ep_c {d : D} {v : V} (h : PE X e (tC v)) (hd : flatD d = some v) : EvP X e (pC d) :=
  PE_imp h fun σ H Q ⟨U, env, d', sa, hm, q⟩ => by cases hm; exact q v H (Same.refl H) (flat_rep hd)
theorem p2_imp {g : D → D → Option D} {r : R2} (hs : Snd2 X.K g r) {σ : St} {H : Hp} {Q : VK} (h : tP X.K (p2 g m n) σ H Q) : tP X.K m σ H fun x H1 => tP X.K n σ H1 fun y H2 => r x y H2 Q := by
  obtain ⟨U, env, d, sa, hm, q⟩ := h
  obtain ⟨d1, h1, hm⟩ := Option.bind_eq_some_iff.mp hm
  obtain ⟨d2, h2, hm⟩ := Option.bind_eq_some_iff.mp hm
  refine ⟨U, env, d1, sa, h1, fun x H1 s1 r1 => ⟨U, env, d2, sa.same s1, h2, fun y H2 s2 r2 => ?_⟩⟩
  exact hs U H2 x y d1 d2 d Q ((sa.same s1).same s2).al (r1.same s2) r2 hm fun v H' s r => q v H' ((s1.trans s2).trans s) r
theorem ep_op {op : Operator} {g : D → D → Option D} {r : R2} (ho : OpR X (binaryOp op) r) (hs : Snd2 X.K g r) (ha : EvP X a m) (hb : EvP X b n) : EvP X (.BinOp a op b pos) (p2 g m n) :=
  PE_imp (pe_op ho ha hb) fun σ H Q h => p2_imp hs h
theorem ep_cmp {op : CmpOp} {g : D → D → Option D} {r : R2} (ho : OpR X (compareOp op) r) (hs : Snd2 X.K g r) (ha : EvP X a m) (hb : EvP X b n) (hm : behindInMarks op b = false) : EvP X (.Compare a [op] [b] pos) (p2 g m n) :=
  PE_imp (pe_cmpR ho ha hb hm) fun σ H Q h => p2_imp hs h
/-- a truth, without taking -/
def tP1 (mp : En → Option D) : En → Rs Bool := fun env => .of ((mp env).bind isBl) env
theorem et_pcmp {op : CmpOp} {g : D → D → Option D} {r : R2} (ho : OpR X (compareOp op) r) (hs : Snd2 X.K g r) (ha : EvP X a m) (hb : EvP X b n) (hm : behindInMarks op b = false) : EvT X W (.Compare a [op] [b] pos) (tP1 (p2 g m n)) :=
  PT_imp (pt_cmpR ho ha hb hm) fun σ H Q ⟨U, env, sa, po⟩ => p2_imp hs (by
    unfold tP1 at po
    cases hm : p2 g m n env with
    | none => rw [hm] at po; exact po.elim
    | some d =>
      simp only [hm, Option.bind_some] at po
      cases hb : isBl d with
      | none => rw [hb] at po; exact po.elim
      | some b =>
        rw [hb] at po
        exact ⟨U, env, d, sa, hm, fun v H' s r => ⟨b, isBl_rep hb r, Po.of_ok (R2 := RB) po sa s rfl⟩⟩)
theorem ep_un {op : UnaryOp} {g : D → Option D} {r : V → Hp → VK → Prop} (ho : UnR X (unaryOp op) r) (hs : Snd1 X.K g r) (ha : EvP X a m) : EvP X (.UnaryOp op a pos) (p1 g m) :=
  PE_imp (pe_un ho ha) fun σ H Q ⟨U, env, d, sa, hm, q⟩ => by
    obtain ⟨d1, h1, hm⟩ := Option.bind_eq_some_iff.mp hm
    exact ⟨U, env, d1, sa, h1, fun x H1 s1 r1 => hs U H1 x d1 d Q (sa.same s1).al r1 hm fun v H' s r => q v H' (s1.trans s) r⟩
theorem ep_ix (c : Co X k) (ha : EvP X a m) (hb : EvP X b n) (hs : PlainIx b := by exact fun _ _ => rfl) : EvP X (.Subscript a b pos) (p2 gIx m n) :=
  PE_imp (pe_ix (ix_m (hu_of c.hr)) ha hb hs) fun σ H Q h => p2_imp s_ix h
theorem eps_nil : EvPs X [] psNil := PA_imp pa_nil fun σ H Q ⟨U, env, d, sa, hm, q⟩ => by cases hm; exact q [] H (Same.refl H) rfl
theorem eps_cons (h1 : EvP X e m) (h2 : EvPs X es ms) (hs : starEach (e :: es) X.env = (false, eval e X.env) :: starEach es X.env := by rfl) : EvPs X (e :: es) (psCons m ms) :=
  PA_imp (pa_cons h1 h2 hs) fun σ H Q ⟨U, env, d, sa, hm, q⟩ => by
    obtain ⟨d1, e1, hm⟩ := Option.bind_eq_some_iff.mp hm
    obtain ⟨d2, e2, rfl⟩ := Option.map_eq_some_iff.mp hm
    exact ⟨U, env, d1, sa, e1, fun x H1 s1 r1 => ⟨U, env, d2, sa.same s1, e2, fun xs H2 s2 r2 => q _ _ (s1.trans s2) ⟨x, xs, rfl, r1.same s2, r2⟩⟩⟩
theorem ep_n {g : List D → Option D} {r : List V → Hp → VK → Prop} (hs : SndN X.K g r) (h : PE X e (tCB r (tPs X.K ms))) : EvP X e (pN g ms) :=
  PE_imp h fun σ H Q ⟨U, env, d, sa, hm, q⟩ => by
    obtain ⟨d1, e1, hm⟩ := Option.bind_eq_some_iff.mp hm
    exact ⟨U, env, d1, sa, e1, fun xs H1 s1 r1 => hs U H1 xs d1 d Q (sa.same s1).al r1 hm fun v H' s r => q v H' (s1.trans s) r⟩
end
/-! ### new objects -/
def PoN (K : PySem.W.Frag) (W : WX) (U : Addr → Prop) (env : En) (σ : St) (H : Hp) (r : Rs Ob) (Q : VK) : Prop := match r with
  | .ok o env' => ∀ p H', Fre K U env σ H env' H' o p → Q (.ref p) H'
  | .er x env' => ∀ cls dd H', Ste K U env σ H env' σ H' → ExR K (Ux U env' σ) H' x cls dd → W cls dd σ H'
  | .bad => False
def tN (K : PySem.W.Frag) (W : WX) (m : En → Rs Ob) : TE := fun σ H Q => ∃ U env, SA K U env σ H ∧ PoN K W U env σ H (m env) Q
abbrev EvF (X : Cx) (W : WX) (e : Expr) (m : En → Rs Ob) : Prop := PE X e (tN X.K W m)
def xVal (m : En → Rs Ob) : En → Rs D := fun env => (m env).bind fun o e => .ok o.val e
/-- a name holds it -/
def mOw (i : Nat) (m : En → Rs Ob) : En → Rs Fl := fun env => (m env).bind fun o e => match e[i]? with
  | some (.io _) => .bad
  | some _ => .ok .nx (e.set i (.ow o))
  | none => .bad
section
variable {K : PySem.W.Frag} {U : Addr → Prop} {env env1 : En} {σ : St} {H H1 : Hp}
theorem Fre.new {o : Ob} {p : Addr} {ho : HO} (sa : SA K U env σ H) (hp : H p = none) (r : RepO K (Ux (Up U p) env σ) (upd H p ho) o p) : Fre K U env σ H env (upd H p ho) o p where
  nw := .inr hp
  nu := fun h => by obtain ⟨u, e⟩ := sa.al p h; rw [hp] at e; cases e
  sa := by
    have s : Same H (upd H p ho) := same_new hp
    have s1 := sa.same s
    have nc : ∀ a, Chg env σ a → a ≠ p := fun a c e => by
      obtain ⟨u, q⟩ := sa.alx (.inr c)
      rw [e, hp] at q
      cases q
    refine ⟨sa.len, fun a h => ?_, fun a c h => h.elim (sa.nu a c) (nc a c), sa.inj, fun i d h => ?_, fun i t q h1 h2 => ?_⟩
    · rcases h with h | h
      · exact s1.al a h
      · exact ⟨ho, by rw [h]; exact upd_same⟩
    · obtain ⟨v, e, r⟩ := sa.val i d h
      exact ⟨v, e, Rep.to (fun a o _ q => s a o q) (fun x o n hx q => (ux_up.mp q).elim n fun z => by rw [z, hp] at hx; cases hx) d v r⟩
    · obtain ⟨a, e, r⟩ := sa.ob i t q h1 h2
      exact ⟨a, e, RepO.to (fun a o _ q => s a o q) (fun x o n hx q => (ux_up.mp q).elim n fun z => by rw [z, hp] at hx; cases hx) (fun o q => s a o q) r⟩
  gr := .of_same (same_new hp)
  fr := fun a c => .inl c
  io := fun i o h => ⟨o, h⟩
  ob := r
theorem Fre.pre {env2 : En} {H2 : Hp} {o : Ob} {p : Addr} (a : Ste K U env σ H env1 σ H1) (f : Fre K U env1 σ H1 env2 H2 o p) : Fre K U env σ H env2 H2 o p where
  nw := by
    by_cases n : Chg env σ p
    · exact .inl n
    · refine .inr ?_
      rcases f.nw with q | q
      · exact (a.fr p q).elim (fun z => absurd z n) id
      · cases e : H p with
        | none => rfl
        | some u =>
          rw [a.gr p u n e] at q
          cases q
  nu := f.nu
  sa := f.sa
  gr := fun x o n h => f.gr x o (fun c => (a.fr x c).elim n fun z => by rw [h] at z; cases z) (a.gr x o n h)
  fr := fun x c => by
    rcases f.fr x c with q | q
    · exact a.fr x q
    · by_cases n : Chg env σ x
      · exact .inl n
      · refine .inr ?_
        cases e : H x with
        | none => rfl
        | some o =>
          rw [a.gr x o n e] at q
          cases q
  io := fun i o h => by
    obtain ⟨o1, h1, _⟩ := a.io i o h
    exact f.io i o1 h1
  ob := f.ob
theorem PoN.shift {W : WX} {r : Rs Ob} {Q : VK} (a : Ste K U env σ H env1 σ H1) (h : PoN K W U env σ H r Q) : PoN K W U env1 σ H1 r Q := by
  cases r with
  | ok d e => exact fun p H' f => h p H' (f.pre a)
  | er x e => exact fun c d H' b q => h c d H' (a.trans b) q
  | bad => exact h
/-- a value's part, then the new object -/
theorem PoN.step {α β : Type} {W : WX} {R1 : (Addr → Prop) → St → Hp → α → β → Prop} {r : Rs α} {f : α → En → Rs Ob} {Q : VK} {Q1 : β → Hp → Prop} (h : PoN K W U env σ H (r.bind f) Q)
    (k : ∀ v H1 d env1, Ste K U env σ H env1 σ H1 → R1 (Ux U env1 σ) σ H1 d v → PoN K W U env1 σ H1 (f d env1) Q → Q1 v H1) : Po R1 K W U env σ H r Q1 := by
  cases r with
  | ok d e => exact fun v H' a q => k v H' d e a q (PoN.shift a h)
  | er x e => exact h
  | bad => exact h
end
section
variable {X : Cx} {W : WX} {e : Expr} {es : List Expr} {mo : En → Rs Ob} {ma : En → Rs (List D)} {n k : Nat} {pos : Pos}
theorem ev_new (h : EvF X W e mo) : Ev X W e (xVal mo) :=
  PE_imp h fun σ H Q ⟨U, env, sa, po⟩ => ⟨U, env, sa, by
    unfold xVal at po
    cases hm : mo env with
    | bad => rw [hm] at po; exact po
    | er x e => rw [hm] at po; exact po
    | ok o e1 =>
      rw [hm] at po
      intro p H' f
      obtain ⟨s, r⟩ := f.ste sa
      exact po _ _ s r⟩
def fLst (ma : En → Rs (List D)) : En → Rs Ob := fun env => (ma env).bind fun ds e => .ok (.lst ds) e
theorem ef_lst (h : EvN X W es n ma) (hn : n ≤ sizeLine := by decide) : EvF X W (.List es pos) (fLst ma) :=
  PE_imp (pe_lst h.pa) fun σ H Q ⟨U, env, sa, po⟩ => ⟨U, env, sa, by
    unfold fLst at po
    cases hm : ma env with
    | bad => rw [hm] at po; exact po
    | er x e => rw [hm] at po; exact po
    | ok ds e =>
      rw [hm] at po
      intro v H1 a r
      refine ⟨by rw [Reps.len r, h.len _ _ _ hm]; exact hn, fun p hp => ?_⟩
      refine po _ _ ((Fre.new (o := .lst ds) a.sa hp ⟨v, upd_same, ?_⟩).pre a)
      exact Reps.to (fun b o _ q => same_new hp b o q) (fun x o n hx q => (ux_up.mp q).elim n fun z => by rw [z, hp] at hx; cases hx) _ _ r⟩
/-- {}; t: its keys are to be tuples -/
def fDict (t : Bool) : En → Rs Ob := fun env => .ok (.dct t [] []) env
theorem ef_dictK : EvF X W (.Dict [] [] pos) (fDict false) :=
  PE_imp pe_dnewK fun σ H Q ⟨U, env, sa, po⟩ p hp => po _ _ (Fre.new (o := .dct _ [] []) sa hp ⟨[], ⟨[], upd_same, rfl, rfl⟩, rfl⟩)
theorem ef_dictT : EvF X W (.Dict [] [] pos) (fDict true) :=
  PE_imp pe_dnewT fun σ H Q ⟨U, env, sa, po⟩ p hp => po _ _ (Fre.new (o := .dct _ [] []) sa hp ⟨[], ⟨[], upd_same, rfl, rfl⟩, rfl⟩)
/-- name = a new object -/
theorem es_ow {i : Nat} {st : Stmt} (h : ∀ te, PE X e te → PS X st (tAsg te (gName i))) (hf : EvF X W e mo) : EvS X W st (mOw i mo) :=
  PS_imp (h _ hf) fun Dn σ H ⟨U, env, sa, po⟩ => ⟨U, env, sa, by
    unfold mOw at po
    cases hm : mo env with
    | bad => rw [hm] at po; exact po
    | er x e1 => rw [hm] at po; exact fun c d H' a q => po c d σ H' a q
    | ok o e1 =>
      rw [hm] at po
      simp only [Rs.bind_ok] at po
      intro p H' f
      cases hi : e1[i]? with
      | none => simp only [hi] at po; exact po.elim
      | some s =>
        simp only [hi] at po
        have hl := (List.getElem?_eq_some_iff.mp hi).1
        cases s with
        | io o' => exact po.elim
        | un => exact po _ _ (f.own sa hl fun o q => by rw [hi] at q; cases q)
        | v d => exact po _ _ (f.own sa hl fun o q => by rw [hi] at q; cases q)
        | ow d => exact po _ _ (f.own sa hl fun o q => by rw [hi] at q; cases q)⟩
end
end Mi

set_option Elab.async false
set_option linter.all false
set_option maxRecDepth 100000
set_option maxHeartbeats 4000000
/-! Mi12: what a name holds by itself is changed -/
namespace Mi
open PySem PySem.Spec L2
/-- a method on the own object: its result and the object behind it -/
def Mut (K : PySem.W.Frag) (g : Ob → List D → Option (D × Ob)) (r : V → List V → Hp → VK → Prop) : Prop :=
  ∀ (U : Addr → Prop) (H : Hp) (a : Addr) (o : Ob) (ds : List D) (xs : List V) (z : D) (o' : Ob) (Q : VK), Al U H → U a → RepO K U H o a → Reps K U H ds xs → g o ds = some (z, o') →
    (∀ v ho, Rep K U (upd H a ho) z v → RepO K U (upd H a ho) o' a → Q v (upd H a ho)) → r (.ref a) xs H Q
def mutAt (i : Nat) (g : Ob → Option (D × Ob)) (env : En) : Rs D := match env[i]? with
  | some s => match s.ob with
    | some o => match g o with
      | some (z, o') => .ok z (env.set i (s.put o'))
      | none => .bad
    | none => .bad
  | none => .bad
def isLstAt (i : Nat) (env : En) : Bool := match (env[i]?).bind Sl.ob with
  | some (.lst _) => true
  | _ => false
def xMeth (i : Nat) (g : Ob → List D → Option (D × Ob)) (ma : En → Rs (List D)) : En → Rs D := fun env => if isLstAt i env = true then (ma env).bind fun ds e => mutAt i (fun o => g o ds) e else .bad
section
variable {K : PySem.W.Frag} {W : WX} {U : Addr → Prop} {env : En} {σ : St} {H : Hp}
theorem keepU {a : Addr} {ho : HO} (h : Ux U env σ a) : ∀ b u, ¬ Ux U env σ b → H b = some u → upd H a ho b = some u := fun b u n e => by
  rw [upd_ne (fun z => n (by rw [z]; exact h))]
  exact e
theorem Ste.write2 {i : Nat} {s : Sl} {o o' : Ob} {a : Addr} {ho : HO} (sa : SA K U env σ H) (h1 : env[i]? = some s) (h2 : s.ob = some o) (ha : σ[i]? = some (some (V.ref a))) (r : RepO K (Ux U env σ) (upd H a ho) o' a) :
    Ste K U env σ H (env.set i (s.put o')) σ (upd H a ho) ∧ ∀ d v, Rep K (Ux U env σ) (upd H a ho) d v → Rep K (Ux U (env.set i (s.put o')) σ) (upd H a ho) d v := by
  have ca : Ux U env σ a := .inr ⟨i, s, o, h1, h2, ha⟩
  have st : Ste K U env σ H (env.set i (s.put o')) σ (upd H a ho) := Ste.write sa h1 h2 ha fun H' k e => by
    refine RepO.to (fun b u n q => ?_) (fun _ _ n _ => n) (fun u q => ?_) r
    · rw [upd_ne (fun z => n (by rw [z]; exact ca))] at q
      exact k b u n q
    · rw [upd_same] at q
      rw [← q]
      exact e
  refine ⟨st, fun d v r => Rep.to (fun _ _ _ q => q) (fun x u n q z => ?_) d v r⟩
  rcases z with z | z
  · exact n (.inl z)
  · rcases st.fr x z with z | z
    · exact n (.inr z)
    · rw [upd_ne (fun e => n (by rw [e]; exact ca)), z] at q
      cases q
theorem mutAt_ok {i : Nat} {g : Ob → List D → Option (D × Ob)} {r : V → List V → Hp → VK → Prop} {ds : List D} {xs : List V} {Q : VK} {a : Addr} (hg : Mut K g r) (sa : SA K U env σ H) (ra : Reps K (Ux U env σ) H ds xs) (ha : σ[i]? = some (some (.ref a)))
    (po : Po (RD K) K W U env σ H (mutAt i (fun o => g o ds) env) Q) : r (.ref a) xs H Q := by
  unfold mutAt at po
  cases hi : env[i]? with
  | none => rw [hi] at po; exact po.elim
  | some s =>
    simp only [hi] at po
    cases ho : s.ob with
    | none => simp only [ho] at po; exact po.elim
    | some o =>
      simp only [ho] at po
      cases hz : g o ds with
      | none => simp only [hz] at po; exact po.elim
      | some p =>
        obtain ⟨z, o'⟩ := p
        simp only [hz] at po
        obtain ⟨b, e, r⟩ := sa.ob i s o hi ho
        rw [ha] at e
        cases e
        refine hg (Ux U env σ) H a o ds xs z o' Q sa.alU (.inr ⟨i, s, o, hi, ho, ha⟩) r ra hz fun v hob rz ro => ?_
        obtain ⟨st, k⟩ := Ste.write2 sa hi ho ha ro
        exact po v _ st (k _ _ rz)
end
section
variable {X : Cx} {W : WX} {e : Expr} {i : Nat} {ma : En → Rs (List D)} {g : Ob → List D → Option (D × Ob)} {r : V → List V → Hp → VK → Prop}
theorem ev_meth (hg : Mut X.K g r) (h : PE X e (tBM X.K "list" r (tVar i) (tA X.K W ma))) : Ev X W e (xMeth i g ma) :=
  PE_imp h fun σ H Q ⟨U, env, sa, po⟩ => by
    unfold xMeth at po
    by_cases hl : isLstAt i env = true
    · rw [if_pos hl] at po
      unfold isLstAt at hl
      cases hb : (env[i]?).bind Sl.ob with
      | none => rw [hb] at hl; cases hl
      | some ob =>
        obtain ⟨s, h1, h2⟩ := Option.bind_eq_some_iff.mp hb
        obtain ⟨a, ea, ra⟩ := sa.ob i s ob h1 h2
        refine ⟨.ref a, ea, ?_, U, env, sa, Po.step po fun vs H1 ds e1 st rs po1 => mutAt_ok hg st.sa rs ea po1⟩
        rw [hb] at hl
        cases ob with
        | lst ds => obtain ⟨xs, e, _⟩ := ra; exact .inl ⟨rfl, xs, .of e⟩
        | _ => cases hl
    · rw [if_neg hl] at po
      exact po.elim
/-- .. with no argument -/
theorem ev_meth0 (hg : Mut X.K g r) (h : PE X e (tBM0 X.K "list" r (tVar i))) : Ev X W e (xMeth i g xNil) :=
  PE_imp h fun σ H Q ⟨U, env, sa, po⟩ => by
    unfold xMeth at po
    by_cases hl : isLstAt i env = true
    · rw [if_pos hl] at po
      unfold isLstAt at hl
      cases hb : (env[i]?).bind Sl.ob with
      | none => rw [hb] at hl; cases hl
      | some ob =>
        obtain ⟨s, h1, h2⟩ := Option.bind_eq_some_iff.mp hb
        obtain ⟨a, ea, ra⟩ := sa.ob i s ob h1 h2
        refine ⟨.ref a, ea, ?_, mutAt_ok hg sa (show Reps X.K _ _ [] [] from rfl) ea po⟩
        rw [hb] at hl
        cases ob with
        | lst ds => obtain ⟨xs, e, _⟩ := ra; exact .inl ⟨rfl, xs, .of e⟩
        | _ => cases hl
    · rw [if_neg hl] at po
      exact po.elim
end
section
variable {K : PySem.W.Frag}
theorem Reps.updU {U : Addr → Prop} {H : Hp} {a : Addr} {ho : HO} (h : U a) {ds : List D} {xs : List V} (r : Reps K U H ds xs) : Reps K U (upd H a ho) ds xs :=
  Reps.to (fun b u n e => by rw [upd_ne (fun z => n (by rw [z]; exact h))]; exact e) (fun _ _ n _ => n) ds xs r
theorem Rep.updU {U : Addr → Prop} {H : Hp} {a : Addr} {ho : HO} (h : U a) {d : D} {x : V} (r : Rep K U H d x) : Rep K U (upd H a ho) d x :=
  Rep.to (fun b u n e => by rw [upd_ne (fun z => n (by rw [z]; exact h))]; exact e) (fun _ _ n _ => n) d x r
def gApp : Ob → List D → Option (D × Ob)
  | .lst ds, [d] => if ds.length < sizeLine then some (.non, .lst (ds ++ [d])) else none
  | _, _ => none
theorem mu_app : Mut K gApp rAppend := by
  intro U H a o ds xs z o' Q al ua ro rs hg q
  cases o with
  | lst es =>
    match ds, hg, rs with
    | [d], hg, ⟨x, _, e, r1, e'⟩ =>
      subst e e'
      simp only [gApp, Option.ite_none_right_eq_some] at hg
      obtain ⟨hl, e⟩ := hg
      cases e
      obtain ⟨vs, e, r⟩ := ro
      exact ⟨a, vs, x, rfl, rfl, e, by rw [r.len]; exact hl, q _ _ rfl ⟨_, upd_same, (r.append (show Reps K U H [d] [x] from ⟨x, [], rfl, r1, rfl⟩)).updU ua⟩⟩
    | [], hg, _ => simp [gApp] at hg
    | _ :: _ :: _, hg, _ => simp [gApp] at hg
  | _ => simp [gApp] at hg
def gExt : Ob → List D → Option (D × Ob)
  | .lst ds, [.lst es] => if ds.length + es.length ≤ sizeLine then some (.non, .lst (ds ++ es)) else none
  | _, _ => none
theorem mu_ext : Mut K gExt rExtend := by
  intro U H a o ds xs z o' Q al ua ro rs hg q
  cases o with
  | lst es =>
    match ds, hg, rs with
    | [.lst fs], hg, ⟨x, _, e, r1, e'⟩ =>
      subst e e'
      simp only [gExt, Option.ite_none_right_eq_some] at hg
      obtain ⟨hl, e⟩ := hg
      cases e
      obtain ⟨vs, e, r⟩ := ro
      obtain ⟨b, ws, rfl, h2, _, r2⟩ := r1.lst_sq
      exact ⟨a, b, vs, ws, rfl, rfl, e, h2, by rw [r.len, r2.len]; exact hl, q _ _ rfl ⟨_, upd_same, (r.append r2).updU ua⟩⟩
    | [], hg, _ => simp [gExt] at hg
    | _ :: _ :: _, hg, _ => simp [gExt] at hg
    | [.non], hg, _ => simp [gExt] at hg
    | [.bl _], hg, _ => simp [gExt] at hg
    | [.int _], hg, _ => simp [gExt] at hg
    | [.str _], hg, _ => simp [gExt] at hg
    | [.tup _], hg, _ => simp [gExt] at hg
    | [.dct _ _ _], hg, _ => simp [gExt] at hg
    | [.obj _ _ _], hg, _ => simp [gExt] at hg
    | [.fz _], hg, _ => simp [gExt] at hg
  | _ => simp [gExt] at hg
theorem Reps.eraseIdx {U : Addr → Prop} {H : Hp} : ∀ {ds : List D} {xs : List V} (n : Nat), Reps K U H ds xs → Reps K U H (ds.eraseIdx n) (xs.eraseIdx n)
  | [], _, n, h => by rw [show _ = _ from h]; simp; rfl
  | _ :: _, _, 0, ⟨x, r, e, h1, h2⟩ => by rw [e]; simpa using h2
  | _ :: _, _, n + 1, ⟨x, r, e, h1, h2⟩ => ⟨x, r.eraseIdx n, by rw [e]; rfl, h1, Reps.eraseIdx n h2⟩
theorem Reps.set {U : Addr → Prop} {H : Hp} {d : D} {v : V} (rv : Rep K U H d v) : ∀ {ds : List D} {xs : List V} (n : Nat), Reps K U H ds xs → Reps K U H (ds.set n d) (xs.set n v)
  | [], _, n, h => by rw [show _ = _ from h]; rfl
  | _ :: _, _, 0, ⟨x, r, e, h1, h2⟩ => ⟨v, r, by rw [e]; rfl, rv, h2⟩
  | _ :: _, _, n + 1, ⟨x, r, e, h1, h2⟩ => ⟨x, r.set n v, by rw [e]; rfl, h1, Reps.set rv n h2⟩
theorem seqIx_fits {i : Int} {n k : Nat} (h : seqIndex? i n = some k) (hn : n ≤ 1000000) : -(2 ^ 63) ≤ i ∧ i < 2 ^ 63 := by
  unfold seqIndex? at h
  simp only [Option.ite_none_right_eq_some, Bool.and_eq_true, decide_eq_true_eq] at h
  have h := h.1
  by_cases q : i < 0
  · rw [if_pos q] at h; omega
  · rw [if_neg q] at h; omega
def gPopAt : Ob → List D → Option (D × Ob)
  | .lst ds, [.int i] => if ds.length ≤ 1000000 then (seqIndex? i ds.length).bind fun k => (ds[k]?).map fun d => (d, .lst (ds.eraseIdx k)) else none
  | _, _ => none
theorem mu_popAt : Mut K gPopAt rPopAt := by
  intro U H a o ds xs z o' Q al ua ro rs hg q
  cases o with
  | lst es =>
    match ds, hg, rs with
    | [.int i], hg, ⟨x, _, e, r1, e'⟩ =>
      subst e e'
      simp only [gPopAt, Option.ite_none_right_eq_some] at hg
      obtain ⟨l0, hg⟩ := hg
      obtain ⟨k, hk, hg⟩ := Option.bind_eq_some_iff.mp hg
      obtain ⟨l1, l2⟩ := seqIx_fits hk l0
      obtain ⟨d, hd, e⟩ := Option.map_eq_some_iff.mp hg
      cases e
      obtain ⟨vs, e, r⟩ := ro
      obtain ⟨y, hy, ry⟩ := r.get hd
      exact ⟨a, vs, i, k, y, rfl, by rw [show x = _ from r1], e, l1, l2, by rw [r.len]; exact hk, hy, q _ _ (ry.updU ua) ⟨_, upd_same, (r.eraseIdx k).updU ua⟩⟩
    | [], hg, _ => simp [gPopAt] at hg
    | _ :: _ :: _, hg, _ => simp [gPopAt] at hg
    | [.non], hg, _ => simp [gPopAt] at hg
    | [.bl _], hg, _ => simp [gPopAt] at hg
    | [.lst _], hg, _ => simp [gPopAt] at hg
    | [.str _], hg, _ => simp [gPopAt] at hg
    | [.tup _], hg, _ => simp [gPopAt] at hg
    | [.dct _ _ _], hg, _ => simp [gPopAt] at hg
    | [.obj _ _ _], hg, _ => simp [gPopAt] at hg
    | [.fz _], hg, _ => simp [gPopAt] at hg
  | _ => simp [gPopAt] at hg
def gPop : Ob → List D → Option (D × Ob)
  | .lst ds, [] => (ds[ds.length - 1]?).map fun d => (d, .lst ds.dropLast)
  | _, _ => none
theorem mu_pop : Mut K gPop rPop := by
  intro U H a o ds xs z o' Q al ua ro rs hg q
  cases o with
  | lst es =>
    cases ds with
    | cons d t => simp [gPop] at hg
    | nil =>
      obtain ⟨d, hd, e⟩ := Option.map_eq_some_iff.mp (show (es[es.length - 1]?).map _ = _ from hg)
      cases e
      have e : xs = [] := rs
      subst e
      obtain ⟨vs, e, r⟩ := ro
      obtain ⟨y, hy, ry⟩ := r.get hd
      refine ⟨a, vs, y, rfl, rfl, e, by rw [r.len]; exact hy, q _ _ (ry.updU ua) ⟨_, upd_same, Reps.updU ua ?_⟩⟩
      rw [List.dropLast_eq_take, List.dropLast_eq_take, r.len]
      exact r.take _
  | _ => simp [gPop] at hg
/-! ### stores -/
def Sto (K : PySem.W.Frag) (g : Ob → D → D → Option Ob) (t : TSet) : Prop :=
  ∀ (U : Addr → Prop) (H : Hp) (a : Addr) (o : Ob) (kd d : D) (kv v : V) (o' : Ob) (Q : Hp → Prop), Al U H → U a → RepO K U H o a → Rep K U H kd kv → Rep K U H d v → g o kd d = some o' →
    (∀ ho, RepO K U (upd H a ho) o' a → Q (upd H a ho)) → t (.ref a) kv v H Q
def putKy (k : Ky) (d : D) : List Ky → List D → List Ky × List D
  | l :: ks, v :: vs => if l = k then (l :: ks, d :: vs) else let r := putKy k d ks vs; (l :: r.1, v :: r.2)
  | ks, vs => (ks ++ [k], vs ++ [d])
def gSto : Ob → D → D → Option Ob
  | .lst ds, .int i, d => (ixN ds.length i).map fun j => .lst (ds.set j d)
  | .dct false ks vs, k, d => if ks.length < sizeLine ∧ ks.Nodup then (keyOf k).map fun k => let r := putKy (kyOf k) d ks vs; .dct false r.1 r.2 else none
  | .dct true ks vs, .tup xs, d => if ks.length < sizeLine ∧ ks.Nodup then (keysOf xs).map fun k => let r := putKy (.tup k) d ks vs; .dct true r.1 r.2 else none
  | _, _, _ => none
theorem putKy_rep {U : Addr → Prop} {H : Hp} {κ : Type} [DecidableEq κ] (f : Ky → Option κ) (g : κ → Ky) (fg : ∀ k, f (g k) = some k) (gf : ∀ l k, f l = some k → l = g k) (k : κ) {d : D} {v : V} (rv : Rep K U H d v) : ∀ (ks : List Ky) (vs : List D) (kvs : List (κ × V)), ks.Nodup → ks.map f = kvs.map (fun p => some p.1) →
    Reps K U H vs (kvs.map (·.2)) → (putKy (g k) d ks vs).1.map f = (putK kvs k v).map (fun p => some p.1) ∧ Reps K U H (putKy (g k) d ks vs).2 ((putK kvs k v).map (·.2))
  | [], vs, kvs, _, h, r => by
    cases kvs with
    | cons p kvs => simp at h
    | nil =>
      have hv : vs = [] := by cases vs with
        | nil => rfl
        | cons d t => obtain ⟨x, t, e, _⟩ := r; simp at e
      subst hv
      simp [putKy, putK, fg, Reps]
      exact rv
  | l :: ks, vs, [], _, h, r => by simp at h
  | l :: ks, [], p :: kvs, _, h, r => by
    have r := Reps.len r
    simp at r
  | l :: ks, w :: vs, p :: kvs, nd, h, ⟨x, t, e, r1, r2⟩ => by
    simp only [List.map_cons, List.cons.injEq] at h e
    obtain ⟨h1, h2⟩ := h
    obtain ⟨rfl, rfl⟩ := e
    have hl : l = g p.1 := gf _ _ h1
    have nd2 := List.nodup_cons.mp nd
    by_cases hk : p.1 = k
    · have e1 : putKy (g k) d (l :: ks) (w :: vs) = (l :: ks, d :: vs) := by unfold putKy; rw [if_pos (by rw [hl, hk])]
      have nk : ∀ q ∈ kvs, q.1 ≠ k := fun q hq e => nd2.1 (by
        have : some q.1 ∈ ks.map f := by rw [h2]; exact List.mem_map_of_mem hq
        obtain ⟨l', hl', e'⟩ := List.mem_map.mp this
        rw [gf _ _ e', e, ← hk, ← hl] at hl'
        exact hl')
      have em : (kvs.map fun kv => if kv.1 = k then (kv.1, v) else kv) = kvs := by
        have : ∀ q ∈ kvs, (if q.1 = k then (q.1, v) else q) = q := fun q hq => by rw [if_neg (nk q hq)]
        calc _ = kvs.map id := List.map_congr_left this
          _ = kvs := List.map_id kvs
      have e2 : putK (p :: kvs) k v = (p.1, v) :: kvs := by
        unfold putK
        rw [if_pos (by simp [hk]), List.map_cons, if_pos hk, em]
      rw [e1, e2]
      exact ⟨by simp [h1, h2], v, _, rfl, rv, r2⟩
    · have e1 : putKy (g k) d (l :: ks) (w :: vs) = (l :: (putKy (g k) d ks vs).1, w :: (putKy (g k) d ks vs).2) := by
        rw [putKy, if_neg]
        rintro q
        apply hk
        have := fg p.1
        rw [← hl, q, fg] at this
        exact (Option.some.inj this).symm
      have e2 : putK (p :: kvs) k v = p :: putK kvs k v := by
        unfold putK
        by_cases h : (kvs.any fun kv => decide (kv.1 = k)) = true
        · rw [if_pos (by rw [List.any_cons, h, Bool.or_true]), if_pos h, List.map_cons, if_neg hk]
        · rw [if_neg (by rw [List.any_cons, decide_eq_false hk, Bool.false_or]; exact h), if_neg h]; rfl
      obtain ⟨a1, a2⟩ := putKy_rep f g fg gf k rv ks vs kvs nd2.2 h2 r2
      rw [e1, e2]
      exact ⟨by simp [h1, a1], p.2, _, rfl, r1, a2⟩
def rSetM : TSet := fun o i v H Q => rSetL o i v H Q ∨ rSetD o i v H Q
theorem PSet.or {X : Cx} {t t' : TSet} (h : PSet X t) (h' : PSet X t') : PSet X fun o i v H Q => t o i v H Q ∨ t' o i v H Q :=
  fun pins s σ H o i v ov iv u Q I a b c q => q.elim (h pins s σ H o i v ov iv u Q I a b c) (h' pins s σ H o i v ov iv u Q I a b c)
theorem set_m {X : Cx} (hu : X.A.units + 1 < cLine) : PSet X rSetM := PSet.or set_list (set_dict hu)
theorem kyK_inv {l : Ky} {k : Key} (h : kyK l = some k) : l = kyOf k := by cases l <;> simp [kyK] at h <;> subst h <;> rfl
theorem kyT_inv {l : Ky} {k : List Key} (h : kyT l = some k) : l = .tup k := by cases l <;> simp [kyT] at h; subst h; rfl
theorem st_m : Sto K gSto rSetM := by
  intro U H a o kd d kv v o' Q al ua ro rk rd hg q
  cases o with
  | lst ds =>
    cases kd <;> simp only [gSto, reduceCtorEq] at hg
    obtain ⟨j, hj, e⟩ := Option.map_eq_some_iff.mp hg
    subst e
    obtain ⟨xs, e, r⟩ := ro
    exact .inl ⟨a, xs, _, j, rfl, rk, e, by rw [r.len]; exact hj, q _ ⟨_, upd_same, (r.set rd j).updU ua⟩⟩
  | dct t ks vs =>
    cases t with
    | false =>
      have hg : (if ks.length < sizeLine ∧ ks.Nodup then (keyOf kd).map fun k => let r := putKy (kyOf k) d ks vs; Ob.dct false r.1 r.2 else none) = some o' := by cases kd <;> exact hg
      simp only [Option.ite_none_right_eq_some] at hg
      obtain ⟨⟨hl, nd⟩, hg⟩ := hg
      obtain ⟨k, hk, e⟩ := Option.map_eq_some_iff.mp hg
      subst e
      obtain ⟨xs, ⟨kvs, h1, h2, rfl⟩, r⟩ := ro
      have len : kvs.length = ks.length := by simpa using (congrArg List.length h2).symm
      obtain ⟨p1, p2⟩ := putKy_rep kyK kyOf (fun k => by cases k <;> rfl) (fun l k => kyK_inv) k rd ks vs kvs nd h2 r
      exact .inr ⟨a, _, rfl, .inl ⟨kvs, k, h1, keyOf_v hk rk, by rw [len]; exact hl, rfl⟩, q _ ⟨_, ⟨_, upd_same, p1, rfl⟩, p2.updU ua⟩⟩
    | true =>
      cases kd with
      | tup ds =>
        simp only [gSto, Option.ite_none_right_eq_some] at hg
        obtain ⟨⟨hl, nd⟩, hg⟩ := hg
        obtain ⟨k, hk, e⟩ := Option.map_eq_some_iff.mp hg
        subst e
        obtain ⟨xs, ⟨kvs, h1, h2, rfl⟩, r⟩ := ro
        have len : kvs.length = ks.length := by simpa using (congrArg List.length h2).symm
        obtain ⟨p1, p2⟩ := putKy_rep kyT .tup (fun k => rfl) (fun l k => kyT_inv) k rd ks vs kvs nd h2 r
        obtain ⟨b, ys, rfl, hb, _, rb⟩ := rk.tup_sq
        refine .inr ⟨a, _, rfl, .inr ⟨kvs, k, b, h1, rfl, by rw [hb, keysOf_v hk rb], by rw [len]; exact hl, rfl⟩, q _ ⟨_, ⟨_, upd_same, p1, rfl⟩, p2.updU ua⟩⟩
      | _ => simp [gSto] at hg
  | ins c ns ds => simp [gSto] at hg
end
def stoAt (i : Nat) (g : Ob → Option Ob) (env : En) : Rs Fl := match env[i]? with
  | some s => match s.ob with
    | some o => match g o with
      | some o' => .ok .nx (env.set i (s.put o'))
      | none => .bad
    | none => .bad
  | none => .bad
/-- x[k] = e -/
def mSto (i : Nat) (g : Ob → D → D → Option Ob) (m mk : En → Rs D) : En → Rs Fl := fun env => (m env).bind fun d e1 => if isObAt i e1 = true then (mk e1).bind fun kd e2 => stoAt i (fun o => g o kd d) e2 else .bad
where isObAt (i : Nat) (env : En) : Bool := ((env[i]?).bind Sl.ob).isSome
section
variable {X : Cx} {W : WX} {st : Stmt} {o ki : Expr} {i : Nat} {g : Ob → D → D → Option Ob} {t : TSet} {m mk : En → Rs D}
theorem es_sto (hg : Sto X.K g t) (h : PS X st (tAsg (tE X.K W m) (L2.gSub (tVar i) (tE X.K W mk) t))) : EvS X W st (mSto i g m mk) :=
  PS_imp h fun Dn σ H ⟨U, env, sa, po⟩ => ⟨U, env, sa, PoS.step po fun v H1 d e1 a r po1 => by
    by_cases hb : mSto.isObAt i e1 = true
    · rw [if_pos hb] at po1
      unfold mSto.isObAt at hb
      obtain ⟨ob, hb⟩ := Option.isSome_iff_exists.mp hb
      obtain ⟨s, h1, h2⟩ := Option.bind_eq_some_iff.mp hb
      obtain ⟨p, ep, _⟩ := a.sa.ob i s ob h1 h2
      refine ⟨.ref p, ep, U, e1, a.sa, PoS.step po1 fun kv H2 kd e2 a2 rk po2 => ?_⟩
      unfold stoAt at po2
      cases hi : e2[i]? with
      | none => rw [hi] at po2; exact po2.elim
      | some s2 =>
        simp only [hi] at po2
        cases ho : s2.ob with
        | none => simp only [ho] at po2; exact po2.elim
        | some o2 =>
          simp only [ho] at po2
          cases hz : g o2 kd d with
          | none => simp only [hz] at po2; exact po2.elim
          | some o' =>
            simp only [hz] at po2
            obtain ⟨b, e, ro⟩ := a2.sa.ob i s2 o2 hi ho
            rw [ep] at e
            cases e
            refine hg _ H2 p o2 kd d kv v o' _ a2.sa.alU (.inr ⟨i, s2, o2, hi, ho, ep⟩) ro rk (a2.rep a.sa r) hz fun hob ro' => ?_
            obtain ⟨st, _⟩ := Ste.write2 a2.sa hi ho ep ro'
            exact po2 σ _ st
    · rw [if_neg hb] at po1
      exact po1.elim⟩
end
end Mi

set_option Elab.async false
set_option linter.all false
set_option maxRecDepth 100000
set_option maxHeartbeats 4000000
/-! Mi13: lists by comprehension -/
namespace Mi
open PySem PySem.Spec L2
def wipeE (e : En) : List Nat → En
  | [] => e
  | v :: vs => (wipeE e vs).set v .un
/-- the slots vs as they were -/
def backE (e0 e : En) : List Nat → En
  | [] => e
  | v :: vs => match e0[v]? with
    | some s => (backE e0 e vs).set v s
    | none => backE e0 e vs
def okVs (e : En) (vs : List Nat) : Bool := vs.all fun v => match e[v]? with
  | some .un => true
  | some (.v _) => true
  | _ => false
section
variable {K : PySem.W.Frag} {U : Addr → Prop} {env : En} {σ : St} {H : Hp}
theorem wipeE_len (e : En) : ∀ vs : List Nat, (wipeE e vs).length = e.length
  | [] => rfl
  | v :: vs => by rw [wipeE, List.length_set, wipeE_len e vs]
theorem wipeE_get {e : En} {i : Nat} {s : Sl} : ∀ {vs : List Nat}, (wipeE e vs)[i]? = some s → s = .un ∨ (e[i]? = some s ∧ i ∉ vs)
  | [], h => .inr ⟨h, by simp⟩
  | v :: vs, h => by
    rw [wipeE] at h
    by_cases hv : v = i
    · subst hv
      by_cases hl : v < (wipeE e vs).length
      · rw [List.getElem?_set_self hl] at h
        cases h
        exact .inl rfl
      · rw [List.getElem?_eq_none (by rw [List.length_set]; omega)] at h
        cases h
    · rw [List.getElem?_set_ne hv] at h
      rcases wipeE_get h with h | ⟨h, n⟩
      · exact .inl h
      · exact .inr ⟨h, by simp [n, Ne.symm hv]⟩
theorem wipeE_out {e : En} {i : Nat} : ∀ {vs : List Nat}, i ∉ vs → (wipeE e vs)[i]? = e[i]?
  | [], _ => rfl
  | v :: vs, h => by
    rw [wipeE, List.getElem?_set_ne (fun z => h (by rw [z]; exact List.mem_cons_self))]
    exact wipeE_out fun z => h (List.mem_cons_of_mem _ z)
theorem chg_wipe {vs : List Nat} {a : Addr} (h : Chg (wipeE env vs) (wipe σ vs) a) : Chg env σ a := by
  obtain ⟨i, s, o, h1, h2, h3⟩ := h
  rcases wipeE_get h1 with e | ⟨h1, n⟩
  · subst e; cases h2
  · exact ⟨i, s, o, h1, h2, (wipe_some h3).1⟩
theorem SA.wipe (sa : SA K U env σ H) (vs : List Nat) : SA K U (wipeE env vs) (wipe σ vs) H := by
  have sub : ∀ x, Ux U (wipeE env vs) (L2.wipe σ vs) x → Ux U env σ x := fun x h => h.imp id chg_wipe
  refine ⟨by rw [wipeE_len, wipe_length]; exact sa.len, sa.al, fun a c => sa.nu a (chg_wipe c), fun i j s t o p a h1 h2 h3 h4 h5 h6 => ?_, fun i d h => ?_, fun i s o h1 h2 => ?_⟩
  · rcases wipeE_get h1 with e | ⟨h1, _⟩
    · subst e; cases h2
    · rcases wipeE_get h3 with e | ⟨h3, _⟩
      · subst e; cases h4
      · exact sa.inj i j s t o p a h1 h2 h3 h4 (wipe_some h5).1 (wipe_some h6).1
  · rcases wipeE_get h with e | ⟨h, n⟩
    · cases e
    · obtain ⟨v, e, r⟩ := sa.val i d h
      exact ⟨v, by rw [wipe_out n]; exact e, Rep.to (fun _ _ _ q => q) (fun x o n _ q => n (sub x q)) d v r⟩
  · rcases wipeE_get h1 with e | ⟨h1, n⟩
    · subst e; cases h2
    · obtain ⟨a, e, r⟩ := sa.ob i s o h1 h2
      exact ⟨a, by rw [wipe_out n]; exact e, RepO.to (fun _ _ _ q => q) (fun x o n _ q => n (sub x q)) (fun _ q => q) r⟩
theorem wipe_btw {σ σ' : St} : ∀ {vs is : List Nat}, Btw is σ σ' → (∀ i ∈ is, i ∈ vs) → wipe σ' vs = wipe σ vs := fun {vs is} b hs => by
  apply List.ext_getElem?
  intro j
  by_cases hj : j ∈ vs
  · have key : ∀ (τ : St) (ws : List Nat), j ∈ ws → (wipe τ ws)[j]? = if j < τ.length then some none else none := by
      intro τ ws
      induction ws with
      | nil => intro h; simp at h
      | cons w ws ih =>
        intro h
        rw [wipe]
        by_cases e : w = j
        · subst e
          by_cases hl : w < τ.length
          · rw [List.getElem?_set_self (by rw [wipe_length]; exact hl), if_pos hl]
          · rw [List.getElem?_eq_none (by rw [List.length_set, wipe_length]; omega), if_neg hl]
        · rw [List.getElem?_set_ne e]
          exact ih ((List.mem_cons.mp h).resolve_left (Ne.symm e))
    rw [key σ' vs hj, key σ vs hj, b.1]
  · rw [wipe_out hj, wipe_out hj]
    exact b.2 j fun h => hj (hs j h)
theorem btw_wipe (σ : St) (vs : List Nat) : Btw vs σ (wipe σ vs) := ⟨wipe_length σ vs, fun j h => wipe_out h⟩
/-- in the loop: D the new list -/
structure LcI (K : PySem.W.Frag) (U : Addr → Prop) (env : En) (σ : St) (H : Hp) (p : Addr) (e : En) (σ' : St) (H' : Hp) (acc : List D) : Prop where
  sa : SA K (Up U p) e σ' H'
  gr : Gr (Chg env σ) H H'
  fr : ∀ a, Chg e σ' a → Chg env σ a ∨ H a = none
  io : ∀ (i : Nat) (o : Ob), env[i]? = some (.io o) → ∃ o' : Ob, e[i]? = some (.io o') ∧ σ'[i]? = σ[i]?
  ob : ∃ xs, H' p = some (.lst xs) ∧ Reps K (Ux (Up U p) e σ') H' acc xs
  nw : H p = none
variable {p : Addr} {e e2 : En} {σ' σ2 : St} {H' H2 : Hp} {acc : List D}
theorem LcI.step (l : LcI K U env σ H p e σ' H' acc) (st : Ste K (Up U p) e σ' H' e2 σ2 H2) : LcI K U env σ H p e2 σ2 H2 acc where
  sa := st.sa
  gr := fun a o n h => st.gr a o (fun c => (l.fr a c).elim n fun z => by rw [h] at z; cases z) (l.gr a o n h)
  fr := fun a c => by
    rcases st.fr a c with q | q
    · exact l.fr a q
    · by_cases n : Chg env σ a
      · exact .inl n
      · refine .inr ?_
        cases z : H a with
        | none => rfl
        | some o =>
          rw [l.gr a o n z] at q
          cases q
  io := fun i o h => by
    obtain ⟨o1, h1, e1⟩ := l.io i o h
    obtain ⟨o2, h2, e2⟩ := st.io i o1 h1
    exact ⟨o2, h2, e2.trans e1⟩
  ob := by
    obtain ⟨xs, h1, r⟩ := l.ob
    exact ⟨xs, st.gr p _ (fun c => l.sa.nu p c (.inr rfl)) h1, st.reps l.sa r⟩
  nw := l.nw
theorem SA.updU (sa : SA K U env σ H) {a : Addr} {ho : HO} (h : U a) : SA K U env σ (upd H a ho) where
  len := sa.len
  al := fun x q => by
    by_cases e : x = a
    · exact ⟨ho, by rw [e]; exact upd_same⟩
    · obtain ⟨o, z⟩ := sa.al x q
      exact ⟨o, by rw [upd_ne e]; exact z⟩
  nu := sa.nu
  inj := sa.inj
  val := fun i d q => by
    obtain ⟨v, e, r⟩ := sa.val i d q
    exact ⟨v, e, r.updU (.inl h)⟩
  ob := fun i s o h1 h2 => by
    obtain ⟨b, e, r⟩ := sa.ob i s o h1 h2
    refine ⟨b, e, RepO.to (fun b u n e => by rw [upd_ne (fun z => n (by rw [z]; exact .inl h))]; exact e) (fun _ _ n _ => n) (fun u q => ?_) r⟩
    rw [upd_ne (fun z => ?_)]
    · exact q
    · subst z
      exact sa.nu _ ⟨i, s, o, h1, h2, e⟩ h
theorem LcI.push {d : D} {v : V} (l : LcI K U env σ H p e σ' H' acc) (r : Rep K (Ux (Up U p) e σ') H' d v) : ∃ xs, H' p = some (.lst xs) ∧ xs.length = acc.length ∧ LcI K U env σ H p e σ' (upd H' p (.lst (xs ++ [v]))) (acc ++ [d]) := by
  obtain ⟨xs, h1, rs⟩ := l.ob
  have up : Up U p p := .inr rfl
  refine ⟨xs, h1, rs.len, l.sa.updU up, fun a o n h => ?_, l.fr, l.io, ⟨_, upd_same, ((rs.append (show Reps K _ H' [d] [v] from ⟨v, [], rfl, r, rfl⟩)).updU (.inl up))⟩, l.nw⟩
  rw [upd_ne (fun z => by rw [z, l.nw] at h; cases h)]
  exact l.gr a o n h
theorem LcI.wipe (l : LcI K U env σ H p e σ' H' acc) (vs : List Nat) (ok : okVs env vs = true) : LcI K U env σ H p (wipeE e vs) (wipe σ' vs) H' acc where
  sa := l.sa.wipe vs
  gr := l.gr
  fr := fun a c => l.fr a (chg_wipe c)
  io := fun i o h => by
    have n : i ∉ vs := fun m => by
      have := List.all_eq_true.mp ok i m
      rw [h] at this
      cases this
    obtain ⟨o', h1, h2⟩ := l.io i o h
    exact ⟨o', by rw [wipeE_out n]; exact h1, by rw [wipe_out n]; exact h2⟩
  ob := by
    obtain ⟨xs, h1, r⟩ := l.ob
    exact ⟨xs, h1, Reps.to (fun _ _ _ q => q) (fun x o n _ q => n (q.imp id chg_wipe)) _ _ r⟩
  nw := l.nw
theorem backE_len (e0 e : En) : ∀ vs : List Nat, (backE e0 e vs).length = e.length
  | [] => rfl
  | v :: vs => by
    rw [backE]
    cases e0[v]? with
    | none => exact backE_len e0 e vs
    | some s => rw [List.length_set]; exact backE_len e0 e vs
theorem backE_get {e0 e : En} {i : Nat} {s : Sl} : ∀ {vs : List Nat}, (backE e0 e vs)[i]? = some s → (e[i]? = some s ∧ (i ∉ vs ∨ e0[i]? = none)) ∨ (e0[i]? = some s ∧ i ∈ vs)
  | [], h => .inl ⟨h, .inl (by simp)⟩
  | v :: vs, h => by
    rw [backE] at h
    cases hv : e0[v]? with
    | none =>
      rw [hv] at h
      rcases backE_get h with ⟨a, b⟩ | ⟨a, b⟩
      · refine .inl ⟨a, ?_⟩
        by_cases e1 : i = v
        · subst e1; exact .inr hv
        · exact b.imp (fun n => by simp [n, e1]) id
      · exact .inr ⟨a, List.mem_cons_of_mem _ b⟩
    | some t =>
      rw [hv] at h
      simp only at h
      by_cases e1 : v = i
      · subst e1
        by_cases hl : v < (backE e0 e vs).length
        · rw [List.getElem?_set_self hl] at h
          cases h
          exact .inr ⟨hv, List.mem_cons_self⟩
        · rw [List.getElem?_eq_none (by rw [List.length_set]; omega)] at h
          cases h
      · rw [List.getElem?_set_ne e1] at h
        rcases backE_get h with ⟨a, b⟩ | ⟨a, b⟩
        · exact .inl ⟨a, b.imp (fun n => by simp [n, Ne.symm e1]) id⟩
        · exact .inr ⟨a, List.mem_cons_of_mem _ b⟩
theorem backE_out {e0 e : En} {i : Nat} : ∀ {vs : List Nat}, i ∉ vs → (backE e0 e vs)[i]? = e[i]?
  | [], _ => rfl
  | v :: vs, h => by
    have h1 : v ≠ i := fun z => h (by rw [z]; exact List.mem_cons_self)
    have h2 : i ∉ vs := fun z => h (List.mem_cons_of_mem _ z)
    rw [backE]
    cases e0[v]? with
    | none => exact backE_out h2
    | some s => simp only; rw [List.getElem?_set_ne h1]; exact backE_out h2
/-- behind the loop -/
theorem LcI.fin {vs : List Nat} (sa : SA K U env σ H) (ok : okVs env vs = true) (l : LcI K U env σ H p e (L2.wipe σ vs) H' acc) : Fre K U env σ H (backE env e vs) H' (.lst acc) p := by
  have notob : ∀ {i : Nat} {s : Sl} {o : Ob}, env[i]? = some s → i ∈ vs → s.ob = some o → False := fun {i s o} h1 h2 h3 => by
    have := List.all_eq_true.mp ok i h2
    rw [h1] at this
    cases s <;> first | (cases h3; done) | (simp at this; done)
  -- an object's slot is outside vs
  have obs : ∀ {i : Nat} {s : Sl} {o : Ob}, (backE env e vs)[i]? = some s → s.ob = some o → e[i]? = some s ∧ (i ∉ vs ∨ env[i]? = none) := fun {i s o} h1 h2 => by
    rcases backE_get h1 with q | ⟨q, m⟩
    · exact q
    · exact (notob q m h2).elim
  have le : e.length = env.length := by rw [l.sa.len, wipe_length, sa.len]
  have none_lt : ∀ {i : Nat} {s : Sl}, e[i]? = some s → env[i]? = none → False := fun {i s} h1 h2 => by
    have a := (List.getElem?_eq_some_iff.mp h1).1
    have b := List.getElem?_eq_none_iff.mp h2
    omega
  have obs2 : ∀ {i : Nat} {s : Sl} {o : Ob}, (backE env e vs)[i]? = some s → s.ob = some o → e[i]? = some s ∧ i ∉ vs := fun {i s o} h1 h2 => by
    obtain ⟨a, b⟩ := obs h1 h2
    exact ⟨a, b.resolve_right fun n => none_lt a n⟩
  have ch : ∀ a, Chg (backE env e vs) σ a → Chg e (L2.wipe σ vs) a := fun a ⟨i, s, o, h1, h2, h3⟩ => by
    obtain ⟨q, n⟩ := obs2 h1 h2
    exact ⟨i, s, o, q, h2, by rw [wipe_out n]; exact h3⟩
  have sub : ∀ {V : Addr → Prop} x, Ux V (backE env e vs) σ x → Ux V e (L2.wipe σ vs) x := fun x h => h.imp id (ch x)
  have kp : ∀ a o, ¬ Ux U env σ a → H a = some o → H' a = some o := fun a o n h => l.gr a o (fun c => n (.inr c)) h
  have ku : ∀ a o, ¬ Ux U env σ a → H a = some o → ¬ Ux (Up U p) (backE env e vs) σ a := fun a o n h q => by
    rcases ux_up.mp (sub a q) with q | q
    · rcases q with q | q
      · exact n (.inl q)
      · exact (l.fr a q).elim (fun c => n (.inr c)) fun z => by rw [h] at z; cases z
    · rw [q, l.nw] at h
      cases h
  refine ⟨.inr l.nw, fun h => ?_, ⟨by rw [backE_len, le, sa.len], l.sa.al, fun a c => l.sa.nu a (ch a c), fun i j s t o q a h1 h2 h3 h4 h5 h6 => ?_, fun i d h => ?_, fun i s o h1 h2 => ?_⟩, l.gr, fun a c => l.fr a (ch a c), fun i o h => ?_, ?_⟩
  · obtain ⟨o, z⟩ := sa.al p h
    rw [l.nw] at z
    cases z
  · obtain ⟨q1, n1⟩ := obs2 h1 h2
    obtain ⟨q2, n2⟩ := obs2 h3 h4
    exact l.sa.inj i j s t o q a q1 h2 q2 h4 (by rw [wipe_out n1]; exact h5) (by rw [wipe_out n2]; exact h6)
  · rcases backE_get h with ⟨q, n⟩ | ⟨q, m⟩
    · have n := n.resolve_right fun z => none_lt q z
      obtain ⟨v, e1, r⟩ := l.sa.val i d q
      rw [wipe_out n] at e1
      exact ⟨v, e1, Rep.to (fun _ _ _ q => q) (fun x o n _ q => n (sub x q)) d v r⟩
    · obtain ⟨v, e1, r⟩ := sa.val i d q
      exact ⟨v, e1, Rep.to kp ku d v r⟩
  · obtain ⟨q, n⟩ := obs2 h1 h2
    obtain ⟨a, e1, r⟩ := l.sa.ob i s o q h2
    rw [wipe_out n] at e1
    exact ⟨a, e1, RepO.to (fun _ _ _ q => q) (fun x o n _ q => n (sub x q)) (fun _ q => q) r⟩
  · obtain ⟨o', h1, _⟩ := l.io i o h
    refine ⟨o', ?_⟩
    rw [backE_out (fun m => notob h m rfl)]
    exact h1
  · obtain ⟨xs, h1, r⟩ := l.ob
    exact ⟨xs, h1, Reps.to (fun _ _ _ q => q) (fun x o n _ q => n (sub x q)) _ _ r⟩
theorem LcI.start (sa : SA K U env σ H) (hp : H p = none) (vs : List Nat) (ok : okVs env vs = true) : LcI K U env σ H p (wipeE env vs) (L2.wipe σ vs) (upd H p (.lst [])) [] := by
  have f := Fre.new (o := .lst []) (ho := .lst []) sa hp ⟨[], upd_same, rfl⟩
  have l : LcI K U env σ H p env σ (upd H p (.lst [])) [] := ⟨f.sa, f.gr, f.fr, fun i o h => ⟨o, h, rfl⟩, ⟨[], upd_same, rfl⟩, hp⟩
  exact l.wipe vs ok
end
/-! ### the loop's mirror -/
def lcStep (vs : List Nat) (mg : D → En → Option En) (mt : En → Rs Bool) (me : List D → En → Rs (List D)) (d : D) (acc : List D) (e : En) : Rs (List D) := match mg d e with
  | none => .bad
  | some e2 => match mt e2 with
    | .ok false e3 => .ok acc (wipeE e3 vs)
    | .ok true e3 => match me acc e3 with
      | .ok acc' e4 => .ok acc' (wipeE e4 vs)
      | _ => .bad
    | _ => .bad
def lcL (vs : List Nat) (mg : D → En → Option En) (mt : En → Rs Bool) (me : List D → En → Rs (List D)) : List D → List D → En → Rs (List D)
  | [], acc, e => .ok acc e
  | d :: r, acc, e => match lcStep vs mg mt me d acc e with
    | .ok acc' e' => lcL vs mg mt me r acc' e'
    | _ => .bad
/-- one more -/
def lcPush (me : En → Rs D) : List D → En → Rs (List D) := fun acc e => match me e with
  | .ok z e4 => if acc.length < sizeLine then .ok (acc ++ [z]) e4 else .bad
  | _ => .bad
/-- a second clause -/
def lcIn (vs1 : List Nat) (mi : En → Rs (List D)) (mg : D → En → Option En) (mt : En → Rs Bool) (me : List D → En → Rs (List D)) : List D → En → Rs (List D) := fun acc e => match mi e with
  | .ok ds e1 => lcL vs1 mg mt me ds acc (wipeE e1 vs1)
  | _ => .bad
def mLc (vs : List Nat) (mi : En → Rs (List D)) (mg : D → En → Option En) (mt : En → Rs Bool) (me : List D → En → Rs (List D)) : En → Rs Ob := fun env => (mi env).bind fun ds e1 => if okVs e1 vs = true then (match lcL vs mg mt me ds [] (wipeE e1 vs) with
  | .ok acc e2 => .ok (.lst acc) (backE e1 e2 vs)
  | _ => .bad) else .bad
/-- no exception within -/
abbrev W0 : WX := fun _ _ _ _ => False
theorem takes0 (X : Cx) : Takes X W0 := fun u s' ⟨_, _, _, _, _, _, _, _, _, _, _, _, _, _, _, _, h⟩ => h.elim
abbrev EvTs (X : Cx) (ifs : List Expr) (m : En → Rs Bool) : Prop := PTs X ifs (tT X.K W0 m)
def ttYes : En → Rs Bool := fun env => .ok true env
theorem ets_nil {X : Cx} : EvTs X [] ttYes := ⟨fun pins s σ H Q I ⟨U, env, sa, po⟩ => pts_nil.run pins s σ H Q I (po true H (.refl sa) rfl)⟩
theorem ets_one {X : Cx} {c : Expr} {m : En → Rs Bool} (h : EvT X W0 c m) : EvTs X [c] m := pts_one h
section
variable {X : Cx} {W : WX} {elt tg iter tg1 iter1 : Expr} {ifs ifs1 : List Expr} {scope : Scope} {own : List (Str × Nat)} {vs1 : List Nat} {pos : Pos} {mi mi1 : En → Rs (List D)} {is is1 : List Nat} {mg mg1 : D → En → Option En} {mt mt1 : En → Rs Bool} {me : En → Rs D}
/-- what a turn gives back -/
def LcN (K : PySem.W.Frag) (U : Addr → Prop) (env : En) (σ : St) (H : Hp) (p : Addr) (τ : St) (k : List D → En → Rs (List D)) (ok : List D → En → Prop) (H' : Hp) : Prop := ∃ e acc acc' e', LcI K U env σ H p e τ H' acc ∧ k acc e = .ok acc' e' ∧ ok acc' e'
theorem lc_turn {K : PySem.W.Frag} {U : Addr → Prop} {e1 e : En} {σ τ : St} {H1 H' : Hp} {p : Addr} {acc : List D} {ds : List D} {J : It} {i : Nat} {x : V} {H2 : Hp} {d : D} (it : ItOk K (Ux U e1 σ) H1 ds J) (l : LcI K U e1 σ H1 p e τ H' acc) (hd : ds[i]? = some d) (y : J.yld i H' x H2) :
    LcI K U e1 σ H1 p e τ H2 acc ∧ Rep K (Ux (Up U p) e τ) H2 d x := by
  have kp : ∀ a o, ¬ Ux U e1 σ a → H1 a = some o → H' a = some o := fun a o n h => l.gr a o (fun c => n (.inr c)) h
  have ku : ∀ a o, ¬ Ux U e1 σ a → H1 a = some o → ¬ Ux (Up U p) e τ a := fun a o n h q => by
    rcases ux_up.mp q with (q | q) | q
    · exact n (.inl q)
    · exact (l.fr a q).elim (fun c => n (.inr c)) fun z => by rw [h] at z; cases z
    · rw [q, l.nw] at h; cases h
  obtain ⟨sm, rx⟩ := it.yld i _ H' H2 x _ hd kp ku l.sa.alU y
  exact ⟨l.step ((Ste.refl l.sa).same sm), rx⟩
theorem lc_kp {K : PySem.W.Frag} {U : Addr → Prop} {e1 e : En} {σ τ : St} {H1 H' : Hp} {p : Addr} {acc : List D} (l : LcI K U e1 σ H1 p e τ H' acc) : ∀ a o, ¬ Ux U e1 σ a → H1 a = some o → H' a = some o := fun a o n h => l.gr a o (fun c => n (.inr c)) h
theorem lc_imp {K : PySem.W.Frag} {σ : St} {H : Hp} {Q : VK} (sub : ∀ i ∈ is, i ∈ own.map (·.2)) (h : tN K W (mLc (own.map (·.2)) mi mg mt (lcPush me)) σ H Q) : tLc (tM (RI K) K W mi) (tGt K is mg) (tT K W0 mt) (tE K W0 me) (own.map (·.2)) σ H Q := by
  obtain ⟨U, env, sa, po⟩ := h
  refine ⟨U, env, sa, ?_⟩
  refine PoN.step po fun J H1 ds e1 a it po1 => fun p hp => ?_
  have it : ItOk K (Ux U e1 σ) H1 ds J := it
  generalize own.map (·.2) = vs at sub po1 ⊢
  by_cases okv : okVs e1 vs = true
  · rw [if_pos okv] at po1
    cases hr : lcL vs mg mt (lcPush me) ds [] (wipeE e1 vs) with
    | bad => simp only [hr] at po1; exact po1.elim
    | er x e => simp only [hr] at po1; exact po1.elim
    | ok acc0 e0 =>
      simp only [hr] at po1
      refine ⟨fun i m H' => m = ds.length - i ∧ i ≤ ds.length ∧ LcN K U e1 σ H1 p (L2.wipe σ vs) (lcL vs mg mt (lcPush me) (ds.drop i)) (fun b f => b = acc0 ∧ f = e0) H', ⟨ds.length, by simp, Nat.zero_le _, _, _, acc0, e0, LcI.start a.sa hp vs okv, hr, rfl, rfl⟩, ?_⟩
      rintro i m H' ⟨rfl, hi, e, acc, _, _, l, hk, rfl, rfl⟩
      by_cases hlt : i < ds.length
      · refine .inr ⟨it.go i H' hlt (lc_kp l), fun H2 => LcN K U e1 σ H1 p (L2.wipe σ vs) (lcL vs mg mt (lcPush me) (ds.drop (i + 1))) (fun b f => b = _ ∧ f = _) H2, fun H2 h => ⟨ds.length - (i + 1), by omega, rfl, hlt, h⟩, fun x H2 y => ?_⟩
        have hd : ds[i]? = some ds[i] := by simp [hlt]
        obtain ⟨l, rx⟩ := lc_turn it l hd y
        rw [List.drop_eq_getElem_cons hlt] at hk
        unfold lcL lcStep at hk
        cases hg : mg ds[i] e with
        | none => simp only [hg] at hk; cases hk
        | some e2 =>
          simp only [hg] at hk
          refine ⟨Up U p, e, ds[i], e2, l.sa, rx, hg, fun σ2 H3 st bt => ?_⟩
          have ew : L2.wipe σ2 vs = L2.wipe σ vs := (wipe_btw bt sub).trans (wipe_btw (btw_wipe σ vs) fun i h => h)
          have l2 := l.step st
          refine ⟨ew, Up U p, e2, st.sa, ?_⟩
          cases hb : mt e2 with
          | bad => simp only [hb] at hk; cases hk
          | er x e3 => simp only [hb] at hk; cases hk
          | ok b e3 =>
            simp only [hb] at hk
            intro b' H4 st2 rb
            obtain rfl : b' = b := rb
            have l3 := l2.step st2
            cases b' with
            | false =>
              refine iteF ⟨_, _, _, _, ?_, hk, rfl, rfl⟩
              rw [← ew]
              exact l3.wipe vs okv
            | true =>
              refine iteT ⟨Up U p, e3, l3.sa, ?_⟩
              simp only [lcPush] at hk
              cases hz : me e3 with
              | bad => simp only [hz] at hk; cases hk
              | er x e4 => simp only [hz] at hk; cases hk
              | ok z e4 =>
                simp only [hz] at hk
                by_cases hl : acc.length < sizeLine
                · rw [if_pos hl] at hk
                  intro v H5 st3 rz
                  have l4 := l3.step st3
                  obtain ⟨xs, h1, h2, l5⟩ := l4.push rz
                  refine ⟨xs, h1, by rw [h2]; exact hl, _, _, _, _, ?_, hk, rfl, rfl⟩
                  rw [← ew]
                  exact l5.wipe vs okv
                · rw [if_neg hl] at hk; cases hk
      · have e : i = ds.length := by omega
        subst e
        rw [List.drop_length] at hk
        cases hk
        exact .inl ⟨it.stop _ H' (Nat.le_refl _) (lc_kp l) rfl, po1 p H' ((l.fin a.sa okv).pre (.refl a.sa))⟩
  · rw [if_neg okv] at po1
    exact po1.elim
theorem ef_lc (hc : X.calm = true) (hN : X.N.Nodup) (hi : EvI X W tg iter mi) (ok : BlkOk X.N X.env.scope scope own)
    (hg : ∀ (s : Shared) (H : Hp) (C : Addr) (cl : List (Str × Addr)) (fp : List Addr), EvG (X.blk s H scope (compEnvC scope cl C X.env) fp) tg is mg) (ht : ∀ (s : Shared) (H : Hp) (C : Addr) (cl : List (Str × Addr)) (fp : List Addr), EvTs (X.blk s H scope (compEnvC scope cl C X.env) fp) ifs mt)
    (he : ∀ (s : Shared) (H : Hp) (C : Addr) (cl : List (Str × Addr)) (fp : List Addr), Ev (X.blk s H scope (compEnvC scope cl C X.env) fp) W0 elt me) (sub : ∀ i ∈ is, i ∈ own.map (·.2)) (hs : ∀ x, foldedSetIterable iter X.env x = pure x := by intro _; rfl) :
    EvF X W (.ListComp elt [⟨tg, iter, ifs, 0⟩] scope pos) (mLc (own.map (·.2)) mi mg mt (lcPush me)) :=
  PE_imp (pe_lc (g := tGt X.K is mg) (tt := tT X.K W0 mt) (te := tE X.K W0 me) hc hN hi ok hg ht he hs) fun σ H Q h => lc_imp sub h
/-- what an assignment of a new object asks -/
theorem own_imp {K : PySem.W.Frag} {i : Nat} {mo : En → Rs Ob} {Dn : Ends} {σ : St} {H : Hp} (h : tS K W (mOw i mo) Dn σ H) : tN K W mo σ H fun x H1 => Dn.nx (σ.set i (some x)) H1 := by
  obtain ⟨U, env, sa, po⟩ := h
  refine ⟨U, env, sa, ?_⟩
  unfold mOw at po
  cases hm : mo env with
  | bad => rw [hm] at po; exact po
  | er x e1 => rw [hm] at po; exact fun c d H' a q => po c d σ H' a q
  | ok o e1 =>
    rw [hm] at po
    simp only [Rs.bind_ok] at po
    intro p H' f
    cases hi : e1[i]? with
    | none => simp only [hi] at po; exact po.elim
    | some s =>
      simp only [hi] at po
      have hl := (List.getElem?_eq_some_iff.mp hi).1
      cases s with
      | io o' => exact po.elim
      | un => exact po _ _ (f.own sa hl fun o q => by rw [hi] at q; cases q)
      | v d => exact po _ _ (f.own sa hl fun o q => by rw [hi] at q; cases q)
      | ow d => exact po _ _ (f.own sa hl fun o q => by rw [hi] at q; cases q)
theorem val_imp {K : PySem.W.Frag} {i : Nat} {mo : En → Rs Ob} {Dn : Ends} {σ : St} {H : Hp} (h : tS K W (mAsg (gSet i) (xVal mo)) Dn σ H) : tN K W mo σ H fun x H1 => Dn.nx (σ.set i (some x)) H1 := by
  obtain ⟨U, env, sa, po⟩ := h
  refine ⟨U, env, sa, ?_⟩
  unfold mAsg xVal at po
  cases hm : mo env with
  | bad => rw [hm] at po; exact po
  | er x e1 => rw [hm] at po; exact fun c d H' a q => po c d σ H' a q
  | ok o e1 =>
    rw [hm] at po
    simp only [Rs.bind_ok] at po
    intro p H' f
    obtain ⟨st, r⟩ := f.ste sa
    cases hg : gSet i o.val e1 with
    | none => rw [hg] at po; exact po.elim
    | some e2 =>
      rw [hg] at po
      exact po _ _ (st.trans (gSet_ok st.sa r hg))
section
variable {i : Nat} {y : Str} {py spos : Pos}
theorem es_setLcO (hc : X.calm = true) (hN : X.N.Nodup) (hy : X.N[i]? = some y) (hyl : X.env.scope.names.lookup y = some .local) (hsw : swapsWith (.ListComp elt [⟨tg, iter, ifs, 0⟩] scope pos) (some (.Name y py)) spos.line X.env = pure true) (hi : EvI X W tg iter mi) (ok : BlkOk X.N X.env.scope scope own)
    (hg : ∀ (s : Shared) (H : Hp) (C : Addr) (cl : List (Str × Addr)) (fp : List Addr), EvG (X.blk s H scope (compEnvC scope cl C X.env) fp) tg is mg) (ht : ∀ (s : Shared) (H : Hp) (C : Addr) (cl : List (Str × Addr)) (fp : List Addr), EvTs (X.blk s H scope (compEnvC scope cl C X.env) fp) ifs mt)
    (he : ∀ (s : Shared) (H : Hp) (C : Addr) (cl : List (Str × Addr)) (fp : List Addr), Ev (X.blk s H scope (compEnvC scope cl C X.env) fp) W0 elt me) (sub : ∀ i ∈ is, i ∈ own.map (·.2)) (hs : ∀ x, foldedSetIterable iter X.env x = pure x := by intro _; rfl) :
    EvS X W (.Assign [.Name y py] (.ListComp elt [⟨tg, iter, ifs, 0⟩] scope pos) spos) (mOw i (mLc (own.map (·.2)) mi mg mt (lcPush me))) :=
  PS_imp (ps_setLc (g := tGt X.K is mg) (tt := tT X.K W0 mt) (te := tE X.K W0 me) hc hN hy hyl hsw hi ok hg ht he hs) fun Dn σ H h => lc_imp sub (own_imp h)
theorem es_setLcV (hc : X.calm = true) (hN : X.N.Nodup) (hy : X.N[i]? = some y) (hyl : X.env.scope.names.lookup y = some .local) (hsw : swapsWith (.ListComp elt [⟨tg, iter, ifs, 0⟩] scope pos) (some (.Name y py)) spos.line X.env = pure true) (hi : EvI X W tg iter mi) (ok : BlkOk X.N X.env.scope scope own)
    (hg : ∀ (s : Shared) (H : Hp) (C : Addr) (cl : List (Str × Addr)) (fp : List Addr), EvG (X.blk s H scope (compEnvC scope cl C X.env) fp) tg is mg) (ht : ∀ (s : Shared) (H : Hp) (C : Addr) (cl : List (Str × Addr)) (fp : List Addr), EvTs (X.blk s H scope (compEnvC scope cl C X.env) fp) ifs mt)
    (he : ∀ (s : Shared) (H : Hp) (C : Addr) (cl : List (Str × Addr)) (fp : List Addr), Ev (X.blk s H scope (compEnvC scope cl C X.env) fp) W0 elt me) (sub : ∀ i ∈ is, i ∈ own.map (·.2)) (hs : ∀ x, foldedSetIterable iter X.env x = pure x := by intro _; rfl) :
    EvS X W (.Assign [.Name y py] (.ListComp elt [⟨tg, iter, ifs, 0⟩] scope pos) spos) (mAsg (gSet i) (xVal (mLc (own.map (·.2)) mi mg mt (lcPush me)))) :=
  PS_imp (ps_setLc (g := tGt X.K is mg) (tt := tT X.K W0 mt) (te := tE X.K W0 me) hc hN hy hyl hsw hi ok hg ht he hs) fun Dn σ H h => lc_imp sub (val_imp h)
end
end
end Mi

set_option Elab.async false
set_option linter.all false
set_option maxRecDepth 100000
set_option maxHeartbeats 4000000
/-! Mi14: comprehensions of two clauses -/
namespace Mi
open PySem PySem.Spec L2
section
/-- in the second clause's loop, from its start at H4 -/
structure LcJ (U : Addr → Prop) (e4 : En) (σ4 : St) (H4 : Hp) (e : En) (τ : St) (H' : Hp) : Prop where
  gr : ∀ a o, ¬ Ux U e4 σ4 a → H4 a = some o → H' a = some o
  fr : ∀ a, Chg e τ a → Chg e4 σ4 a ∨ H4 a = none
variable {K : PySem.W.Frag} {U : Addr → Prop} {e4 e e2 : En} {σ4 τ τ2 : St} {H4 H' H2 : Hp}
theorem LcJ.start {vs : List Nat} : LcJ U e4 σ4 H4 (wipeE e4 vs) (wipe σ4 vs) H4 := ⟨fun _ _ _ h => h, fun _ c => .inl (chg_wipe c)⟩
theorem LcJ.step (l : LcJ U e4 σ4 H4 e τ H') (st : Ste K U e τ H' e2 τ2 H2) : LcJ U e4 σ4 H4 e2 τ2 H2 where
  gr := fun a o n h => st.gr a o (fun c => (l.fr a c).elim (fun c => n (.inr c)) fun z => by rw [h] at z; cases z) (l.gr a o n h)
  fr := fun a c => by
    rcases st.fr a c with q | q
    · exact l.fr a q
    · by_cases n : Chg e4 σ4 a
      · exact .inl n
      · refine .inr ?_
        cases z : H4 a with
        | none => rfl
        | some o =>
          by_cases u : U a
          · exact (st.sa.nu a c u).elim
          · rw [l.gr a o (fun h => h.elim u n) z] at q
            cases q
theorem LcJ.push {p : Addr} {ho : HO} (l : LcJ U e4 σ4 H4 e τ H') (up : U p) : LcJ U e4 σ4 H4 e τ (upd H' p ho) where
  gr := fun a o n h => by rw [upd_ne (fun z => n (by rw [z]; exact .inl up))]; exact l.gr a o n h
  fr := l.fr
theorem LcJ.wipe (l : LcJ U e4 σ4 H4 e τ H') (vs : List Nat) : LcJ U e4 σ4 H4 (wipeE e vs) (wipe τ vs) H' := ⟨l.gr, fun a c => l.fr a (chg_wipe c)⟩
end
section
variable {X : Cx} {W : WX} {elt tg iter tg1 iter1 : Expr} {ifs ifs1 : List Expr} {scope : Scope} {own : List (Str × Nat)} {vs1 : List Nat} {pos : Pos} {mi mi1 : En → Rs (List D)} {is is1 : List Nat} {mg mg1 : D → En → Option En} {mt mt1 : En → Rs Bool} {me : En → Rs D}
theorem lc2_imp {K : PySem.W.Frag} {σ : St} {H : Hp} {Q : VK} (hv : ∀ i ∈ vs1, i ∈ own.map (·.2)) (sub : ∀ i ∈ is, i ∈ own.map (·.2)) (sub1 : ∀ i ∈ is1, i ∈ vs1) (h : tN K W (mLc (own.map (·.2)) mi mg mt (lcIn vs1 mi1 mg1 mt1 (lcPush me))) σ H Q) :
    tLc2 (tM (RI K) K W mi) (tGt K is mg) (tT K W0 mt) (tM (RI K) K W0 mi1) (tGt K is1 mg1) (tT K W0 mt1) (tE K W0 me) (own.map (·.2)) vs1 σ H Q := by
  obtain ⟨U, env, sa, po⟩ := h
  refine ⟨U, env, sa, ?_⟩
  refine PoN.step po fun J H1 ds e1 a it po1 => fun p hp => ?_
  have it : ItOk K (Ux U e1 σ) H1 ds J := it
  generalize own.map (·.2) = vs at sub hv po1 ⊢
  by_cases okv : okVs e1 vs = true
  · have okv1 : okVs e1 vs1 = true := List.all_eq_true.mpr fun i hi => List.all_eq_true.mp okv i (hv i hi)
    rw [if_pos okv] at po1
    generalize hin : lcIn vs1 mi1 mg1 mt1 (lcPush me) = inn at po1
    cases hr : lcL vs mg mt inn ds [] (wipeE e1 vs) with
    | bad => simp only [hr] at po1; exact po1.elim
    | er x e => simp only [hr] at po1; exact po1.elim
    | ok acc0 e0 =>
      simp only [hr] at po1
      refine ⟨fun i m H' => m = ds.length - i ∧ i ≤ ds.length ∧ LcN K U e1 σ H1 p (L2.wipe σ vs) (lcL vs mg mt inn (ds.drop i)) (fun b f => b = acc0 ∧ f = e0) H', ⟨ds.length, by simp, Nat.zero_le _, _, _, acc0, e0, LcI.start a.sa hp vs okv, hr, rfl, rfl⟩, ?_⟩
      rintro i m H' ⟨rfl, hi, e, acc, _, _, l, hk, rfl, rfl⟩
      by_cases hlt : i < ds.length
      · refine .inr ⟨it.go i H' hlt (lc_kp l), fun H2 => LcN K U e1 σ H1 p (L2.wipe σ vs) (lcL vs mg mt inn (ds.drop (i + 1))) (fun b f => b = _ ∧ f = _) H2, fun H2 h => ⟨ds.length - (i + 1), by omega, rfl, hlt, h⟩, fun x H2 y => ?_⟩
        have hd : ds[i]? = some ds[i] := by simp [hlt]
        obtain ⟨l, rx⟩ := lc_turn it l hd y
        rw [List.drop_eq_getElem_cons hlt] at hk
        unfold lcL lcStep at hk
        cases hg : mg ds[i] e with
        | none => simp only [hg] at hk; cases hk
        | some e2 =>
          simp only [hg] at hk
          refine ⟨Up U p, e, ds[i], e2, l.sa, rx, hg, fun σ2 H3 st bt => ?_⟩
          have ew : L2.wipe σ2 vs = L2.wipe σ vs := (wipe_btw bt sub).trans (wipe_btw (btw_wipe σ vs) fun i h => h)
          have l2 := l.step st
          refine ⟨ew, Up U p, e2, st.sa, ?_⟩
          cases hb : mt e2 with
          | bad => simp only [hb] at hk; cases hk
          | er x e3 => simp only [hb] at hk; cases hk
          | ok b e3 =>
            simp only [hb] at hk
            intro b' H4 st2 rb
            obtain rfl : b' = b := rb
            have l3 := l2.step st2
            cases b' with
            | false =>
              refine iteF ⟨_, _, _, _, ?_, hk, rfl, rfl⟩
              rw [← ew]
              exact l3.wipe vs okv
            | true =>
              refine iteT ⟨Up U p, e3, l3.sa, ?_⟩
              simp only at hk
              subst hin
              generalize hin : lcIn vs1 mi1 mg1 mt1 (lcPush me) = inn at hk
              cases hz : inn acc e3 with
              | bad => simp only [hz] at hk; cases hk
              | er x e4 => simp only [hz] at hk; cases hk
              | ok acc1 e9 =>
                simp only [hz] at hk
                subst hin
                generalize hin : lcIn vs1 mi1 mg1 mt1 (lcPush me) = inn at hk ⊢
                unfold lcIn at hz
                cases hm : mi1 e3 with
                | bad => simp only [hm] at hz; cases hz
                | er x e4 => simp only [hm] at hz; cases hz
                | ok ds1 e4 =>
                  simp only [hm] at hz
                  intro J1 H5 st3 it1
                  have it1 : ItOk K (Ux (Up U p) e4 σ2) H5 ds1 J1 := it1
                  have l4 := l3.step st3
                  refine ⟨fun j k H' => k = ds1.length - j ∧ j ≤ ds1.length ∧ ∃ e acc, LcI K U e1 σ H1 p e (L2.wipe σ2 vs1) H' acc ∧ LcJ (Up U p) e4 σ2 H5 e (L2.wipe σ2 vs1) H' ∧ lcL vs1 mg1 mt1 (lcPush me) (ds1.drop j) acc e = .ok acc1 e9, ⟨ds1.length, by simp, Nat.zero_le _, _, _, l4.wipe vs1 okv1, LcJ.start, hz⟩, ?_⟩
                  rintro j k H' ⟨rfl, hj, f, acc2, k1, k2, hq⟩
                  by_cases hlt1 : j < ds1.length
                  · refine .inr ⟨it1.go j H' hlt1 k2.gr, fun H6 => ∃ e acc, LcI K U e1 σ H1 p e (L2.wipe σ2 vs1) H6 acc ∧ LcJ (Up U p) e4 σ2 H5 e (L2.wipe σ2 vs1) H6 ∧ lcL vs1 mg1 mt1 (lcPush me) (ds1.drop (j + 1)) acc e = .ok acc1 e9, fun H6 h => ⟨ds1.length - (j + 1), by omega, rfl, hlt1, h⟩, fun x1 H6 y1 => ?_⟩
                    have hd1 : ds1[j]? = some ds1[j] := by simp [hlt1]
                    have ku : ∀ a o, ¬ Ux (Up U p) e4 σ2 a → H5 a = some o → ¬ Ux (Up U p) f (L2.wipe σ2 vs1) a := fun a o n h q => by
                      rcases q with q | q
                      · exact n (.inl q)
                      · exact (k2.fr a q).elim (fun c => n (.inr c)) fun z => by rw [h] at z; cases z
                    obtain ⟨sm, rx1⟩ := it1.yld j _ H' H6 x1 _ hd1 k2.gr ku k1.sa.alU y1
                    have k1 := k1.step ((Ste.refl k1.sa).same sm)
                    have k2 : LcJ (Up U p) e4 σ2 H5 f (L2.wipe σ2 vs1) H6 := ⟨fun a o n h => sm a o (k2.gr a o n h), k2.fr⟩
                    rw [List.drop_eq_getElem_cons hlt1] at hq
                    unfold lcL lcStep at hq
                    cases hg1 : mg1 ds1[j] f with
                    | none => simp only [hg1] at hq; cases hq
                    | some f2 =>
                      simp only [hg1] at hq
                      refine ⟨Up U p, f, ds1[j], f2, k1.sa, rx1, hg1, fun σ3 H7 st4 bt1 => ?_⟩
                      have ew1 : L2.wipe σ3 vs1 = L2.wipe σ2 vs1 := (wipe_btw bt1 sub1).trans (wipe_btw (btw_wipe σ2 vs1) fun i h => h)
                      have k3 := k1.step st4
                      have j3 := k2.step st4
                      refine ⟨ew1, Up U p, f2, st4.sa, ?_⟩
                      cases hb1 : mt1 f2 with
                      | bad => simp only [hb1] at hq; cases hq
                      | er x e3 => simp only [hb1] at hq; cases hq
                      | ok b f3 =>
                        simp only [hb1] at hq
                        intro b' H8 st5 rb
                        obtain rfl : b' = b := rb
                        have k4 := k3.step st5
                        have j4 := j3.step st5
                        cases b' with
                        | false =>
                          refine iteF ⟨_, _, ?_, ?_, hq⟩
                          · rw [← ew1]; exact k4.wipe vs1 okv1
                          · rw [← ew1]; exact j4.wipe vs1
                        | true =>
                          refine iteT ⟨Up U p, f3, k4.sa, ?_⟩
                          simp only [lcPush] at hq
                          cases hw : me f3 with
                          | bad => simp only [hw] at hq; cases hq
                          | er x e4 => simp only [hw] at hq; cases hq
                          | ok z f4 =>
                            simp only [hw] at hq
                            by_cases hl : acc2.length < sizeLine
                            · rw [if_pos hl] at hq
                              intro v H9 st6 rz
                              have k5 := k4.step st6
                              have j5 := j4.step st6
                              obtain ⟨xs, h1, h2, k6⟩ := k5.push rz
                              refine ⟨xs, h1, by rw [h2]; exact hl, _, _, ?_, ?_, hq⟩
                              · rw [← ew1]; exact k6.wipe vs1 okv1
                              · rw [← ew1]; exact (j5.push (.inr rfl)).wipe vs1
                            · rw [if_neg hl] at hq; cases hq
                  · have e : j = ds1.length := by omega
                    subst e
                    rw [List.drop_length] at hq
                    cases hq
                    refine .inl ⟨it1.stop _ H' (Nat.le_refl _) k2.gr rfl, _, _, _, _, ?_, hk, rfl, rfl⟩
                    have e2 : L2.wipe (L2.wipe σ2 vs1) vs = L2.wipe σ vs := (wipe_btw (btw_wipe σ2 vs1) hv).trans ew
                    rw [← e2]
                    exact k1.wipe vs okv
      · have e : i = ds.length := by omega
        subst e
        rw [List.drop_length] at hk
        cases hk
        exact .inl ⟨it.stop _ H' (Nat.le_refl _) (lc_kp l) rfl, po1 p H' ((l.fin a.sa okv).pre (.refl a.sa))⟩
  · rw [if_neg okv] at po1
    exact po1.elim
theorem ef_lc2 (hc : X.calm = true) (hN : X.N.Nodup) (hi : EvI X W tg iter mi) (ok : BlkOk X.N X.env.scope scope own) (hv : ∀ i ∈ vs1, i ∈ own.map (·.2))
    (hg : ∀ (s : Shared) (H : Hp) (C : Addr) (cl : List (Str × Addr)) (fp : List Addr), EvG (X.blk s H scope (compEnvC scope cl C X.env) fp) tg is mg) (ht : ∀ (s : Shared) (H : Hp) (C : Addr) (cl : List (Str × Addr)) (fp : List Addr), EvTs (X.blk s H scope (compEnvC scope cl C X.env) fp) ifs mt)
    (hi1 : ∀ (s : Shared) (H : Hp) (C : Addr) (cl : List (Str × Addr)) (fp : List Addr), EvI (X.blk s H scope (compEnvC scope cl C X.env) fp) W0 tg1 iter1 mi1)
    (hg1 : ∀ (s : Shared) (H : Hp) (C : Addr) (cl : List (Str × Addr)) (fp : List Addr), EvG (X.blk s H scope (compEnvC scope cl C X.env) fp) tg1 is1 mg1) (ht1 : ∀ (s : Shared) (H : Hp) (C : Addr) (cl : List (Str × Addr)) (fp : List Addr), EvTs (X.blk s H scope (compEnvC scope cl C X.env) fp) ifs1 mt1)
    (he : ∀ (s : Shared) (H : Hp) (C : Addr) (cl : List (Str × Addr)) (fp : List Addr), Ev (X.blk s H scope (compEnvC scope cl C X.env) fp) W0 elt me) (sub : ∀ i ∈ is, i ∈ own.map (·.2)) (sub1 : ∀ i ∈ is1, i ∈ vs1)
    (hs : ∀ x, foldedSetIterable iter X.env x = pure x := by intro _; rfl) (hs1 : ∀ env x, foldedSetIterable iter1 env x = pure x := by intro _ _; rfl) :
    EvF X W (.ListComp elt [⟨tg, iter, ifs, 0⟩, ⟨tg1, iter1, ifs1, 0⟩] scope pos) (mLc (own.map (·.2)) mi mg mt (lcIn vs1 mi1 mg1 mt1 (lcPush me))) :=
  PE_imp (pe_lc2 (g := tGt X.K is mg) (tt := tT X.K W0 mt) (wi1 := tM (RI X.K) X.K W0 mi1) (g1 := tGt X.K is1 mg1) (tt1 := tT X.K W0 mt1) (te := tE X.K W0 me) hc hN hi ok hv hg ht hi1 hg1 ht1 he hs hs1) fun σ H Q h => lc2_imp hv sub sub1 h
section
variable {i : Nat} {y : Str} {py spos : Pos}
theorem es_setLc2O (hc : X.calm = true) (hN : X.N.Nodup) (hy : X.N[i]? = some y) (hyl : X.env.scope.names.lookup y = some .local) (hsw : swapsWith (.ListComp elt [⟨tg, iter, ifs, 0⟩, ⟨tg1, iter1, ifs1, 0⟩] scope pos) (some (.Name y py)) spos.line X.env = pure true) (hi : EvI X W tg iter mi) (ok : BlkOk X.N X.env.scope scope own) (hv : ∀ i ∈ vs1, i ∈ own.map (·.2))
    (hg : ∀ (s : Shared) (H : Hp) (C : Addr) (cl : List (Str × Addr)) (fp : List Addr), EvG (X.blk s H scope (compEnvC scope cl C X.env) fp) tg is mg) (ht : ∀ (s : Shared) (H : Hp) (C : Addr) (cl : List (Str × Addr)) (fp : List Addr), EvTs (X.blk s H scope (compEnvC scope cl C X.env) fp) ifs mt)
    (hi1 : ∀ (s : Shared) (H : Hp) (C : Addr) (cl : List (Str × Addr)) (fp : List Addr), EvI (X.blk s H scope (compEnvC scope cl C X.env) fp) W0 tg1 iter1 mi1)
    (hg1 : ∀ (s : Shared) (H : Hp) (C : Addr) (cl : List (Str × Addr)) (fp : List Addr), EvG (X.blk s H scope (compEnvC scope cl C X.env) fp) tg1 is1 mg1) (ht1 : ∀ (s : Shared) (H : Hp) (C : Addr) (cl : List (Str × Addr)) (fp : List Addr), EvTs (X.blk s H scope (compEnvC scope cl C X.env) fp) ifs1 mt1)
    (he : ∀ (s : Shared) (H : Hp) (C : Addr) (cl : List (Str × Addr)) (fp : List Addr), Ev (X.blk s H scope (compEnvC scope cl C X.env) fp) W0 elt me) (sub : ∀ i ∈ is, i ∈ own.map (·.2)) (sub1 : ∀ i ∈ is1, i ∈ vs1)
    (hs : ∀ x, foldedSetIterable iter X.env x = pure x := by intro _; rfl) (hs1 : ∀ env x, foldedSetIterable iter1 env x = pure x := by intro _ _; rfl) :
    EvS X W (.Assign [.Name y py] (.ListComp elt [⟨tg, iter, ifs, 0⟩, ⟨tg1, iter1, ifs1, 0⟩] scope pos) spos) (mOw i (mLc (own.map (·.2)) mi mg mt (lcIn vs1 mi1 mg1 mt1 (lcPush me)))) :=
  PS_imp (ps_setLc2 (g := tGt X.K is mg) (tt := tT X.K W0 mt) (wi1 := tM (RI X.K) X.K W0 mi1) (g1 := tGt X.K is1 mg1) (tt1 := tT X.K W0 mt1) (te := tE X.K W0 me) hc hN hy hyl hsw hi ok hv hg ht hi1 hg1 ht1 he hs hs1) fun Dn σ H h => lc2_imp hv sub sub1 (own_imp h)
theorem es_setLc2V (hc : X.calm = true) (hN : X.N.Nodup) (hy : X.N[i]? = some y) (hyl : X.env.scope.names.lookup y = some .local) (hsw : swapsWith (.ListComp elt [⟨tg, iter, ifs, 0⟩, ⟨tg1, iter1, ifs1, 0⟩] scope pos) (some (.Name y py)) spos.line X.env = pure true) (hi : EvI X W tg iter mi) (ok : BlkOk X.N X.env.scope scope own) (hv : ∀ i ∈ vs1, i ∈ own.map (·.2))
    (hg : ∀ (s : Shared) (H : Hp) (C : Addr) (cl : List (Str × Addr)) (fp : List Addr), EvG (X.blk s H scope (compEnvC scope cl C X.env) fp) tg is mg) (ht : ∀ (s : Shared) (H : Hp) (C : Addr) (cl : List (Str × Addr)) (fp : List Addr), EvTs (X.blk s H scope (compEnvC scope cl C X.env) fp) ifs mt)
    (hi1 : ∀ (s : Shared) (H : Hp) (C : Addr) (cl : List (Str × Addr)) (fp : List Addr), EvI (X.blk s H scope (compEnvC scope cl C X.env) fp) W0 tg1 iter1 mi1)
    (hg1 : ∀ (s : Shared) (H : Hp) (C : Addr) (cl : List (Str × Addr)) (fp : List Addr), EvG (X.blk s H scope (compEnvC scope cl C X.env) fp) tg1 is1 mg1) (ht1 : ∀ (s : Shared) (H : Hp) (C : Addr) (cl : List (Str × Addr)) (fp : List Addr), EvTs (X.blk s H scope (compEnvC scope cl C X.env) fp) ifs1 mt1)
    (he : ∀ (s : Shared) (H : Hp) (C : Addr) (cl : List (Str × Addr)) (fp : List Addr), Ev (X.blk s H scope (compEnvC scope cl C X.env) fp) W0 elt me) (sub : ∀ i ∈ is, i ∈ own.map (·.2)) (sub1 : ∀ i ∈ is1, i ∈ vs1)
    (hs : ∀ x, foldedSetIterable iter X.env x = pure x := by intro _; rfl) (hs1 : ∀ env x, foldedSetIterable iter1 env x = pure x := by intro _ _; rfl) :
    EvS X W (.Assign [.Name y py] (.ListComp elt [⟨tg, iter, ifs, 0⟩, ⟨tg1, iter1, ifs1, 0⟩] scope pos) spos) (mAsg (gSet i) (xVal (mLc (own.map (·.2)) mi mg mt (lcIn vs1 mi1 mg1 mt1 (lcPush me))))) :=
  PS_imp (ps_setLc2 (g := tGt X.K is mg) (tt := tT X.K W0 mt) (wi1 := tM (RI X.K) X.K W0 mi1) (g1 := tGt X.K is1 mg1) (tt1 := tT X.K W0 mt1) (te := tE X.K W0 me) hc hN hy hyl hsw hi ok hv hg ht hi1 hg1 ht1 he hs hs1) fun Dn σ H h => lc2_imp hv sub sub1 (val_imp h)
end
end
end Mi

set_option Elab.async false
set_option linter.all false
set_option maxRecDepth 100000
set_option maxHeartbeats 4000000
/-! Mi15: the built-in functions on trees -/
namespace Mi
open PySem PySem.Spec L2
section
variable {K : PySem.W.Frag} {U : Addr → Prop} {H : Hp}
theorem Reps.one {d : D} {xs : List V} (r : Reps K U H [d] xs) : ∃ x, xs = [x] ∧ Rep K U H d x := by
  obtain ⟨x, t, e, r, e'⟩ := r
  exact ⟨x, by rw [e, show t = _ from e'], r⟩
theorem Reps.two {d e : D} {xs : List V} (r : Reps K U H [d, e] xs) : ∃ x y, xs = [x, y] ∧ Rep K U H d x ∧ Rep K U H e y := by
  obtain ⟨x, t, e, r, y, t', e', r', e''⟩ := r
  exact ⟨x, y, by rw [e, e', show t' = _ from e''], r, r'⟩
/-- a list of ints -/
def intsD : List D → Option (List Int)
  | [] => some []
  | .int i :: ds => (intsD ds).map fun r => i :: r
  | _ :: _ => none
def blsD : List D → Option (List Bool)
  | [] => some []
  | .bl i :: ds => (blsD ds).map fun r => i :: r
  | _ :: _ => none
def strsD : List D → Option (List Str)
  | [] => some []
  | .str i :: ds => (strsD ds).map fun r => i :: r
  | _ :: _ => none
theorem intsD_v : ∀ {ds : List D} {ns : List Int} {xs : List V}, intsD ds = some ns → Reps K U H ds xs → xs = ns.map V.int
  | [], ns, xs, h, r => by simp [intsD] at h; subst h; exact r
  | d :: ds, ns, xs, h, ⟨x, t, e, r1, r2⟩ => by
    cases d <;> simp only [intsD, reduceCtorEq] at h
    obtain ⟨r, h1, rfl⟩ := Option.map_eq_some_iff.mp h
    rw [e, show x = _ from r1, intsD_v h1 r2]; rfl
theorem blsD_v : ∀ {ds : List D} {ns : List Bool} {xs : List V}, blsD ds = some ns → Reps K U H ds xs → xs = ns.map V.bl
  | [], ns, xs, h, r => by simp [blsD] at h; subst h; exact r
  | d :: ds, ns, xs, h, ⟨x, t, e, r1, r2⟩ => by
    cases d <;> simp only [blsD, reduceCtorEq] at h
    obtain ⟨r, h1, rfl⟩ := Option.map_eq_some_iff.mp h
    rw [e, show x = _ from r1, blsD_v h1 r2]; rfl
theorem strsD_v : ∀ {ds : List D} {ns : List Str} {xs : List V}, strsD ds = some ns → Reps K U H ds xs → xs = ns.map V.str
  | [], ns, xs, h, r => by simp [strsD] at h; subst h; exact r
  | d :: ds, ns, xs, h, ⟨x, t, e, r1, r2⟩ => by
    cases d <;> simp only [strsD, reduceCtorEq] at h
    obtain ⟨r, h1, rfl⟩ := Option.map_eq_some_iff.mp h
    rw [e, show x = _ from r1, strsD_v h1 r2]; rfl
/-! ### len -/
def gLen : List D → Option D
  | [.tup ds] => some (.int ds.length)
  | [.lst ds] => some (.int ds.length)
  | [.fz ds] => some (.int ds.length)
  | [.str x] => if x.length ≤ sizeLine then some (.int x.length) else none
  | _ => none
def rLenM (K : PySem.W.Frag) : List V → Hp → VK → Prop := fun xs H Q => (∃ x n, xs = [x] ∧ LenV K x H n ∧ Q (.int n) H) ∨ ((∃ a kvs, xs = [V.ref a] ∧ H a = some (.dK kvs) ∧ Q (.int kvs.length) H) ∨ rLenT xs H Q)
theorem cr_len {X : Cx} : CallR X (.builtin "len") (rLenM X.K) := CallR.or call_len (CallR.or call_lenD call_len_dT)
theorem n_len : SndN K gLen (rLenM K) := by
  intro U H xs ds z Q al r hz q
  match ds, hz, r with
  | [], hz, _ => cases hz
  | _ :: _ :: _, hz, _ => simp [gLen] at hz
  | [d], hz, r =>
    obtain ⟨x, rfl, rx⟩ := r.one
    cases d with
    | tup ds =>
      cases hz
      obtain ⟨a, vs, rfl, h, _, rs⟩ := rx.tup_sq
      exact .inl ⟨_, ds.length, rfl, .inr ⟨vs, .of h, rs.len.symm⟩, q _ H (Same.refl H) rfl⟩
    | lst ds =>
      cases hz
      obtain ⟨a, vs, rfl, h, _, rs⟩ := rx.lst_sq
      exact .inl ⟨_, ds.length, rfl, .inl ⟨vs, .of h, rs.len.symm⟩, q _ H (Same.refl H) rfl⟩
    | fz ds =>
      cases hz
      obtain ⟨a, vs, rfl, h, rs⟩ := rx
      exact .inl ⟨_, ds.length, rfl, .inl ⟨vs, h.sq, rs.len.symm⟩, q _ H (Same.refl H) rfl⟩
    | str w =>
      simp only [gLen, Option.ite_none_right_eq_some] at hz
      obtain ⟨h, e⟩ := hz
      cases e
      have rx : x = .str w := rx
      subst rx
      exact .inl ⟨_, w.length, rfl, ⟨h, rfl⟩, q _ H (Same.refl H) rfl⟩
    | _ => simp [gLen] at hz
/-! ### int, str, abs, max, min -/
def gInt : List D → Option D
  | [.int i] => some (.int i)
  | [.bl b] => some (.int (if b then 1 else 0))
  | [.str x] => if x.length ≤ 640 then (PySem.intText? x).map .int else none
  | _ => none
def rIntM : List V → Hp → VK → Prop := fun xs H Q => ((∃ i, xs = [.int i] ∧ Q (.int i) H) ∨ ∃ k, xs = [.bl k] ∧ Q (.int (if k then 1 else 0)) H) ∨ (∃ a n, xs = [.str a] ∧ PySem.intText? a = some n ∧ a.length ≤ 640 ∧ Q (.int n) H)
theorem cr_int {X : Cx} : CallR X (.type "int") rIntM := CallR.or call_int1 call_int_str
theorem n_int : SndN K gInt rIntM := by
  intro U H xs ds z Q al r hz q
  match ds, hz, r with
  | [], hz, _ => cases hz
  | _ :: _ :: _, hz, _ => simp [gInt] at hz
  | [d], hz, r =>
    obtain ⟨x, rfl, rx⟩ := r.one
    cases d with
    | int i => cases hz; exact .inl (.inl ⟨i, by rw [show x = _ from rx], q _ H (Same.refl H) rfl⟩)
    | bl i => cases hz; exact .inl (.inr ⟨i, by rw [show x = _ from rx], q _ H (Same.refl H) rfl⟩)
    | str w =>
      simp only [gInt, Option.ite_none_right_eq_some] at hz
      obtain ⟨h, e⟩ := hz
      obtain ⟨n, hn, rfl⟩ := Option.map_eq_some_iff.mp e
      exact .inr ⟨w, n, by rw [show x = _ from rx], hn, h, q _ H (Same.refl H) rfl⟩
    | _ => simp [gInt] at hz
def gStr : List D → Option D
  | [.int i] => if i.natAbs.log2 < 1920 then some (.str (toString i : String)) else none
  | _ => none
theorem n_str : SndN K gStr (fun xs H Q => ∃ i : Int, xs = [.int i] ∧ i.natAbs.log2 < 1920 ∧ Q (.str (toString i : String)) H) := by
  intro U H xs ds z Q al r hz q
  match ds, hz, r with
  | [], hz, _ => cases hz
  | _ :: _ :: _, hz, _ => simp [gStr] at hz
  | [d], hz, r =>
    obtain ⟨x, rfl, rx⟩ := r.one
    cases d with
    | int i =>
      simp only [gStr, Option.ite_none_right_eq_some] at hz
      obtain ⟨h, e⟩ := hz
      cases e
      exact ⟨i, by rw [show x = _ from rx], h, q _ H (Same.refl H) rfl⟩
    | _ => simp [gStr] at hz
def gAbs : List D → Option D
  | [.int i] => some (.int (if i < 0 then -i else i))
  | _ => none
theorem n_abs : SndN K gAbs (fun xs H Q => ∃ i, xs = [.int i] ∧ Q (.int (if i < 0 then -i else i)) H) := by
  intro U H xs ds z Q al r hz q
  match ds, hz, r with
  | [], hz, _ => cases hz
  | _ :: _ :: _, hz, _ => simp [gAbs] at hz
  | [d], hz, r =>
    obtain ⟨x, rfl, rx⟩ := r.one
    cases d with
    | int i => cases hz; exact ⟨i, by rw [show x = _ from rx], q _ H (Same.refl H) rfl⟩
    | _ => simp [gAbs] at hz
/-- of two ints -/
def gII (f : Int → Int → Int) : List D → Option D
  | [.int i, .int j] => some (.int (f i j))
  | _ => none
theorem n_ii {f : Int → Int → Int} : SndN K (gII f) (fun xs H Q => ∃ i j, xs = [.int i, .int j] ∧ Q (.int (f i j)) H) := by
  intro U H xs ds z Q al r hz q
  match ds, hz, r with
  | [], hz, _ => cases hz
  | [_], hz, _ => simp [gII] at hz
  | _ :: _ :: _ :: _, hz, _ => simp [gII] at hz
  | [d, e], hz, r =>
    obtain ⟨x, y, rfl, rx, ry⟩ := r.two
    cases d <;> cases e <;> simp [gII] at hz
    subst hz
    exact ⟨_, _, by rw [show x = _ from rx, show y = _ from ry], q _ H (Same.refl H) rfl⟩
abbrev gMax2 : List D → Option D := gII fun i j => if j > i then j else i
abbrev gMin2 : List D → Option D := gII fun i j => if j < i then j else i
/-! ### all, any, sum, of lists -/
def gAll : List D → Option D
  | [.lst ds] => (blsD ds).map fun bs => .bl (bs.all id)
  | _ => none
def gAny : List D → Option D
  | [.lst ds] => (blsD ds).map fun bs => .bl (bs.any id)
  | _ => none
theorem lst1 {g : List D → Option D} (h0 : g [] = none) (h2 : ∀ a b c, g (a :: b :: c) = none) (h1 : ∀ d, (∀ ds, d ≠ .lst ds) → g [d] = none) {ds : List D} {z : D} (hz : g ds = some z) : ∃ es, ds = [.lst es] := by
  match ds, hz with
  | [], hz => rw [h0] at hz; cases hz
  | a :: b :: c, hz => rw [h2] at hz; cases hz
  | [d], hz =>
    by_cases h : ∃ es, d = .lst es
    · obtain ⟨es, rfl⟩ := h; exact ⟨es, rfl⟩
    · rw [h1 d fun ds e => h ⟨ds, e⟩] at hz; cases hz
theorem n_all : SndN K gAll (rAll K) := by
  intro U H xs ds z Q al r hz q
  obtain ⟨es, rfl⟩ := lst1 (g := gAll) rfl (fun _ _ _ => by simp [gAll]) (fun d h => by cases d <;> first | rfl | exact absurd rfl (h _)) hz
  obtain ⟨bs, hb, rfl⟩ := Option.map_eq_some_iff.mp hz
  obtain ⟨x, rfl, rx⟩ := r.one
  obtain ⟨a, vs, rfl, h, _, rs⟩ := rx.lst_sq
  exact ⟨a, bs, rfl, .of (by rw [h, blsD_v hb rs]), q _ H (Same.refl H) rfl⟩
theorem n_any : SndN K gAny (rAny K) := by
  intro U H xs ds z Q al r hz q
  obtain ⟨es, rfl⟩ := lst1 (g := gAny) rfl (fun _ _ _ => by simp [gAny]) (fun d h => by cases d <;> first | rfl | exact absurd rfl (h _)) hz
  obtain ⟨bs, hb, rfl⟩ := Option.map_eq_some_iff.mp hz
  obtain ⟨x, rfl, rx⟩ := r.one
  obtain ⟨a, vs, rfl, h, _, rs⟩ := rx.lst_sq
  exact ⟨a, bs, rfl, .of (by rw [h, blsD_v hb rs]), q _ H (Same.refl H) rfl⟩
/-! ### tuple, list -/
def gTuple : List D → Option D
  | [.lst ds] => some (.tup ds)
  | [.tup ds] => some (.tup ds)
  | _ => none
def rTupleM (K : PySem.W.Frag) : List V → Hp → VK → Prop := fun xs H Q => ∃ p ys, xs = [.ref p] ∧ ((SqL K H p ys ∧ ∀ l, H l = none → Q (.ref l) (upd H l (.tup ys))) ∨ (SqT K H p ys ∧ Q (.ref p) H))
theorem n_tuple : SndN K gTuple (rTupleM K) := by
  intro U H xs ds z Q al r hz q
  match ds, hz, r with
  | [], hz, _ => cases hz
  | _ :: _ :: _, hz, _ => simp [gTuple] at hz
  | [d], hz, r =>
    obtain ⟨x, rfl, rx⟩ := r.one
    cases d with
    | lst ds =>
      cases hz
      obtain ⟨a, vs, rfl, h, _, rs⟩ := rx.lst_sq
      exact ⟨a, vs, rfl, .inl ⟨.of h, fun p hp => q _ _ (same_new hp) (rep_tup_new al hp rs)⟩⟩
    | tup ds =>
      cases hz
      have rx' := rx
      obtain ⟨a, vs, rfl, h, _, rs⟩ := rx.tup_sq
      exact ⟨a, vs, rfl, .inr ⟨.of h, q _ _ (Same.refl H) rx'⟩⟩
    | _ => simp [gTuple] at hz
def gList : List D → Option D
  | [.lst ds] => some (.lst ds)
  | [.tup ds] => some (.lst ds)
  | _ => none
theorem n_list : SndN K gList (fun xs H Q => ∃ p ys, xs = [.ref p] ∧ (SqL K H p ys ∨ SqT K H p ys) ∧ ∀ l, H l = none → Q (.ref l) (upd H l (.lst ys))) := by
  intro U H xs ds z Q al r hz q
  match ds, hz, r with
  | [], hz, _ => cases hz
  | _ :: _ :: _, hz, _ => simp [gList] at hz
  | [d], hz, r =>
    obtain ⟨x, rfl, rx⟩ := r.one
    cases d with
    | lst ds =>
      cases hz
      obtain ⟨a, vs, rfl, h, _, rs⟩ := rx.lst_sq
      exact ⟨a, vs, rfl, .inl (.of h), fun p hp => q _ _ (same_new hp) (rep_lst_new al hp rs)⟩
    | tup ds =>
      cases hz
      obtain ⟨a, vs, rfl, h, _, rs⟩ := rx.tup_sq
      exact ⟨a, vs, rfl, .inr (.of h), fun p hp => q _ _ (same_new hp) (rep_lst_new al hp rs)⟩
    | _ => simp [gList] at hz
end
/-! ### isinstance -/
/-- the type of what is no object of an own class -/
def tyD : D → Option String
  | .non => some "NoneType"
  | .bl _ => some "bool"
  | .int _ => some "int"
  | .str _ => some "str"
  | .tup _ => some "tuple"
  | .lst _ => some "list"
  | .dct false _ _ => some "dict"
  | .dct true _ _ => none
  | .obj _ _ _ => none
  | .fz _ => none
theorem tyD_v {K : PySem.W.Frag} {U : Addr → Prop} {H : Hp} {d : D} {x : V} {t : String} (h : tyD d = some t) (r : Rep K U H d x) : TyX K H x (.type t) := by
  cases d with
  | non => cases h; rw [show x = _ from r]; exact .base .non
  | bl b => cases h; rw [show x = _ from r]; exact .base (.bl b)
  | int b => cases h; rw [show x = _ from r]; exact .base (.int b)
  | str b => cases h; rw [show x = _ from r]; exact .base (.str b)
  | tup ds => cases h; obtain ⟨a, vs, rfl, h, _, rs⟩ := r.tup_sq; exact .base (.tup h)
  | lst ds => cases h; obtain ⟨a, vs, rfl, h, _, rs⟩ := r.lst_sq; exact .base (.lst h)
  | dct t ks vs =>
    cases t with
    | true => cases h
    | false =>
      cases h
      obtain ⟨a, xs, rfl, _, h, rs⟩ := r
      obtain ⟨kvs, h1, _⟩ := h
      rcases h1 with h1 | ⟨o, h1⟩
      · exact .base (.dK h1)
      · exact .fDict h1
  | obj c ns vs => cases h
  | fz vs => cases h
/-- isinstance(e, T), T a built-in type -/
def IsT (f : D → Option Bool) (T : String) : Prop := ∀ d b, f d = some b → ∃ t, tyD d = some t ∧ kitB t T = some b
def isStrD : D → Option Bool
  | .str _ => some true
  | .obj _ _ _ => none
  | .fz _ => none
  | .dct true _ _ => none
  | _ => some false
def isIntD : D → Option Bool
  | .int _ => some true
  | .bl _ => some true
  | .obj _ _ _ => none
  | .fz _ => none
  | .dct true _ _ => none
  | _ => some false
def isBoolD : D → Option Bool
  | .bl _ => some true
  | .obj _ _ _ => none
  | .fz _ => none
  | .dct true _ _ => none
  | _ => some false
def isTupD : D → Option Bool
  | .tup _ => some true
  | .obj _ _ _ => none
  | .fz _ => none
  | .dct true _ _ => none
  | _ => some false
def isLstD : D → Option Bool
  | .lst _ => some true
  | .obj _ _ _ => none
  | .fz _ => none
  | .dct true _ _ => none
  | _ => some false
def isDctD : D → Option Bool
  | .dct false _ _ => some true
  | .obj _ _ _ => none
  | .fz _ => none
  | .dct true _ _ => none
  | _ => some false
theorem is_str : IsT isStrD "str" := fun d b h => by
  cases d with
  | dct t ks vs => cases t <;> cases h <;> exact ⟨_, rfl, by decide +kernel⟩
  | _ => cases h <;> exact ⟨_, rfl, by decide +kernel⟩
theorem is_int : IsT isIntD "int" := fun d b h => by
  cases d with
  | dct t ks vs => cases t <;> cases h <;> exact ⟨_, rfl, by decide +kernel⟩
  | _ => cases h <;> exact ⟨_, rfl, by decide +kernel⟩
theorem is_bool : IsT isBoolD "bool" := fun d b h => by
  cases d with
  | dct t ks vs => cases t <;> cases h <;> exact ⟨_, rfl, by decide +kernel⟩
  | _ => cases h <;> exact ⟨_, rfl, by decide +kernel⟩
theorem is_tup : IsT isTupD "tuple" := fun d b h => by
  cases d with
  | dct t ks vs => cases t <;> cases h <;> exact ⟨_, rfl, by decide +kernel⟩
  | _ => cases h <;> exact ⟨_, rfl, by decide +kernel⟩
theorem is_lst : IsT isLstD "list" := fun d b h => by
  cases d with
  | dct t ks vs => cases t <;> cases h <;> exact ⟨_, rfl, by decide +kernel⟩
  | _ => cases h <;> exact ⟨_, rfl, by decide +kernel⟩
theorem is_dct : IsT isDctD "dict" := fun d b h => by
  cases d with
  | dct t ks vs => cases t <;> cases h <;> exact ⟨_, rfl, by decide +kernel⟩
  | _ => cases h <;> exact ⟨_, rfl, by decide +kernel⟩
def xIsi (f : D → Option Bool) (m : En → Rs D) : En → Rs D := fun env => (m env).bind fun d e => .of ((f d).map .bl) e
section
variable {X : Cx} {W : WX} {a c : Expr} {m : En → Rs D} {f : D → Option Bool} {T : String} {p pos : Pos}
theorem ev_isi (hf : IsT f T) (ha : Ev X W a m) (hc : PE X c (tC (.ty T))) (hg : Gl X "isinstance") (hm : X.mg "isinstance" = none) (hs1 : starEach [a, c] X.env = (false, eval a X.env) :: starEach [c] X.env := by rfl) (hs2 : starEach [c] X.env = (false, eval c X.env) :: starEach [] X.env := by rfl)
    (hpl : (backTo pos (starEach [c] X.env)).any (·.1) = false := by rfl) : Ev X W (.Call (.Name "isinstance" p) [a, c] [] pos) (xIsi f m) :=
  PE_imp (pe_callB call_isi hg hm (by decide +kernel) (pa_cons ha (pa_cons hc pa_nil hs2) hs1) (he := hs1) (hpl := hpl)) fun σ H Q ⟨U, env, sa, po⟩ => ⟨U, env, sa, Po.step po fun v H1 d e1 a r po1 => by
    obtain ⟨z, hz, q⟩ := Po.of_some a.sa po1
    obtain ⟨b, hb, rfl⟩ := Option.map_eq_some_iff.mp hz
    obtain ⟨t, ht, hk⟩ := hf d b hb
    exact ⟨v, .ty T, .type t, .type T, b, rfl, .ty T, tyD_v ht r, kit_ty hk, q _ H1 (Same.refl H1) rfl⟩⟩
end
end Mi

set_option Elab.async false
set_option linter.all false
set_option maxRecDepth 100000
set_option maxHeartbeats 4000000
/-! Mi16: zip and enumerate over lists, tuples and texts -/
namespace Mi
open PySem PySem.Spec L2
/-- a list, a tuple, a text -/
inductive Sc where
  | lst (a : Addr) | tup (a : Addr) | txt (x : Str) (t : Tok)
def Sc.ad : Sc → Addr → Prop
  | .lst a, b => b = a
  | .tup a, b => b = a
  | .txt _ _, _ => False
def Sc.val : Sc → Value
  | .lst a => .ref a
  | .tup a => .ref a
  | .txt x t => .str x t
def Sc.obj : Sc → Obj
  | .lst a => { cls := .type "list_iterator", data := .fields #[.ref a, .int 0 0] }
  | .tup a => { cls := .type "tuple_iterator", data := .fields #[.ref a, .int 0 0] }
  | .txt x t => { cls := .type (strIterType x), data := .fields #[.str x t, .int 0 0] }
def Sc.has (K : PySem.W.Frag) (H : Hp) (xs : List V) : Sc → Prop
  | .lst a => SqL K H a xs
  | .tup a => SqT K H a xs
  | .txt x _ => xs = x.cps.toList.map fun c => V.str ⟨#[c]⟩
def Sc.tn (it : Addr) (i : Nat) (h : Heap) : Sc → Prop
  | .lst a => h.IsListIter it a i
  | .tup a => h.IsTupleIter it a i
  | .txt x t => h.IsStrIter it (strIterType x) x t i
/-- what an iterator over it gives, in a state -/
structure ScD (P : Program) (w : World) (A : Around) (c : Sc) (it : Addr) (xs : List V) (fp : List Addr) (n : Nat) (Pv : Nat → Value → Prop) (St : Nat → Heap → Prop) (h : Heap) : Prop where
  dr : Draws P w A it fp n Pv St
  hn : n = xs.length
  hv : ∀ i v, Pv i v → ∃ x, xs[i]? = some x ∧ RelV x v
  into : ∀ i, c.tn it i h → St i h
  out : ∀ i h', St i h' → c.tn it i h'
  mem : it ∈ fp
  few : ∀ b ∈ fp, b = it ∨ c.ad b
section
variable {X : Cx} {pins : List (Addr × Obj)} {σ : St} {H : Hp} {s : Shared} {c : Sc} {it : Addr} {xs : List V}
theorem sc_draws (I : Inv X pins σ H s) (A : Around) (hh : A.handled = none) (h : c.has X.K H xs) (hne : ∀ b, c.ad b → b ≠ it) : ∃ fp n Pv St, ScD X.prog X.w A c it xs fp n Pv St s.heap := by
  cases c with
  | lst a =>
    obtain ⟨its, rv, p, hz⟩ := I.list h
    refine ⟨_, _, _, _, Draws.list hh it a (hne a rfl) its.toArray, ?_, fun i v h => ?_, fun i h => ⟨h, p.isList⟩, fun i h' st => st.1, by simp, fun b hb => by simpa [Sc.ad] using hb⟩
    · rw [List.size_toArray, rv.length]
    · have h : its[i]? = some v := by simpa using h
      have hl : i < xs.length := by rw [rv.length]; exact (List.getElem?_eq_some_iff.mp h).1
      obtain ⟨u, e, r⟩ := rv.get (List.getElem?_eq_getElem hl)
      rw [h] at e
      cases e
      exact ⟨_, List.getElem?_eq_getElem hl, r⟩
  | tup a =>
    obtain ⟨its, rv, p, hz⟩ := I.tuple h
    refine ⟨_, _, _, _, Draws.tuple hh it a (hne a rfl) its.toArray, ?_, fun i v h => ?_, fun i h => ⟨h, p⟩, fun i h' st => st.1, by simp, fun b hb => by simpa [Sc.ad] using hb⟩
    · rw [List.size_toArray, rv.length]
    · have h : its[i]? = some v := by simpa using h
      have hl : i < xs.length := by rw [rv.length]; exact (List.getElem?_eq_some_iff.mp h).1
      obtain ⟨u, e, r⟩ := rv.get (List.getElem?_eq_getElem hl)
      rw [h] at e
      cases e
      exact ⟨_, List.getElem?_eq_getElem hl, r⟩
  | txt x t =>
    have h : xs = x.cps.toList.map fun c => V.str ⟨#[c]⟩ := h
    subst h
    refine ⟨_, _, _, _, Draws.text hh it x t, by simp, fun i v ⟨c, u, hc, e⟩ => ⟨.str ⟨#[c]⟩, ?_, by rw [e]; exact ⟨u, rfl⟩⟩, fun i h => h, fun i h' st => st, by simp, fun b hb => .inl (by simpa using hb)⟩
    rw [List.getElem?_map, Array.getElem?_toList, hc]
    rfl
theorem sc_inj (I : Inv X pins σ H s) {ys : List V} (h : c.has X.K H xs) (h' : c.has X.K H ys) : xs = ys := by
  cases c with
  | lst a => exact I.list_inj h h'
  | tup a => exact I.tuple_inj h h'
  | txt x t => exact (show xs = _ from h).trans (show ys = _ from h').symm
theorem sc_begins (I : Inv X pins σ H s) (h : c.has X.K H xs) : ∃ Hb : Heap → Prop, Begins c.val c.obj Hb ∧ Hb s.heap ∧ ∀ h' it, h'.get? it = some c.obj → c.tn it 0 h' := by
  cases c with
  | lst a =>
    obtain ⟨its, rv, p, hz⟩ := I.list h
    exact ⟨_, begins_list a its.toArray, p.isList, fun h' it e => ⟨_, e, rfl, rfl⟩⟩
  | tup a =>
    obtain ⟨its, rv, p, hz⟩ := I.tuple h
    exact ⟨_, begins_tuple a its.toArray, p, fun h' it e => ⟨_, e, rfl, rfl⟩⟩
  | txt x t => exact ⟨_, begins_text x t, trivial, fun h' it e => ⟨_, e, rfl, rfl⟩⟩
theorem sc_old (I : Inv X pins σ H s) (h : c.has X.K H xs) {b : Addr} (hb : c.ad b) : b < s.heap.objs.size := by
  cases c with
  | lst a => obtain ⟨its, rv, p, hz⟩ := I.list h; rw [show b = a from hb]; exact p.lt
  | tup a => obtain ⟨its, rv, p, hz⟩ := I.tuple h; rw [show b = a from hb]; obtain ⟨o, e, _⟩ := p; exact Heap.lt_size e
  | txt x t => exact (show False from hb).elim
theorem tn_obj {c : Sc} {it : Addr} {i : Nat} {h : Heap} (t : c.tn it i h) : ∃ o vs, h.get? it = some o ∧ o.data = .fields vs ∧ ∀ h', h'.get? it = some o → c.tn it i h' := by
  cases c with
  | lst a => obtain ⟨o, e, c, d⟩ := t; exact ⟨o, _, e, d, fun h' e' => ⟨o, e', c, d⟩⟩
  | tup a => obtain ⟨o, e, c, d⟩ := t; exact ⟨o, _, e, d, fun h' e' => ⟨o, e', c, d⟩⟩
  | txt x t => obtain ⟨o, e, c, d⟩ := t; exact ⟨o, _, e, d, fun h' e' => ⟨o, e', c, d⟩⟩
end
/-! ### zip -/
structure ZAp (z TI TO i1 i2 : Addr) (c d : Sc) : Prop where
  nd : [z, TI, TO, i1, i2].Nodup
  ap : ∀ b, c.ad b ∨ d.ad b → b ∉ [z, TI, TO, i1, i2]
theorem ZAp.sep {z TI TO i1 i2 : Addr} {c d : Sc} (a : ZAp z TI TO i1 i2 c d) {fp1 fp2 : List Addr} (m1 : i1 ∈ fp1) (m2 : i2 ∈ fp2) (f1 : ∀ b ∈ fp1, b = i1 ∨ c.ad b) (f2 : ∀ b ∈ fp2, b = i2 ∨ d.ad b) : ZipSep2 z TI TO i1 i2 fp1 fp2 := by
  have nd := a.nd
  simp only [List.nodup_cons, List.mem_cons, List.mem_nil_iff, or_false, not_or] at nd
  obtain ⟨⟨a1, a2, a3, a4⟩, ⟨b1, b2, b3⟩, ⟨c1, c2⟩, d1, _⟩ := nd
  have no1 : ∀ {b}, b ∈ [z, TI, TO, i2] → b ∉ fp1 := fun {b} hb hm => by
    rcases f1 b hm with e | e
    · subst e
      simp only [List.mem_cons, List.mem_nil_iff, or_false] at hb
      rcases hb with q | q | q | q
      · exact a3 q.symm
      · exact b2 q.symm
      · exact c1 q.symm
      · exact d1 q
    · refine a.ap b (.inl e) ?_
      simp only [List.mem_cons, List.mem_nil_iff, or_false] at hb ⊢
      rcases hb with q | q | q | q <;> simp [q]
  have no2 : ∀ {b}, b ∈ [z, TI, TO, i1] → b ∉ fp2 := fun {b} hb hm => by
    rcases f2 b hm with e | e
    · subst e
      simp only [List.mem_cons, List.mem_nil_iff, or_false] at hb
      rcases hb with q | q | q | q
      · exact a4 q.symm
      · exact b3 q.symm
      · exact c2 q.symm
      · exact d1 q.symm
    · refine a.ap b (.inr e) ?_
      simp only [List.mem_cons, List.mem_nil_iff, or_false] at hb ⊢
      rcases hb with q | q | q | q <;> simp [q]
  exact ⟨Ne.symm a1, Ne.symm a2, b1, b2, m1, no1 (by simp), no1 (by simp), b3, m2, no2 (by simp), no2 (by simp), no2 (by simp), no1 (by simp)⟩
def ItZ (K : PySem.W.Frag) (c d : Sc) : It :=
  ⟨fun i H => ∃ (xs ys : List V), c.has K H xs ∧ d.has K H ys ∧ i < xs.length ∧ i < ys.length,
    fun i H v H' => ∃ T x y, v = .ref T ∧ H T = none ∧ H' = upd H T (.tup [x, y]) ∧ (∀ xs, c.has K H xs → xs[i]? = some x) ∧ ∀ ys, d.has K H ys → ys[i]? = some y,
    fun i H => ∃ xs ys : List V, c.has K H xs ∧ d.has K H ys ∧ i ≤ xs.length ∧ i ≤ ys.length ∧ (i = xs.length ∨ i = ys.length)⟩
theorem turn_zipM {P : Program} {w : World} {K : PySem.W.Frag} {elts : List Expr} {kk : Nat} {tpos : Pos} {c d : Sc} {z TI TO i1 i2 : Addr} (D : ZAp z TI TO i1 i2 c d) :
    Turn P w K (.Tuple elts kk tpos) (ItZ K c d) [z, TI, TO, i1, i2] z (fun i h => IsZip h z TI TO .none ∧ IsTupOf2 h TI (.ref i1) (.ref i2) ∧ (∃ x y, IsTupOf2 h TO x y) ∧ c.tn i1 i h ∧ d.tn i2 i h) where
  mem := by simp
  obj := fun i h st b hb => by
    obtain ⟨hz, hTI, ⟨x, y, hTO⟩, h1, h2⟩ := st
    obtain ⟨o1, v1, e1, d1, _⟩ := tn_obj h1
    obtain ⟨o2, v2, e2, d2, _⟩ := tn_obj h2
    have e' : b = z ∨ b = TI ∨ b = TO ∨ b = i1 ∨ b = i2 := by simpa using hb
    rcases e' with q | q | q | q | q
    · rw [q]; exact ⟨_, hz, fun v q => nomatch q⟩
    · rw [q]; exact ⟨_, hTI, fun v q => nomatch q⟩
    · rw [q]; exact ⟨_, hTO, fun v q => nomatch q⟩
    · rw [q]; exact ⟨o1, e1, fun v q => by rw [d1] at q; cases q⟩
    · rw [q]; exact ⟨o2, e2, fun v q => by rw [d2] at q; cases q⟩
  keep := fun i h h' st k => by
    obtain ⟨hz, hTI, ⟨x, y, hTO⟩, h1, h2⟩ := st
    obtain ⟨o1, v1, e1, d1, k1⟩ := tn_obj h1
    obtain ⟨o2, v2, e2, d2, k2⟩ := tn_obj h2
    exact ⟨k z (by simp) _ hz, k TI (by simp) _ hTI, ⟨x, y, k TO (by simp) _ hTO⟩, k1 _ (k i1 (by simp) _ e1), k2 _ (k i2 (by simp) _ e2)⟩
  item := by
    intro X hP hw hK hc i pins s σ H E I hf st hg
    subst hP hw hK
    obtain ⟨hz, hTI, ⟨x0, y0, hTO⟩, h1, h2⟩ := st
    obtain ⟨xs, ys, hx, hy, lx, ly⟩ := hg
    have hd := I.ok.hd hc
    obtain ⟨fp1, n1, P1, St1, D1⟩ := sc_draws (it := i1) I X.A.in1 hd hx fun b hb e => D.ap b (.inl hb) (by simp [e])
    obtain ⟨fp2, n2, P2, St2, D2⟩ := sc_draws (it := i2) I X.A.in1 hd hy fun b hb e => D.ap b (.inr hb) (by simp [e])
    have S := D.sep D1.mem D2.mem D1.few D2.few
    have hzl : z < s.heap.objs.size := Heap.lt_size hz
    have nd := D.nd
    simp only [List.nodup_cons, List.mem_cons, List.mem_nil_iff, or_false, not_or] at nd
    obtain ⟨⟨a1, a2, a3, a4⟩, ⟨b1, b2, b3⟩, ⟨c1, c2⟩, d1, _⟩ := nd
    refine wpAny_pyNext_zipD2_item S D1.dr D2.dr hz hTI hTO (D1.into i h1) (D2.into i h2) (by rw [D1.hn]; exact lx) (by rw [D2.hn]; exact ly) fun u u2 h' tk p1 p2 z' TO' s1 s2 hT hsz hk => ?_
    obtain ⟨x, ex, rx⟩ := D1.hv i u p1
    obtain ⟨y, ey, ry⟩ := D2.hv i u2 p2
    refine ⟨_, rfl, wpAny_letOwnedTupleGo_zip (s := { s with heap := h', toks := tk }) z' fun h'' z'' sb => ?_⟩
    have hT2 : h''.get? s.heap.objs.size = some { cls := .type "tuple", data := .seq #[u, u2] } := (sb.2 _ (Nat.ne_of_gt hzl)).trans hT
    have new : ObjOk X.prog X.w (upd H s.heap.objs.size (.tup [x, y])) h'' s.heap.objs.size (.tup [x, y]) :=
      ⟨by show 2 ≤ sizeLine; decide, [u, u2], .cons rx (.cons ry .nil), ⟨_, hT2, rfl, _, rfl⟩⟩
    have I1 : Inv X pins σ (upd H s.heap.objs.size (.tup [x, y])) { s with heap := h'', toks := tk } :=
      I.turnedNew (t' := tk) (ch := [z, TI, TO, i1, i2]) (fun c o hb q => (sb.2 c (fun q' => hb (by simp [q']))).trans (hk c o (fun q' => hb (by simp [q'])) (fun q' => hb (by simp [q'])) (fun q' => hb (by simp [q'])) (fun q' => hb (by simp [q'])) q)) hf (Nat.le_refl _) new
    obtain ⟨_, _, e1, _, k1⟩ := tn_obj (D1.out _ _ s1)
    obtain ⟨_, _, e2, _, k2⟩ := tn_obj (D2.out _ _ s2)
    refine ⟨.ref s.heap.objs.size, _, I1, rfl, ⟨_, x, y, rfl, I.hok.fresh (Nat.le_refl _), rfl, fun l hl => by rw [sc_inj I hl hx]; exact ex, fun l hl => by rw [sc_inj I hl hy]; exact ey⟩, ⟨z'', ?_, ⟨u, u2, ?_⟩, ?_, ?_⟩, fun c hcm => ?_⟩
    · exact (sb.2 _ (Ne.symm a1)).trans (hk _ _ (Ne.symm a1) b1 b2 b3 hTI)
    · exact (sb.2 _ (Ne.symm a2)).trans TO'
    · exact k1 _ ((sb.2 _ (Ne.symm a3)).trans e1)
    · exact k2 _ ((sb.2 _ (Ne.symm a4)).trans e2)
    · have hlt : c < s.heap.objs.size := by
        obtain ⟨_, _, e1, _, _⟩ := tn_obj h1
        obtain ⟨_, _, e2, _, _⟩ := tn_obj h2
        have e' : c = z ∨ c = TI ∨ c = TO ∨ c = i1 ∨ c = i2 := by simpa using hcm
        rcases e' with q | q | q | q | q
        · rw [q]; exact hzl
        · rw [q]; exact Heap.lt_size hTI
        · rw [q]; exact Heap.lt_size hTO
        · rw [q]; exact Heap.lt_size e1
        · rw [q]; exact Heap.lt_size e2
      rw [upd_ne (Nat.ne_of_lt hlt)]
      exact (hf c hcm).1
  done := by
    intro X hP hw hK hc i pins s σ H E I hf st hg
    subst hP hw hK
    obtain ⟨hz, hTI, ⟨x0, y0, hTO⟩, h1, h2⟩ := st
    obtain ⟨xs, ys, hx, hy, lx, ly, hend⟩ := hg
    have hd := I.ok.hd hc
    obtain ⟨fp1, n1, P1, St1, D1⟩ := sc_draws (it := i1) I X.A.in1 hd hx fun b hb e => D.ap b (.inl hb) (by simp [e])
    obtain ⟨fp2, n2, P2, St2, D2⟩ := sc_draws (it := i2) I X.A.in1 hd hy fun b hb e => D.ap b (.inr hb) (by simp [e])
    have S := D.sep D1.mem D2.mem D1.few D2.few
    refine wpAny_pyNext_zipD2_end S D1.dr D2.dr hz hTI hTO (D1.into i h1) (D2.into i h2) (by rw [D1.hn]; exact lx) (by rw [D2.hn]; exact ly) (by rw [D1.hn, D2.hn]; exact hend) fun h' tk hk => ⟨rfl, I.turnedL (t' := tk) (ch := [z, TI, TO, i1, i2]) (fun c o hb q =>
      hk c o (fun q' => hb (by simp [q'])) (fun q' => hb (by simp [q'])) (fun q' => hb (by simp [q'])) (fun q' => hb (by simp [q'])) q) hf⟩
  self := fun A i s Q E st h => wpAny_pyIter_zip st.1 h
end Mi

set_option Elab.async false
set_option linter.all false
set_option maxRecDepth 100000
set_option maxHeartbeats 4000000
/-! Mi17: enumerate; the rules of both -/
namespace Mi
open PySem PySem.Spec L2
def ItE (K : PySem.W.Frag) (c : Sc) : It :=
  ⟨fun i H => ∃ (xs : List V), c.has K H xs ∧ i < xs.length, fun i H v H' => ∃ T x, v = .ref T ∧ H T = none ∧ H' = upd H T (.tup [.int (i : Nat), x]) ∧ ∀ xs, c.has K H xs → xs[i]? = some x, fun i H => ∃ xs : List V, c.has K H xs ∧ i = xs.length⟩
theorem turn_enumM {P : Program} {w : World} {K : PySem.W.Frag} {elts : List Expr} {kk : Nat} {tpos : Pos} {c : Sc} (e it : Addr) (hne : e ≠ it) (hap : ∀ b, c.ad b → b ≠ e ∧ b ≠ it) :
    Turn P w K (.Tuple elts kk tpos) (ItE K c) [e, it] e (fun i h => (∃ old, IsEnum h e it ((i : Nat) : Int) old) ∧ c.tn it i h) where
  mem := by simp
  obj := fun i h st b hb => by
    obtain ⟨⟨old, he⟩, h1⟩ := st
    obtain ⟨o1, v1, e1, d1, _⟩ := tn_obj h1
    have e' : b = e ∨ b = it := by simpa using hb
    rcases e' with z | z
    · rw [z]; exact ⟨_, he, fun v q => nomatch q⟩
    · rw [z]; exact ⟨o1, e1, fun v q => by rw [d1] at q; cases q⟩
  keep := fun i h h' st k => by
    obtain ⟨⟨old, he⟩, h1⟩ := st
    obtain ⟨o1, v1, e1, d1, k1⟩ := tn_obj h1
    exact ⟨⟨old, k e (by simp) _ he⟩, k1 _ (k it (by simp) _ e1)⟩
  item := by
    intro X hP hw hK hc i pins s σ H E I hf st hg
    subst hP hw hK
    obtain ⟨⟨old, he⟩, hit⟩ := st
    obtain ⟨xs, hx, lx⟩ := hg
    have hd := I.ok.hd hc
    obtain ⟨fp1, n1, P1, St1, D1⟩ := sc_draws (it := it) I X.A.in1 hd hx fun b hb => (hap b hb).2
    have hel : e < s.heap.objs.size := Heap.lt_size he
    have hef : e ∉ fp1 := fun m => (D1.few e m).elim hne fun a => (hap e a).1 rfl
    refine wpAny_pyNext_enum_itemC D1.dr he (D1.into i hit) (by rw [D1.hn]; exact lx) hne hef fun u h' tk p1 ho s1 hT hsz hk => ?_
    obtain ⟨x, ex, rx⟩ := D1.hv i u p1
    refine ⟨_, rfl, wpAny_letOwnedTupleGo_enum (s := { s with heap := h', toks := tk + 1 }) ho fun h'' he' sb => ?_⟩
    have hT2 : h''.get? s.heap.objs.size = some { cls := .type "tuple", data := .seq #[.int i tk, u] } := (sb.2 _ (Nat.ne_of_gt hel)).trans hT
    have new : ObjOk X.prog X.w (upd H s.heap.objs.size (.tup [.int (i : Nat), x])) h'' s.heap.objs.size (.tup [.int (i : Nat), x]) :=
      ⟨by show 2 ≤ sizeLine; decide, [.int i tk, u], .cons ⟨_, rfl⟩ (.cons rx .nil), ⟨_, hT2, rfl, _, rfl⟩⟩
    have I1 : Inv X pins σ (upd H s.heap.objs.size (.tup [.int (i : Nat), x])) { s with heap := h'', toks := tk + 1 } :=
      I.turnedNew (ch := [e, it]) (fun b ob hb q => (sb.2 b (fun z => hb (by simp [z]))).trans (hk b ob (fun z => hb (by simp [z])) (fun z => hb (by simp [z])) q)) hf (Nat.le_refl _) new
    obtain ⟨_, _, e1, _, k1⟩ := tn_obj (D1.out _ _ s1)
    refine ⟨.ref s.heap.objs.size, _, I1, rfl, ⟨_, x, rfl, I.hok.fresh (Nat.le_refl _), rfl, fun ys hy => by rw [sc_inj I hy hx]; exact ex⟩, ⟨⟨u, ?_⟩, k1 _ ((sb.2 it (Ne.symm hne)).trans e1)⟩, fun b hb => ?_⟩
    · have e1 : ((i + 1 : Nat) : Int) = (i : Int) + 1 := by omega
      rw [e1]; exact he'
    · have hb' : b < s.heap.objs.size := by
        obtain ⟨_, _, e2, _, _⟩ := tn_obj hit
        have e' : b = e ∨ b = it := by simpa using hb
        rcases e' with z | z
        · rw [z]; exact hel
        · rw [z]; exact Heap.lt_size e2
      rw [upd_ne (Nat.ne_of_lt hb')]
      exact (hf b hb).1
  done := by
    intro X hP hw hK hc i pins s σ H E I hf st hg
    subst hP hw hK
    obtain ⟨⟨old, he⟩, hit⟩ := st
    obtain ⟨xs, hx, lx⟩ := hg
    have hd := I.ok.hd hc
    obtain ⟨fp1, n1, P1, St1, D1⟩ := sc_draws (it := it) I X.A.in1 hd hx fun b hb => (hap b hb).2
    have en : i = n1 := by rw [D1.hn]; exact lx
    subst en
    exact wpAny_pyNext_enum_endD D1.dr he (D1.into i hit) fun h' hk => ⟨rfl, I.turnedL (t' := s.toks) (ch := [e, it]) (fun c o hb q => hk c o (fun q1 => hb (by simp [q1])) q) hf⟩
  self := fun A i s Q E st h => let ⟨⟨_, he⟩, _⟩ := st; wpAny_pyIter_enum he h
theorem meets_enum1 {v : Value} {o : Obj} {H : Heap → Prop} (B : Begins v o H) :
    Meets (Builtin.«enumerate.__new__» ⟨[.type "enumerate", v], []⟩) (fun _ R s => H s.heap ∧
      R (.ok (.ret (.ref (s.heap.push o).objs.size))) { s with heap := (s.heap.push o).push { cls := .type "enumerate", data := .fields #[.none, .bool false, .ref s.heap.objs.size, rawInt 0, .none, .none] } }) :=
  .of_wp fun prog w A R s h => by
    obtain ⟨hp, g, d, tk, os⟩ := s; obtain ⟨h1, h⟩ := h
    have hsub := sub_enumerate
    have q1 : ∀ {A' : Around} {E : Value → Shared → Prop} {Q : Value → Shared → Prop}, Q (.ref hp.objs.size) ⟨hp.push o, g, d, tk, os⟩ → wpAny (model prog w) A' (pyIter v) Q E ⟨hp, g, d, tk, os⟩ :=
      fun q => B.iter prog w _ _ ⟨hp, g, d, tk, os⟩ _ h1 q
    wp_walk using q1
    refine wpAny_stack_any fun st => wpAny_pure ?_
    split
    · rename_i c _ _ _ _ _
      cases (c == Value.type "enumerate")
      · wp_walk using q1
        exact ⟨_, rfl, h⟩
      · wp_walk using q1
        exact ⟨_, rfl, h⟩
    · wp_walk using q1
      exact ⟨_, rfl, h⟩
theorem enum1_begins {prog : Program} {w : World} {A : Around} {E : Value → Shared → Prop} {s : Shared} {v : Value} {o : Obj} {H : Heap → Prop} {Q : Value → Shared → Prop} (B : Begins v o H) (h1 : H s.heap)
    (h : ∀ h', IsEnum h' (s.heap.objs.size + 1) s.heap.objs.size 0 .none → h'.get? s.heap.objs.size = some o → (∀ b o, s.heap.get? b = some o → h'.get? b = some o) → Q (.ref (s.heap.objs.size + 1)) { s with heap := h' }) :
    wpAny (model prog w) A (call (.type "enumerate") [v]) Q E s := by
  refine callType_new F.called_enumerate (by decide) (F.typeCall_enumerate_1 _) (F.newCall_enumerate_1 _) (fun obj => F.args_object_init_2 obj _) F.entry_enumerate_new (meets_enum1 B) ⟨h1, ?_⟩
  have hz : (s.heap.push o).objs.size = s.heap.objs.size + 1 := Heap.size_push ..
  show _ ∧ _
  rw [hz]
  have he : IsEnum ((s.heap.push o).push { cls := .type "enumerate", data := .fields #[.none, .bool false, .ref s.heap.objs.size, rawInt 0, .none, .none] }) (s.heap.objs.size + 1) s.heap.objs.size 0 .none := by
    have := Heap.get?_push_size (s.heap.push o) (o := { cls := .type "enumerate", data := .fields #[.none, .bool false, .ref s.heap.objs.size, rawInt 0, .none, .none] }) rfl
    rw [hz] at this; exact this
  exact ⟨⟨_, he, rfl⟩, h _ he (Heap.get?_push_of_some _ (Heap.get?_push_size _ B.free)) fun b o x => Heap.get?_push_of_some _ (Heap.get?_push_of_some _ x)⟩
def Sc.is (x : V) : Sc → Prop
  | .lst a => x = .ref a
  | .tup a => x = .ref a
  | .txt z _ => x = .str z
theorem sc_is {x : V} {u : Value} {c : Sc} (h : c.is x) (r : RelV x u) : ∃ c' : Sc, c'.val = u ∧ (∀ K H xs, c'.has K H xs = c.has K H xs) := by
  cases c with
  | lst a => rw [show x = _ from h] at r; cases r; exact ⟨.lst a, rfl, fun _ _ _ => rfl⟩
  | tup a => rw [show x = _ from h] at r; cases r; exact ⟨.tup a, rfl, fun _ _ _ => rfl⟩
  | txt z t => rw [show x = _ from h] at r; obtain ⟨t', rfl⟩ := r; exact ⟨.txt z t', rfl, fun _ _ _ => rfl⟩
theorem ItE_has {K : PySem.W.Frag} {c c' : Sc} (h : ∀ K H xs, c'.has K H xs = c.has K H xs) : ItE K c' = ItE K c := by unfold ItE; simp only [h]
theorem ItZ_has {K : PySem.W.Frag} {c c' d d' : Sc} (h : ∀ K H xs, c'.has K H xs = c.has K H xs) (h2 : ∀ K H xs, d'.has K H xs = d.has K H xs) : ItZ K c' d' = ItZ K c d := by unfold ItZ; simp only [h, h2]
def iEnumM (K : PySem.W.Frag) (ta : TA) : TI := fun σ H R => ta σ H fun vs H1 => ∃ x c xs, vs = [x] ∧ c.is x ∧ Sc.has K H1 xs c ∧ R (ItE K c) H1
def iZipM (K : PySem.W.Frag) (ta : TA) : TI := fun σ H R => ta σ H fun vs H1 => ∃ x y c d xs ys, vs = [x, y] ∧ Sc.is x c ∧ Sc.is y d ∧ Sc.has K H1 xs c ∧ Sc.has K H1 ys d ∧ R (ItZ K c d) H1
section
variable {X : Cx} {W : WX} {e e2 : Expr} {ta : TA} {p pos tpos : Pos} {elts : List Expr} {kk : Nat}
theorem pi_enumM (hg : Gl X "enumerate") (hm : X.mg "enumerate" = none) (ha : PA X [e] ta) (hs : starEach [e] X.env = [(false, eval e X.env)]) : PI X (.Tuple elts kk tpos) (.Call (.Name "enumerate" p) [e] [] pos) (iEnumM X.K ta) := by
  refine ⟨fun pins s σ H R I h => ?_⟩
  refine PyProof.Rows.Call_ (ld_blt I hg hm PyProof.Rows.boot_enumerate (PyProof.Rows.callWith_type1 (thn (ha.run pos pins s σ H _ I h) fun us s1 ⟨vs, H1, I1, r1, q1⟩ => ?_) hs rfl))
  obtain ⟨x, c, xs, ex, hi, hx, q⟩ := q1
  subst ex
  obtain ⟨u, rfl, rx⟩ := Vals.one r1
  obtain ⟨c', rfl, hh⟩ := sc_is hi rx
  rw [← ItE_has hh] at q
  rw [← hh] at hx
  obtain ⟨Hb, B, hb, ht⟩ := sc_begins I1 hx
  refine enum1_begins B hb fun h' he hit hk => wpAny_pyIter_enum he ?_
  have I2 : Inv X pins σ H1 { s1 with heap := h' } := I1.kept (t' := s1.toks) hk
  refine ⟨s1.heap.objs.size + 1, [s1.heap.objs.size + 1, s1.heap.objs.size], _, _, H1, rfl, I2, turn_enumM (c := c') (s1.heap.objs.size + 1) s1.heap.objs.size (Nat.succ_ne_self _) (fun b hb => ?_), ⟨⟨.none, he⟩, ht _ _ hit⟩, fun b hb => ?_, q⟩
  · have := sc_old I1 hx hb
    exact ⟨fun e => absurd this (by rw [e]; exact Nat.not_lt.mpr (Nat.le_add_right _ _)), fun e => absurd this (by rw [e]; exact Nat.lt_irrefl _)⟩
  · have e' : b = s1.heap.objs.size + 1 ∨ b = s1.heap.objs.size := by simpa using hb
    have hle : s1.heap.objs.size ≤ b := by
      rcases e' with z | z
      · rw [z]; exact Nat.le_add_right _ _
      · rw [z]; exact Nat.le_refl _
    exact I1.fpOk hle (I1.hok.fresh hle)
theorem pi_zipM (hg : Gl X "zip") (hm : X.mg "zip" = none) (ha : PA X [e, e2] ta) (hs : starEach [e, e2] X.env = (false, eval e X.env) :: starEach [e2] X.env) (hpl : (backTo pos (starEach [e2] X.env)).any (·.1) = false) :
    PI X (.Tuple elts kk tpos) (.Call (.Name "zip" p) [e, e2] [] pos) (iZipM X.K ta) := by
  refine ⟨fun pins s σ H R I h => ?_⟩
  refine PyProof.Rows.Call_ (ld_blt I hg hm PyProof.Rows.boot_zip (PyProof.Rows.callWith_type1 (thn (ha.run pos pins s σ H _ I h) fun us s1 ⟨vs, H1, I1, r1, q1⟩ => ?_) hs hpl))
  obtain ⟨x, y, c, d, xs, ys, ex, hi, hj, hx, hy, q⟩ := q1
  subst ex
  obtain ⟨u1, u2, rfl, rx, ry⟩ := vals2 r1
  obtain ⟨c', rfl, hh⟩ := sc_is hi rx
  obtain ⟨d', rfl, hh2⟩ := sc_is hj ry
  rw [← ItZ_has hh hh2] at q
  rw [← hh] at hx
  rw [← hh2] at hy
  obtain ⟨Hb, B, hb, ht⟩ := sc_begins I1 hx
  obtain ⟨Hb2, B2, hb2, ht2⟩ := sc_begins I1 hy
  refine zip_begins2 B B2 hb hb2 fun h' hz hTI hTO h1 h2 hsz hk => wpAny_pyIter_zip hz ?_
  have I2 : Inv X pins σ H1 { s1 with heap := h' } := I1.kept (t' := s1.toks) hk
  have ap : ZAp (s1.heap.objs.size + 4) (s1.heap.objs.size + 2) (s1.heap.objs.size + 3) s1.heap.objs.size (s1.heap.objs.size + 1) c' d' := by
    refine ⟨?_, fun b hb hm => ?_⟩
    · simp only [List.nodup_cons, List.mem_cons, List.mem_nil_iff, or_false, not_or]
      refine ⟨⟨?_, ?_, ?_, ?_⟩, ⟨?_, ?_, ?_⟩, ⟨?_, ?_⟩, ?_, ?_⟩ <;> first | omega | simp
    · have hl : b < s1.heap.objs.size := hb.elim (sc_old I1 hx) (sc_old I1 hy)
      simp only [List.mem_cons, List.mem_nil_iff, or_false] at hm
      have hle : s1.heap.objs.size ≤ b := by
        rcases hm with q | q | q | q | q <;> rw [q] <;> first | exact Nat.le_add_right _ _ | exact Nat.le_refl _
      exact absurd hl (Nat.not_lt.mpr hle)
  refine ⟨s1.heap.objs.size + 4, [s1.heap.objs.size + 4, s1.heap.objs.size + 2, s1.heap.objs.size + 3, s1.heap.objs.size, s1.heap.objs.size + 1], _, _, H1, rfl, I2, turn_zipM ap, ⟨hz, hTI, ⟨_, _, hTO⟩, ht _ _ h1, ht2 _ _ h2⟩, fun c hcm => ?_, q⟩
  have hle : s1.heap.objs.size ≤ c := by
    simp only [List.mem_cons, List.mem_nil_iff, or_false] at hcm
    rcases hcm with q | q | q | q | q <;> rw [q] <;> first | exact Nat.le_add_right _ _ | exact Nat.le_refl _
  exact I1.fpOk hle (I1.hok.fresh hle)
end
/-! ### their mirrors -/
def enumD (l : List D) : List D := l.zipIdx.map fun p => .tup [.int (p.2 : Nat), p.1]
def zipD (a b : List D) : List D := (a.zip b).map fun p => .tup [p.1, p.2]
def xEnum (ma : En → Rs (List D)) : En → Rs (List D) := fun env => (ma env).bind fun ds e => match ds with
  | [d] => .of ((iterD d).map enumD) e
  | _ => .bad
def xZip (ma : En → Rs (List D)) : En → Rs (List D) := fun env => (ma env).bind fun ds e => match ds with
  | [c, d] => .of ((iterD c).bind fun a => (iterD d).map fun b => zipD a b) e
  | _ => .bad
section
variable {K : PySem.W.Frag} {U : Addr → Prop} {H : Hp}
theorem reps_chars : ∀ l : List Nat, Reps K U H (l.map fun c => D.str ⟨#[c]⟩) (l.map fun c => V.str ⟨#[c]⟩)
  | [] => rfl
  | c :: l => ⟨_, _, rfl, rfl, reps_chars l⟩
theorem src_of {d : D} {x : V} {l : List D} (r : Rep K U H d x) (h : iterD d = some l) : ∃ c xs, Sc.is x c ∧ Sc.has K H xs c ∧ Reps K U H l xs ∧ ∀ H', (∀ a o, ¬ U a → H a = some o → H' a = some o) → Sc.has K H' xs c := by
  cases d with
  | lst ds =>
    cases h
    obtain ⟨a, vs, rfl, h, n, rs⟩ := r.lst_sq
    exact ⟨.lst a, vs, rfl, .of h, rs, fun H' k => .of (k a _ n h)⟩
  | tup ds =>
    cases h
    obtain ⟨a, vs, rfl, h, n, rs⟩ := r.tup_sq
    exact ⟨.tup a, vs, rfl, .of h, rs, fun H' k => .of (k a _ n h)⟩
  | str z =>
    cases h
    exact ⟨.txt z 0, _, r, rfl, reps_chars _, fun H' k => rfl⟩
  | _ => simp [iterD] at h
theorem itok_enum {c : Sc} {l : List D} {xs : List V} (h : Sc.has K H xs c) (rs : Reps K U H l xs) (k : ∀ H', (∀ a o, ¬ U a → H a = some o → H' a = some o) → Sc.has K H' xs c) : ItOk K U H (enumD l) (ItE K c) where
  stop := fun i H2 hi kp e => ⟨xs, k H2 kp, by rw [e, rs.len]; simp [enumD]⟩
  go := fun i H2 hi kp => ⟨xs, k H2 kp, by rw [rs.len]; simpa [enumD] using hi⟩
  yld := fun i d H2 H3 x U' hd kp ku al ⟨T, y, e1, e2, e3, e4⟩ => by
    subst e1 e3
    have hd : ∃ b, l[i]? = some b ∧ d = .tup [.int (i : Nat), b] := by
      simp only [enumD, List.getElem?_map, List.getElem?_zipIdx, Option.map_map, Option.map_eq_some_iff] at hd
      obtain ⟨b, hb, rfl⟩ := hd
      exact ⟨b, hb, by simp⟩
    obtain ⟨b, hb, rfl⟩ := hd
    have ry := Rep.to kp ku b y (rs.at2 hb (e4 xs (k H2 kp)))
    exact ⟨same_new e2, rep_tup_new al e2 ⟨_, _, rfl, rfl, _, _, rfl, ry, rfl⟩⟩
theorem itok_zip {c c2 : Sc} {l l2 : List D} {xs ys : List V} (h : Sc.has K H xs c) (rs : Reps K U H l xs) (k : ∀ H', (∀ a o, ¬ U a → H a = some o → H' a = some o) → Sc.has K H' xs c)
    (h2 : Sc.has K H ys c2) (rs2 : Reps K U H l2 ys) (k2 : ∀ H', (∀ a o, ¬ U a → H a = some o → H' a = some o) → Sc.has K H' ys c2) : ItOk K U H (zipD l l2) (ItZ K c c2) where
  stop := fun i H2 hi kp e => ⟨xs, ys, k H2 kp, k2 H2 kp, by
    have l1 := rs.len
    have l2 := rs2.len
    simp only [zipD, List.length_map, List.length_zip] at hi e
    omega⟩
  go := fun i H2 hi kp => ⟨xs, ys, k H2 kp, k2 H2 kp, by
    have l1 := rs.len
    have l2 := rs2.len
    simp only [zipD, List.length_map, List.length_zip] at hi
    omega⟩
  yld := fun i d H2 H3 x U' hd kp ku al ⟨T, y, z, e1, e2, e3, e4, e5⟩ => by
    subst e1 e3
    have hd : ∃ a b, l[i]? = some a ∧ l2[i]? = some b ∧ d = .tup [a, b] := by
      simp only [zipD, List.getElem?_map, Option.map_eq_some_iff] at hd
      obtain ⟨⟨a, b⟩, hp, rfl⟩ := hd
      rw [List.getElem?_zip_eq_some] at hp
      exact ⟨a, b, hp.1, hp.2, rfl⟩
    obtain ⟨a, b, ha, hb, rfl⟩ := hd
    have ry := Rep.to kp ku a y (rs.at2 ha (e4 xs (k H2 kp)))
    have rz := Rep.to kp ku b z (rs2.at2 hb (e5 ys (k2 H2 kp)))
    exact ⟨same_new e2, rep_tup_new al e2 ⟨_, _, rfl, ry, _, _, rfl, rz, rfl⟩⟩
end
section
variable {X : Cx} {W : WX} {e e2 : Expr} {ma : En → Rs (List D)} {p pos tpos : Pos} {elts : List Expr} {kk : Nat}
theorem ei_enum (hg : Gl X "enumerate") (hm : X.mg "enumerate" = none) (ha : EvN X W [e] 1 ma) (hs : starEach [e] X.env = [(false, eval e X.env)] := by rfl) : EvI X W (.Tuple elts kk tpos) (.Call (.Name "enumerate" p) [e] [] pos) (xEnum ma) :=
  PI_imp (pi_enumM hg hm ha.pa hs) fun σ H Q ⟨U, env, sa, po⟩ => ⟨U, env, sa, Po.step po fun vs H1 ds e1 a r po1 => by
    have r : Reps X.K (Ux U e1 σ) H1 ds vs := r
    match ds, r, po1 with
    | [d], r, po1 =>
      obtain ⟨x, rfl, rx⟩ := r.one
      cases hi : iterD d with
      | none => simp only [hi] at po1; exact po1.elim
      | some l =>
        simp only [hi] at po1
        obtain ⟨c, xs, h1, h2, h3, h4⟩ := src_of rx hi
        exact ⟨x, c, xs, rfl, h1, h2, po1 _ H1 (.refl a.sa) (itok_enum h2 h3 h4)⟩
    | [], _, po1 => exact po1.elim
    | _ :: _ :: _, _, po1 => exact po1.elim⟩
theorem ei_zip (hg : Gl X "zip") (hm : X.mg "zip" = none) (ha : EvN X W [e, e2] 2 ma) (hs : starEach [e, e2] X.env = (false, eval e X.env) :: starEach [e2] X.env := by rfl) (hpl : (backTo pos (starEach [e2] X.env)).any (·.1) = false := by rfl) :
    EvI X W (.Tuple elts kk tpos) (.Call (.Name "zip" p) [e, e2] [] pos) (xZip ma) :=
  PI_imp (pi_zipM hg hm ha.pa hs hpl) fun σ H Q ⟨U, env, sa, po⟩ => ⟨U, env, sa, Po.step po fun vs H1 ds e1 a r po1 => by
    have r : Reps X.K (Ux U e1 σ) H1 ds vs := r
    match ds, r, po1 with
    | [d, d2], r, po1 =>
      obtain ⟨x, y, rfl, rx, ry⟩ := r.two
      cases hi : iterD d with
      | none => simp only [hi] at po1; exact po1.elim
      | some l =>
        cases hj : iterD d2 with
        | none => simp only [hi, hj] at po1; exact po1.elim
        | some l2 =>
          simp only [hi, hj] at po1
          obtain ⟨c, xs, h1, h2, h3, h4⟩ := src_of rx hi
          obtain ⟨c2, ys, g1, g2, g3, g4⟩ := src_of ry hj
          exact ⟨x, y, c, c2, xs, ys, rfl, h1, g1, h2, g2, po1 _ H1 (.refl a.sa) (itok_zip h2 h3 h4 g2 g3 g4)⟩
    | [], _, po1 => exact po1.elim
    | [_], _, po1 => exact po1.elim
    | _ :: _ :: _ :: _, _, po1 => exact po1.elim⟩
end
end Mi

set_option Elab.async false
set_option linter.all false
set_option maxRecDepth 100000
set_option maxHeartbeats 4000000
/-! Mi18: repr; calls by keywords; defs that return what they made -/
namespace Mi
open PySem PySem.Spec L2
/-! ### repr -/
mutual
theorem py_noDict : ∀ (d : D) (p : PyData), d.py = some p → p.hasDict = false
  | .non, p, h => by cases h; rfl
  | .bl _, p, h => by cases h; rfl
  | .int _, p, h => by cases h; rfl
  | .str _, p, h => by cases h; rfl
  | .tup xs, p, h => by
    simp only [D.py, Option.map_eq_some_iff] at h
    obtain ⟨ps, h, rfl⟩ := h
    exact pys_noDict xs ps h
  | .lst xs, p, h => by
    simp only [D.py, Option.map_eq_some_iff] at h
    obtain ⟨ps, h, rfl⟩ := h
    exact pys_noDict xs ps h
  | .dct _ _ _, p, h => by simp [D.py] at h
  | .obj _ _ _, p, h => by simp [D.py] at h
  | .fz _, p, h => by simp [D.py] at h
theorem pys_noDict : ∀ (ds : List D) (ps : List PyData), D.py.pys ds = some ps → PyData.hasDictAll ps = false
  | [], ps, h => by simp [D.py.pys] at h; subst h; rfl
  | d :: ds, ps, h => by
    simp only [D.py.pys, Option.bind_eq_some_iff, Option.map_eq_some_iff] at h
    obtain ⟨p, h1, qs, h2, rfl⟩ := h
    show (p.hasDict || PyData.hasDictAll qs) = false
    rw [py_noDict d p h1, pys_noDict ds qs h2]; rfl
end
def canRepr (p : PyData) : Bool := p.showable && (p.leavesShort 2000 && (decide (p.weight ≤ 8000) && decide (p.depth ≤ 60)))
def gRepr : List D → Option D
  | [d] => d.py.bind fun p => if canRepr p = true then some (.str p.shown) else none
  | _ => none
def rReprM (K : PySem.W.Frag) : List V → Hp → VK → Prop := fun xs H Q => ∃ v p, xs = [v] ∧ Dp K H v p ∧ p.hasDict = false ∧ canRepr p = true ∧ Q (.str p.shown) H
theorem cr_repr {X : Cx} {k : Nat} (c : Co X k) : CallR X (.builtin "repr") (rReprM X.K) := by
  intro pins s σ H xs us Q I r h
  obtain ⟨v, p, rfl, hd, nd, cr, q⟩ := h
  obtain ⟨u, rfl, ru⟩ := Vals.one r
  unfold canRepr at cr
  simp only [Bool.and_eq_true, decide_eq_true_eq] at cr
  obtain ⟨c1, c2, c3, c4⟩ := cr
  have hsz : p.shown.length ≤ sizeLine := by
    have := PyData.shown_le 2000 (by decide) p c2
    rw [sizeLine_eq]
    have : (2000 + 2) * p.weight ≤ 2002 * 8000 := Nat.mul_le_mul (Nat.le_refl _) c3
    omega
  obtain ⟨as, rd⟩ := Dp.reads I p v u hd ru
  have hun : X.A.units + 200 < cLine := by have := c.hr.un; omega
  cases hd with
  | lst sq _ =>
    cases ru
    exact PySem.repr_of_reads' rd c1 (PyData.noDict_hsm nd) c.hg (by omega) (fun _ _ e => e) (fun h' u tk hk => ⟨.str _, H, I.kept (t' := tk) hk, ⟨_, rfl⟩, q⟩) hsz
  | tup sq _ =>
    cases ru
    exact PySem.repr_of_reads' rd c1 (PyData.noDict_hsm nd) c.hg (by omega) (fun _ _ e => e) (fun h' u tk hk => ⟨.str _, H, I.kept (t' := tk) hk, ⟨_, rfl⟩, q⟩) hsz
  | non => cases ru; exact PySem.P.repr_of_none ⟨.str _, H, I.tok _, ⟨_, rfl⟩, q⟩
  | bl b => cases ru; exact PySem.P.repr_of_bool ⟨.str _, H, I.tok _, ⟨_, rfl⟩, q⟩
  | int i =>
    obtain ⟨t, rfl⟩ := ru
    exact PySem.P.repr_of_int (by simpa [PyData.showable] using c1) ⟨.str _, H, I.tok _, ⟨_, rfl⟩, q⟩
  | str x =>
    obtain ⟨t, rfl⟩ := ru
    exact PySem.P.repr_of_str ⟨.str _, H, I.tok _, ⟨_, rfl⟩, q⟩ hsz
theorem n_repr {K : PySem.W.Frag} : SndN K gRepr (rReprM K) := by
  intro U H xs ds z Q al r hz q
  match ds, hz, r with
  | [], hz, _ => cases hz
  | _ :: _ :: _, hz, _ => simp [gRepr] at hz
  | [d], hz, r =>
    obtain ⟨x, rfl, rx⟩ := r.one
    obtain ⟨p, hp, hz⟩ := Option.bind_eq_some_iff.mp (show d.py.bind _ = _ from hz)
    rw [Option.ite_none_right_eq_some] at hz
    obtain ⟨hc, e⟩ := hz
    cases e
    exact ⟨x, p, rfl, Rep.dp d p x rx hp, py_noDict d p hp, hc, q _ H (Same.refl H) rfl⟩
/-! ### f(k = e, ..): keywords alone -/
def pick {α : Type} (pm : List Nat) (xs : List α) : List α := pm.filterMap fun j => xs[j]?
def KB (K : PySem.W.Frag) (fd : FuncData) (ps ks : List Str) (pm : List Nat) : Prop := ∀ (s : Shared) (us : List Value), us.length = ks.length → BindsTo s fd ⟨[], ks.zip us⟩ (ps.zip (pick pm us))
/-- keywords' values -/
structure EvK (X : Cx) (W : WX) (kws : List Keyword) (n : Nat) (m : En → Rs (List Ar)) : Prop where
  pk : PK X kws (tR X.K W m)
  len : ∀ env ds e, m env = .ok ds e → ds.length = n
theorem PK_imp {X : Cx} {e : List Keyword} {t t' : TA} (h : PK X e t) (k : ∀ σ H Q, t' σ H Q → t σ H Q) : PK X e t' := ⟨fun pos pins s σ H Q I q => h.run pos pins s σ H Q I (k σ H Q q)⟩
section
variable {X : Cx} {W : WX} {e : Expr} {kws : List Keyword} {m : En → Rs D} {mq : En → Rs (List Ar)} {n : Nat} {nm : Option Str} {kpos : Pos}
theorem ek_nil : EvK X W [] 0 qNil := ⟨PK_imp pk_nil fun σ H Q ⟨U, env, sa, po⟩ => po [] H (.refl sa) rfl, fun env ds e h => by cases h; rfl⟩
theorem ek_val (h1 : Ev X W e m) (h2 : EvK X W kws n mq) : EvK X W (⟨nm, e, kpos⟩ :: kws) (n + 1) (qVal m mq) := by
  refine ⟨PK_imp (pk_cons h1 h2.pk) fun σ H Q ⟨U, env, sa, po⟩ => ⟨U, env, sa, Po.step po fun v H1 d e1 a r po1 => ⟨U, e1, a.sa, Po.step po1 fun vs H2 ds e2 a2 r2 po2 => ?_⟩⟩, fun env ds e h => ?_⟩
  · exact po2 _ _ (.refl a2.sa) ⟨v, vs, rfl, a2.rep a.sa r, r2⟩
  · obtain ⟨d, e1, _, h⟩ := Rs.bind_eq_ok h
    obtain ⟨ds', e2, h3, h⟩ := Rs.bind_eq_ok h
    cases h
    rw [List.length_cons, h2.len _ _ _ h3]
end
def qPick (pm : List Nat) (mq : En → Rs (List Ar)) : En → Rs (List Ar) := fun env => (mq env).bind fun as e => .ok (pick pm as) e
section
variable {K : PySem.W.Frag} {U : Addr → Prop} {σ : St} {H : Hp}
theorem RAr.pick {as : List Ar} {vs : List V} (h : RAr K U σ H as vs) : ∀ pm : List Nat, RAr K U σ H (Mi.pick pm as) (Mi.pick pm vs)
  | [] => rfl
  | j :: pm => by
    have ih := RAr.pick h pm
    unfold Mi.pick at ih ⊢
    rw [List.filterMap_cons, List.filterMap_cons]
    cases ha : as[j]? with
    | none =>
      have : vs[j]? = none := by
        rw [List.getElem?_eq_none_iff] at ha ⊢
        rw [h.len]
        exact ha
      rw [this]
      exact ih
    | some a =>
      obtain ⟨v, hv, q⟩ := h.at j a ha
      rw [hv]
      cases a with
      | inl d => exact ⟨v, _, rfl, q, ih⟩
      | inr i => exact ⟨v, _, rfl, q, ih⟩
theorem vals_pick {vs : List V} {us : List Value} (r : Vals vs us) : ∀ pm : List Nat, Vals (Mi.pick pm vs) (Mi.pick pm us)
  | [] => .nil
  | j :: pm => by
    have ih := vals_pick r pm
    unfold Mi.pick at ih ⊢
    rw [List.filterMap_cons, List.filterMap_cons]
    cases ha : vs[j]? with
    | none =>
      have : us[j]? = none := by
        rw [List.getElem?_eq_none_iff] at ha ⊢
        rw [← r.length]
        exact ha
      rw [this]
      exact ih
    | some v =>
      obtain ⟨u, hu, ru⟩ := r.get ha
      rw [hu]
      exact .cons ru ih
end
section
variable {X : Cx} {W : WX} {k n : Nat} {f : Addr} {fd : FuncData} {ps ks : List Str} {pm : List Nat} {sp : Sp} {x : Str} {p pos : Pos} {kws : List Keyword} {m : En → Rs D} {mq : En → Rs (List Ar)} {tk : TA}
theorem pe_cgK (F : FnG X.prog X.w X.K X.mg X.base k f fd ps sp) (c : Co X k) (tkW : Takes X W) (hm : X.mg x = some (.ref f)) (hk : PySem.W.keepIn X.K (.ref f) = true) (hb : KB X.K fd ps ks pm) (hkw : PK X kws tk) (hg : Gl X x) (hdb : (x == ("__debug__" : Str)) = false)
    (hall : (backToKw pos (keywordEach kws X.env)).all (·.1.isSome) = true) (hks : (backToKw pos (keywordEach kws X.env)).filterMap (·.1) = ks)
    (hpl : ((backTo pos (starEach [] X.env)).any (·.1) || (backToKw pos (keywordEach kws X.env)).any (·.1.isNone)) = false) :
    PE X (.Call (.Name x p) [] kws pos) (fun σ H Q => tk σ H fun zs H1 => zs.length = ks.length ∧ sp (pick pm zs) H1 Q fun cls d H' => W cls d σ H') := by
  refine ⟨fun pins s σ H Q I h => ?_⟩
  refine wpAny_Call_Name_kw (ld_glob I hg hm ?_ hdb)
  refine PySem.W.callWith_KW0 (h₀ := X.base) I.ok.mod.kin hk hall (thn (hkw.run pos pins s σ H _ I h) fun ws s1 ⟨zs, H1, I1, r, hl, q⟩ => ⟨I1.kIn, ?_⟩) hpl
  rw [hks]
  have r2 := vals_pick r pm
  refine wpAny_call (codeAny_mono (F.run X.A X.stack s1 H1 ⟨[], ks.zip ws⟩ _ _ Q _ c.hr c.hg I1.env0 (hb s1 ws (r.length.symm.trans hl)) r2 q) fun r s' hq => ?_)
  cases r with
  | error e => exact tkW e s' (XE.of_call I1 (fun _ _ _ z => z) hq)
  | ok fl =>
    cases fl with
    | ret u => exact I1.after hq
    | next => exact False.elim hq
    | brk => exact False.elim hq
    | cont => exact False.elim hq
theorem ev_callK (F : FnG X.prog X.w X.K X.mg X.base k f fd ps (spM X.K n m)) (c : Co X k) (tkW : Takes X W) (hm : X.mg x = some (.ref f)) (hk : PySem.W.keepIn X.K (.ref f) = true) (hb : KB X.K fd ps ks pm) (hkw : EvK X W kws ks.length mq)
    (hp : ∀ as : List Ar, as.length = ks.length → (pick pm as).length = n)
    (hg : Gl X x := by rfl) (hdb : (x == ("__debug__" : Str)) = false := by decide) (hall : (backToKw pos (keywordEach kws X.env)).all (·.1.isSome) = true := by rfl) (hks : (backToKw pos (keywordEach kws X.env)).filterMap (·.1) = ks := by rfl)
    (hpl : ((backTo pos (starEach [] X.env)).any (·.1) || (backToKw pos (keywordEach kws X.env)).any (·.1.isNone)) = false := by rfl) : Ev X W (.Call (.Name x p) [] kws pos) (xCall m (qPick pm mq)) := by
  refine PE_imp (pe_cgK F c tkW hm hk hb hkw.pk hg hdb hall hks hpl) fun σ H Q ⟨U, env, sa, po⟩ => ?_
  obtain ⟨U', env', sa', q⟩ := spM_call sa po (n := n) fun as e1 h => by
    obtain ⟨as', e', h1, h2⟩ := Rs.bind_eq_ok h
    cases h2
    exact hp _ (hkw.len _ _ _ h1)
  refine ⟨U', env', sa', ?_⟩
  unfold qPick at q
  cases hq : mq env' with
  | bad => rw [hq] at q; exact q
  | er x e => rw [hq] at q; exact q
  | ok as e =>
    rw [hq] at q
    intro vs H' st ra
    have ra : RAr X.K (Ux U' e σ) σ H' as vs := ra
    exact ⟨ra.len.trans (hkw.len _ _ _ hq), q _ H' st (ra.pick pm)⟩
end
end Mi

set_option Elab.async false
set_option linter.all false
set_option maxRecDepth 100000
set_option maxHeartbeats 4000000
/-! Mi19: defs that return what they made; facts of defs -/
namespace Mi
open PySem PySem.Spec L2
section
variable {K : PySem.W.Frag} {U : Addr → Prop} {env env1 : En} {σ : St} {H H1 : Hp}
/-- a name gives its object away -/
theorem Fre.take {i : Nat} {o : Ob} {p : Addr} (sa : SA K U env σ H) (h : env[i]? = some (.ow o)) (hp : σ[i]? = some (some (V.ref p))) : Fre K U env σ H (env.set i .un) H o p := by
  have hi : i < env.length := (List.getElem?_eq_some_iff.mp h).1
  have old : ∀ {j : Nat} {s : Sl} , (env.set i Sl.un)[j]? = some s → s ≠ .un → env[j]? = some s ∧ j ≠ i := fun {j s} h1 h2 => by
    by_cases e : i = j
    · subst e
      rw [List.getElem?_set_self hi] at h1
      cases h1
      exact absurd rfl h2
    · rw [List.getElem?_set_ne e] at h1
      exact ⟨h1, fun z => e z.symm⟩
  have nun : ∀ {s : Sl} {q : Ob}, s.ob = some q → s ≠ .un := fun {s q} h e => by subst e; cases h
  have cp : Chg env σ p := ⟨i, _, o, h, rfl, hp⟩
  have ch : ∀ x, Chg (env.set i .un) σ x → Chg env σ x ∧ x ≠ p := fun x ⟨j, s, q, h1, h2, h3⟩ => by
    obtain ⟨h4, n⟩ := old h1 (nun h2)
    exact ⟨⟨j, s, q, h4, h2, h3⟩, fun e => n (sa.inj j i s _ q o p h4 h2 h rfl (by rw [← e]; exact h3) hp)⟩
  have sub : ∀ x, Ux (Up U p) (env.set i .un) σ x → Ux U env σ x := fun x q => by
    rcases ux_up.mp q with (q | q) | q
    · exact .inl q
    · exact .inr (ch x q).1
    · rw [q]; exact .inr cp
  refine ⟨.inl cp, sa.nu p cp, ⟨by rw [List.length_set]; exact sa.len, fun a q => ?_, fun a c q => ?_, fun j k s t q r x h1 h2 h3 h4 h5 h6 => ?_, fun j d h1 => ?_, fun j s q h1 h2 => ?_⟩, .refl, fun a c => .inl (ch a c).1, fun j q h1 => ?_, ?_⟩
  · rcases q with q | q
    · exact sa.al a q
    · rw [q]; exact sa.alx (.inr cp)
  · exact q.elim (sa.nu a (ch a c).1) (ch a c).2
  · exact sa.inj j k s t q r x (old h1 (nun h2)).1 h2 (old h3 (nun h4)).1 h4 h5 h6
  · obtain ⟨v, e, r⟩ := sa.val j d (old h1 fun z => nomatch z).1
    exact ⟨v, e, Rep.to (fun _ _ _ q => q) (fun x o n _ q => n (sub x q)) d v r⟩
  · obtain ⟨b, e, r⟩ := sa.ob j s q (old h1 (nun h2)).1 h2
    exact ⟨b, e, RepO.to (fun _ _ _ q => q) (fun x o n _ q => n (sub x q)) (fun _ q => q) r⟩
  · have n : i ≠ j := fun e => by subst e; rw [h] at h1; cases h1
    exact ⟨q, by rw [List.getElem?_set_ne n]; exact h1⟩
  · obtain ⟨b, e, r⟩ := sa.ob i _ o h rfl
    rw [hp] at e
    cases e
    exact RepO.to (fun _ _ _ q => q) (fun x o n _ q => n (sub x q)) (fun _ q => q) r
end
def fOwn (i : Nat) : En → Rs Ob := fun env => match env[i]? with
  | some (.ow o) => .ok o (env.set i .un)
  | _ => .bad
theorem ef_var {X : Cx} {W : WX} {e : Expr} {i : Nat} (h : PE X e (tVar i)) : EvF X W e (fOwn i) :=
  PE_imp h fun σ H Q ⟨U, env, sa, po⟩ => by
    unfold fOwn at po
    cases hi : env[i]? with
    | none => rw [hi] at po; exact po.elim
    | some s =>
      rw [hi] at po
      cases s with
      | ow o =>
        obtain ⟨p, e1, _⟩ := sa.ob i _ o hi rfl
        exact ⟨_, e1, po p H (Fre.take sa hi e1)⟩
      | _ => exact po.elim
/-! ### a def that returns a new object; its arguments are values -/
def PoSN (K : PySem.W.Frag) (W : WX) (U : Addr → Prop) (env : En) (σ : St) (H : Hp) (r : Rs Ob) (Dn : Ends) : Prop := match r with
  | .ok o env' => ∀ σ' H1 env1, Ste K U env σ H env1 σ' H1 → ∀ p H', Fre K U env1 σ' H1 env' H' o p → Dn.rt (.ref p) H'
  | .er x env' => ∀ cls dd σ' H', Ste K U env σ H env' σ' H' → ExR K (Ux U env' σ') H' x cls dd → W cls dd σ' H'
  | .bad => False
def tSN (K : PySem.W.Frag) (W : WX) (m : En → Rs Ob) : TS := fun Dn σ H => ∃ U env, SA K U env σ H ∧ PoSN K W U env σ H (m env) Dn
abbrev EvSN (X : Cx) (W : WX) (s : List Stmt) (m : En → Rs Ob) : Prop := PSs X s (tSN X.K W m)
theorem PoSN.shift {K : PySem.W.Frag} {W : WX} {U : Addr → Prop} {env env1 : En} {σ σ1 : St} {H H1 : Hp} {r : Rs Ob} {Dn : Ends} (a : Ste K U env σ H env1 σ1 H1) (h : PoSN K W U env σ H r Dn) : PoSN K W U env1 σ1 H1 r Dn := by
  cases r with
  | ok d e => exact fun s' H' e1 b => h s' H' e1 (a.trans b)
  | er x e => exact fun c d s' H' b q => h c d s' H' (a.trans b) q
  | bad => exact h
def nSeq (m : En → Rs Fl) (n : En → Rs Ob) : En → Rs Ob := fun env => (m env).bind fun fl e => match fl with
  | .nx => n e
  | _ => .bad
section
variable {X : Cx} {W : WX} {st : Stmt} {rest : List Stmt} {m : En → Rs Fl} {n : En → Rs Ob} {e : Expr} {pos : Pos}
theorem sn_cons (h1 : EvS X W st m) (h2 : EvSN X W rest n) : EvSN X W (st :: rest) (nSeq m n) :=
  PSs_imp (pss_cons h1 h2) fun Dn σ H ⟨U, env, sa, po⟩ => ⟨U, env, sa, by
    unfold nSeq at po
    cases hm : m env with
    | bad => rw [hm] at po; exact po
    | er x e => rw [hm] at po; exact po
    | ok fl e =>
      rw [hm] at po
      cases fl with
      | nx => exact fun σ' H' a => ⟨U, e, a.sa, PoSN.shift a po⟩
      | _ => exact po.elim⟩
theorem sn_ret (h : EvF X W e n) : EvSN X W [.Return (some e) pos] n :=
  PSs_imp (pss_one (ps_ret h)) fun Dn σ H ⟨U, env, sa, po⟩ => ⟨U, env, sa, by
    cases hm : n env with
    | bad => rw [hm] at po; exact po
    | er x e => rw [hm] at po; exact fun c d H' a q => po c d σ H' a q
    | ok o e => rw [hm] at po; exact fun p H' f => po σ H env (.refl sa) p H' f⟩
end
def spN (K : PySem.W.Frag) (n : Nat) (m : List D → Rs Ob) : Sp := fun vs H Q E => ∃ U ds, vs.length = n ∧ Al U H ∧ Reps K U H ds vs ∧ match m ds with
  | .ok o _ => ∀ p H', Same H H' → H p = none → RepO K (Up U p) H' o p → Q (.ref p) H'
  | _ => False
def mDefN (n N : Nat) (mb : En → Rs Ob) : List D → Rs Ob := fun ds => match mb (ds.map Sl.v ++ List.replicate (N - n) .un) with
  | .ok o e => .ok o e
  | _ => .bad
section
variable {K : PySem.W.Frag} {U : Addr → Prop} {σ : St} {H : Hp} {ds : List D} {vs : List V}
theorem no_chg {a : Addr} : ¬ Chg (ds.map Sl.v) σ a := fun ⟨i, s, o, h1, h2, _⟩ => by
  rw [List.getElem?_map] at h1
  cases e : ds[i]? with
  | none => rw [e] at h1; cases h1
  | some d => rw [e] at h1; cases h1; cases h2
theorem sa_vals (al : Al U H) (r : Reps K U H ds vs) : SA K U (ds.map Sl.v) (vs.map some) H where
  len := by rw [List.length_map, List.length_map, r.len]
  al := al
  nu := fun a c => (no_chg c).elim
  inj := fun i j s t o p a h1 h2 h3 h4 h5 h6 => (no_chg ⟨i, s, o, h1, h2, h5⟩).elim
  val := fun i d h => by
    rw [List.getElem?_map] at h
    cases e : ds[i]? with
    | none => rw [e] at h; cases h
    | some d' =>
      rw [e] at h
      cases h
      obtain ⟨v, h1, h2⟩ := r.get e
      exact ⟨v, by rw [List.getElem?_map, h1]; rfl, Rep.to (fun _ _ _ q => q) (fun x o n _ q => q.elim n no_chg) d v h2⟩
  ob := fun i s o h1 h2 => by
    rw [List.getElem?_map] at h1
    cases e : ds[i]? with
    | none => rw [e] at h1; cases h1
    | some d => rw [e] at h1; cases h1; cases h2
end
theorem okN {P : Program} {w : World} {K : PySem.W.Frag} {mg : Str → Option Value} {base : Heap} {x qual : Str} {st : Stmt} {f : Addr} {fd : FuncData} {N ps : List Str} {k : Nat} {mb : En → Rs Ob} (F : Fun K x qual st f fd) (S : FnScope N ps (defScope st))
    (hbody : ∀ (cdv : Value) (A : Around) (outer : List PySem.Env) (s : Shared) (H : Hp) (E : XK) (W : WX), Co (cxOf (L2.CX P w) P w K mg base N qual (defScope st) f cdv A outer s H E) k → Takes (cxOf (L2.CX P w) P w K mg base N qual (defScope st) f cdv A outer s H E) W →
      EvSN (cxOf (L2.CX P w) P w K mg base N qual (defScope st) f cdv A outer s H E) W (defBody st) mb) : FnG P w K mg base (k + 1) f fd ps (spN K ps.length (mDefN ps.length N.length mb)) := by
  refine fnG_of F S (fun vs H Q E h => ?_) fun cdv A outer s H vs Q E co h => ⟨tSN K (fun c d _ H' => E c d H') mb, hbody cdv A outer s H E _ co (takes_of rfl rfl rfl rfl), ?_⟩
  · obtain ⟨U, ds, hl, _⟩ := h
    exact hl
  obtain ⟨U, ds, hl, al, r, po⟩ := h
  have sa := sa_vals al r
  rw [pad_len]
  have hl2 : N.length - vs.length = N.length - ps.length := by rw [hl]
  rw [hl2]
  refine ⟨U, ds.map Sl.v ++ List.replicate (N.length - ps.length) .un, sa.pad, ?_⟩
  have nc : ∀ a, ¬ Chg (ds.map Sl.v ++ List.replicate (N.length - ps.length) .un) (vs.map some ++ List.replicate (N.length - ps.length) none) a := fun a c => no_chg ((chg_pad sa.len a).mp c)
  unfold mDefN at po
  cases hm : mb (ds.map Sl.v ++ List.replicate (N.length - ps.length) .un) with
  | bad => simp only [hm] at po
  | er y e => simp only [hm] at po
  | ok o e =>
    simp only [hm] at po
    intro σ' H1 env1 a p H' fr
    refine po p H' (fun b u q => ?_) ?_ ?_
    · exact fr.gr b u (fun c => (a.fr b c).elim (nc b) fun z => by rw [q] at z; cases z) (a.gr b u (nc b) q)
    · rcases fr.nw with q | q
      · exact (a.fr p q).elim (fun c => (nc p c).elim) id
      · cases z : H p with
        | none => rfl
        | some u => rw [a.gr p u (nc p) z] at q; cases q
    · exact RepO.to (fun _ _ _ q => q) (fun x o n _ q => n (.inl q)) (fun _ q => q) fr.ob
def xCallN (m : List D → Rs Ob) (ma : En → Rs (List D)) : En → Rs Ob := fun env => (ma env).bind fun ds e1 => match m ds with
  | .ok o _ => .ok o e1
  | _ => .bad
section
variable {X : Cx} {W : WX} {k n : Nat} {f : Addr} {fd : FuncData} {ps : List Str} {x : Str} {p pos : Pos} {e : Expr} {es : List Expr} {m : List D → Rs Ob} {ma : En → Rs (List D)}
theorem ef_call (F : FnG X.prog X.w X.K X.mg X.base k f fd ps (spN X.K (n + 1) m)) (c : Co X k) (tk : Takes X W) (hm : X.mg x = some (.ref f)) (hk : PySem.W.keepIn X.K (.ref f) = true) (hb : Binds X.K fd ps [])
    (ha : EvN X W (e :: es) (n + 1) ma) (hg : Gl X x := by rfl) (hdb : (x == ("__debug__" : Str)) = false := by decide) (he : starEach (e :: es) X.env = (false, eval e X.env) :: starEach es X.env := by rfl)
    (hpl : (backTo pos (starEach es X.env)).any (·.1) = false := by rfl) : EvF X W (.Call (.Name x p) (e :: es) [] pos) (xCallN m ma) := by
  refine PE_imp (pe_cg F c tk hm hk hb .nil ha.pa hg hdb he hpl) fun σ H Q ⟨U, env, sa, po⟩ => ⟨U, env, sa, ?_⟩
  unfold xCallN at po
  cases hm : ma env with
  | bad => rw [hm] at po; exact po
  | er x e => rw [hm] at po; exact po
  | ok ds e1 =>
    rw [hm] at po
    simp only [Rs.bind_ok] at po
    intro vs H1 a r
    rw [List.append_nil]
    refine ⟨Ux U e1 σ, ds, by rw [Reps.len r, ha.len _ _ _ hm], a.sa.alU, r, ?_⟩
    cases hr : m ds with
    | bad => simp only [hr] at po; exact po
    | er x e => simp only [hr] at po; exact po
    | ok o e2 =>
      simp only [hr] at po
      intro q H' s hq ro
      refine po q H' (Fre.pre a ?_)
      have ng : ∀ x u, H1 x = some u → x ≠ q := fun x u z e => by rw [e, hq] at z; cases z
      have nu : ∀ x u, ¬ Ux U e1 σ x → H1 x = some u → ¬ Ux (Up U q) e1 σ x := fun x u n z c => (ux_up.mp c).elim n (ng x u z)
      refine ⟨.inr hq, fun z => by obtain ⟨u, z⟩ := a.sa.al q z; exact ng q u z rfl, ⟨a.sa.len, fun b z => ?_, fun b c z => ?_, a.sa.inj, fun i d h => ?_, fun i t u h1 h2 => ?_⟩, .of_same s, fun _ c => .inl c, fun i o h => ⟨o, h⟩, ?_⟩
      · rcases z with z | z
        · obtain ⟨u, z⟩ := a.sa.al b z
          exact ⟨u, s b u z⟩
        · rw [z]; exact ro.some
      · rcases z with z | z
        · exact a.sa.nu b c z
        · obtain ⟨u, y⟩ := a.sa.alx (.inr c)
          exact ng b u y z
      · obtain ⟨v, e, r⟩ := a.sa.val i d h
        exact ⟨v, e, Rep.to (fun a o _ q => s a o q) nu d v r⟩
      · obtain ⟨b, e, r⟩ := a.sa.ob i t u h1 h2
        exact ⟨b, e, RepO.to (fun a o _ q => s a o q) nu (fun o q => s b o q) r⟩
      · refine RepO.to (fun _ _ _ q => q) (fun x u n _ c => n ?_) (fun _ q => q) ro
        rcases ux_up.mp c with c | c
        · exact .inl c
        · exact .inr c
end
/-! ### facts of defs -/
theorem fun_of_D {K : PySem.W.Frag} {x qual : Str} {st : Stmt} {f : Addr} {fd : FuncData} (F : FunD K x qual (defArgs st) (defBody st) (defScope st) [] [] f fd) : Fun K x qual st f fd := by
  obtain ⟨oc, od, dV, kV, doc, pm, an, cdv, ct, osl, h1, h2, h3, h4, _⟩ := F.ex
  rcases h4 with ⟨_, rfl⟩ | ⟨e, _⟩
  · exact ⟨⟨oc, od, kV, doc, pm, an, cdv, ct, osl, h1, h2, h3⟩, F.kp⟩
  · exact absurd rfl e
theorem Fun.kb {K : PySem.W.Frag} {x qual : Str} {st : Stmt} {f : Addr} {fd : FuncData} {ps ks : List Str} {pm : List Nat} (F : Fun K x qual st f fd)
    (h : ∀ (kV doc pmm : Value) (an : Option Addr) (cdv ct : Value) (us : List Value), us.length = ks.length → bindArgs (PySem.W.fnOf x qual (defArgs st) (defBody st) (defScope st) .none kV doc pmm an cdv ct) ⟨[], ks.zip us⟩ = pure (ps.zip (pick pm us))) : KB K fd ps ks pm := by
  obtain ⟨oc, od, kV, doc, pmm, an, cdv, ct, osl, rfl, lk, hcd⟩ := F.ex
  exact fun s us hl => .of_eq (h kV doc pmm an cdv ct us hl)
theorem Co.blk {X : Cx} {k : Nat} (c : Co X k) (s : Shared) (H : Hp) (scope : Scope) (ce : Env) (fp : List Addr) : Co (X.blk s H scope ce fp) k := ⟨c.hr, c.hg, c.calm⟩
end Mi

set_option Elab.async false
set_option linter.all false
set_option maxRecDepth 100000
set_option maxHeartbeats 4000000
/-! Mi20: a law's end -/
namespace Mi
open PySem PySem.Spec L2
open PyProof.Rows (IntsAre AllBare)
/-- what is tracked ahead of the law's call: the script, where the module does not hold it -/
def scriptH (K : PySem.W.Frag) (a : Addr) (o : Obj) (xs : List V) : Hp := fun b => match K.lookup a with
  | some _ => none
  | none => if b = a then some (.frz o (.lst xs)) else none
section
variable {K : PySem.W.Frag} {a b : Addr} {o : Obj} {xs : List V} {u : HO}
theorem scriptH_inv (h : scriptH K a o xs b = some u) : K.lookup a = none ∧ b = a ∧ u = .frz o (.lst xs) := by
  unfold scriptH at h
  split at h
  · cases h
  · rename_i hk
    rw [Option.ite_none_right_eq_some] at h
    exact ⟨hk, h.1, (Option.some.inj h.2).symm⟩
theorem scriptH_none (h : ¬ (K.lookup a = none ∧ b = a)) : scriptH K a o xs b = none := by
  cases e : scriptH K a o xs b with
  | none => rfl
  | some u => exact absurd ⟨(scriptH_inv e).1, (scriptH_inv e).2.1⟩ h
end
theorem law_run {P : Program} {w : World} {K : PySem.W.Frag} {mg mb : Str → Option Value} {k : Nat} {fa a : Addr} {fd : FuncData} {x : Str} {m : En → Rs D} {st : Shared} {vs : List Value} {ns : List Int}
    (kin : K.In st.heap) (gl : st.heap.Ns mainGlobals mg) (bl : st.heap.Ns builtinsNs mb) (bb : ∀ x : Str, x ≠ "__name__" → mb x = bootBuiltins x) (lim : st.heap.NoLimit) (gn : st.gens = #[])
    (at_ : st.heap.get? a = some { cls := .type "list", data := .seq vs.toArray }) (ai : IntsAre vs ns) (few : ns.length ≤ sizeLine) (room : Room k callerA)
    (F : ∀ base : Heap, K.In base → base.Ns mainGlobals mg → FnG P w K mg base k fa fd [x] (spM K 1 m)) (bind : ∀ (s : Shared) (u : Value), BindsTo s fd ⟨[u], []⟩ [(x, u)])
    (good : ∃ e, m [.v (.fz (ns.map .int))] = .ok (.bl true) e) :
    codeAny (model P w) callerA (.call (.ref fa) ⟨[.ref a], []⟩) (fun r s' => r = .ok (.ret (.bool true)) ∧ OldK st.heap s'.heap ∧ s'.os = st.os ∧ AllBare s'.gens) st := by
  have rel := vals_ints ai
  have lens := ai.length
  let ob : Obj := { cls := .type "list", data := .seq vs.toArray }
  let Hs : Hp := scriptH K a ob (ns.map V.int)
  have hok : HOk P w Hs st.heap := fun b u h => by
    obtain ⟨_, rfl, rfl⟩ := scriptH_inv h
    exact ⟨at_, by rw [List.length_map]; exact few, vs, _, rel, at_⟩
  -- what stands in the base: all but the script
  have stay : ∀ {b : Addr} {o : Obj}, st.heap.get? b = some o → Hs b = none → (hidT st.heap Hs).get? b = some o := fun e n => hidT_get e n
  have dictNot : ∀ {b : Addr} {o : Obj} {es : Array DictEntry} {ep : Nat}, st.heap.get? b = some o → o.data = .dict es ep → Hs b = none := fun {b o es ep} e d => scriptH_none fun ⟨_, q⟩ => by
    rw [q, at_] at e
    cases e
    cases d
  have nsAt : ∀ {b : Addr} {m : Str → Option Value}, st.heap.Ns b m → (hidT st.heap Hs).Ns b m := fun {b m} h => by
    obtain ⟨o, es, ep, e, d, r⟩ := h
    exact ⟨o, es, ep, stay e (dictNot e d), d, r⟩
  have kinB : K.In (hidT st.heap Hs) := fun b o e => stay (kin b o e) (scriptH_none fun ⟨n, q⟩ => by rw [q, n] at e; cases e)
  have lim2 : (hidT st.heap Hs).NoLimit := by
    obtain ⟨mc, l1, l2⟩ := lim
    exact ⟨mc, nsAt l1, l2⟩
  have env0 : Env0 P w K mg (hidT st.heap Hs) callerA [] st Hs :=
    { frames := rfl, mod := ⟨kinB, nsAt gl, ⟨mb, nsAt bl, bb⟩, lim2⟩, bs := fun b o e => of_hidT e, bsz := Nat.le_of_eq (hidT_size _ _), funs := trivial, frf := fun b hb => (by cases hb), hok := hok, bare := .of_eq gn }
  -- the script's tree
  have fz : FzAt K (fun _ => False) Hs a (ns.map V.int) := by
    cases hk : K.lookup a with
    | none => exact .inl ⟨ob, by show scriptH _ _ _ _ _ = _; unfold scriptH; rw [hk]; exact if_pos rfl, fun z => z⟩
    | some o =>
      have e := kin a o hk
      rw [at_] at e
      cases e
      exact .inr (.inr ⟨_, vs.toArray, _, hk, rfl, rfl, rfl, by rw [List.size_toArray, lens]; exact few, by simpa using rel⟩)
  have ints2 : ∀ l : List Int, Reps K (fun _ => False) Hs (l.map .int) (l.map V.int) := by
    intro l
    induction l with
    | nil => rfl
    | cons i l ih => exact ⟨_, _, rfl, rfl, ih⟩
  have sa : SA K (fun _ => False) [.v (.fz (ns.map .int))] [some (V.ref a)] Hs := by
    have := sa_vals (K := K) (U := fun _ => False) (H := Hs) (ds := [.fz (ns.map .int)]) (vs := [.ref a]) (fun _ z => z.elim) ⟨_, _, rfl, ⟨a, _, rfl, fz, ints2 ns⟩, rfl⟩
    exact this
  have sp : spM K 1 m [.ref a] Hs (fun v H' => v = .bl true ∧ ∀ b u, Hs b = some u → H' b = some u) (fun _ _ _ => False) := by
    refine ⟨fun _ => False, [.v (.fz (ns.map .int))], rfl, sa, fun s hs => by rw [List.mem_singleton.mp hs]; rfl, ?_⟩
    obtain ⟨e, he⟩ := good
    rw [he]
    intro v H' ste rep
    refine ⟨rep, fun b u h => ste.gr b u (fun c => ?_) h⟩
    obtain ⟨i, s, o, h1, h2, _⟩ := c
    cases i with
    | zero => cases h1; cases h2
    | succ i => simp at h1
  refine codeAny_mono ((F _ kinB (nsAt gl)).run callerA [] st Hs ⟨[.ref a], []⟩ [.ref a] [.ref a] _ _ room rfl env0 (bind st (.ref a)) (.cons rfl .nil) sp) fun r s' h => ?_
  cases r with
  | error e =>
    obtain ⟨_, _, _, _, _, _, _, _, _, _, _, _, z⟩ := h
    exact z.elim
  | ok fl =>
    cases fl with
    | ret u =>
      obtain ⟨v, H', os, bare, un, hok', r', q, keep⟩ := h
      subst q
      obtain rfl : u = Value.bool true := r'
      refine ⟨rfl, OldK.of_keep fun b o e => ?_, os, bare⟩
      cases q : Hs b with
      | none => exact un.keep b o e q (by simp [frs]) (by simp)
      | some z =>
        obtain ⟨_, rfl, rfl⟩ := scriptH_inv q
        obtain ⟨e1, _⟩ := hok' b _ (keep b _ q)
        rw [at_] at e
        cases e
        exact e1
    | next => exact False.elim h
    | brk => exact False.elim h
    | cont => exact False.elim h
/-- the law's end over a head by facts -/
theorem walk_G {l : PySem.W.OpenLaw} {n k : Nat} {q : Program} {loose : List Str} {XP : (Str → Option Value) → Heap → Prop} {YP : World → Heap → Prop} {d : DefRec} {x : Str} {m : En → Rs D}
    (hn : l.most = some n) (hn2 : n ≤ sizeLine) (hdf : d.params.defaults = []) (room : Room k callerA)
    (F : ∀ (w : World) (mg : Str → Option Value) (fa : Addr) (h : Heap), YP w h → h.Ns mainGlobals mg → mg d.name = some (.ref fa) →
      ∃ (K : PySem.W.Frag) (fd : FuncData), K.In h ∧ (∀ (s : Shared) (u : Value), BindsTo s fd ⟨[u], []⟩ [(x, u)]) ∧ ∀ base : Heap, K.In base → base.Ns mainGlobals mg → FnG l.prog w K mg base k fa fd [x] (spM K 1 m))
    (good : ∀ ns : List Int, ∃ e, m [.v (.fz (ns.map .int))] = .ok (.bl true) e) :
    PySem.W.WalkO q loose XP YP l.row.toRowW d [] (fun f vs => PySem.call f vs) := by
  refine Att.attach_call hn hdf fun w s₀ s₁ mg mb fa o pm cd doc a vs ns G Y ho hd hcd hmg hobj hints hlen hg => ?_
  obtain ⟨K, fd, kin, hb, hF⟩ := F w mg fa _ Y G.T.g hmg
  exact law_run kin G.T.g G.T.b G.T.builtins G.T.nolimit hg hobj hints (Nat.le_trans hlen hn2) room hF hb (good ns)
end Mi

set_option Elab.async false
set_option linter.all false
set_option maxRecDepth 100000
set_option maxHeartbeats 4000000
/-! Mi21: calls in short; a new object handed to a def -/
namespace Mi
open PySem PySem.Spec L2
section
variable {X : Cx} {W : WX} {k : Nat} {x : Str} {id T : String} {p pos : Pos} {e : Expr} {es : List Expr} {g : List D → Option D} {r : List V → Hp → VK → Prop} {ma : En → Rs (List D)} {ms : En → Option (List D)}
theorem ev_b (hc : CallR X (.builtin id) r) (hs : SndN X.K g r) (hm : X.mg x = none) (ha : EvN X W (e :: es) k ma) (hg : Gl X x := by rfl) (hv : bootBuiltins x = some (.builtin id) := by decide +kernel) (hn : x ≠ "__name__" := by decide) (hdb : (x == ("__debug__" : Str)) = false := by decide)
    (he : starEach (e :: es) X.env = (false, eval e X.env) :: starEach es X.env := by rfl) (hpl : (backTo pos (starEach es X.env)).any (·.1) = false := by rfl) : Ev X W (.Call (.Name x p) (e :: es) [] pos) (xN g ma) :=
  ev_n (t := fun t => tCB r t) hs ha (pe_callB hc hg hm hv ha.pa hn hdb he hpl)
theorem ev_t (hc : CallR X (.type T) r) (hs : SndN X.K g r) (hm : X.mg x = none) (ha : EvN X W (e :: es) k ma) (hg : Gl X x := by rfl) (hv : bootBuiltins x = some (.type T) := by decide +kernel) (hn : x ≠ "__name__" := by decide) (hdb : (x == ("__debug__" : Str)) = false := by decide)
    (he : starEach (e :: es) X.env = (false, eval e X.env) :: starEach es X.env := by rfl) (hpl : (backTo pos (starEach es X.env)).any (·.1) = false := by rfl) : Ev X W (.Call (.Name x p) (e :: es) [] pos) (xN g ma) :=
  ev_n (t := fun t => tCB r t) hs ha (pe_callTy hc hg hm hv ha.pa hn hdb he hpl)
theorem ep_b (hc : CallR X (.builtin id) r) (hs : SndN X.K g r) (hm : X.mg x = none) (ha : EvPs X (e :: es) ms) (hg : Gl X x := by rfl) (hv : bootBuiltins x = some (.builtin id) := by decide +kernel) (hn : x ≠ "__name__" := by decide) (hdb : (x == ("__debug__" : Str)) = false := by decide)
    (he : starEach (e :: es) X.env = (false, eval e X.env) :: starEach es X.env := by rfl) (hpl : (backTo pos (starEach es X.env)).any (·.1) = false := by rfl) : EvP X (.Call (.Name x p) (e :: es) [] pos) (pN g ms) :=
  ep_n hs (pe_callB hc hg hm hv ha hn hdb he hpl)
theorem ep_t (hc : CallR X (.type T) r) (hs : SndN X.K g r) (hm : X.mg x = none) (ha : EvPs X (e :: es) ms) (hg : Gl X x := by rfl) (hv : bootBuiltins x = some (.type T) := by decide +kernel) (hn : x ≠ "__name__" := by decide) (hdb : (x == ("__debug__" : Str)) = false := by decide)
    (he : starEach (e :: es) X.env = (false, eval e X.env) :: starEach es X.env := by rfl) (hpl : (backTo pos (starEach es X.env)).any (·.1) = false := by rfl) : EvP X (.Call (.Name x p) (e :: es) [] pos) (pN g ms) :=
  ep_n hs (pe_callTy hc hg hm hv ha hn hdb he hpl)
end
/-- BlkOk, by evaluation -/
def blkB (N : List Str) (sc scope : Scope) (own : List (Str × Nat)) : Bool :=
  decide (scope.kind = .function) && (scope.names.all (fun y => decide (scope.names.lookup y.1 = some y.2)) && (own.all (fun p => decide (N[p.2]? = some p.1)) &&
    (scope.names.all (fun y => decide (y.2 = .free → sc.names.lookup y.1 = some .cell ∨ sc.names.lookup y.1 = some .free)) && scope.names.all (fun y => decide (y.2 = .local ∨ y.2 = .cell → y.1 ∈ own.map (·.1) ∨ y.1 ∉ N)))))
theorem blkOk_of {N : List Str} {sc scope : Scope} {own : List (Str × Nat)} (h : blkB N sc scope own = true) : BlkOk N sc scope own := by
  unfold blkB at h
  simp only [Bool.and_eq_true, decide_eq_true_eq, List.all_eq_true] at h
  exact ⟨h.1, h.2.1, h.2.2.1, h.2.2.2.1, h.2.2.2.2⟩
/-- f(a new object), f a def that changes it -/
def xCallF (m : En → Rs D) (mo : En → Rs Ob) : En → Rs D := fun env => (mo env).bind fun o e1 => match m [.io o] with
  | .ok d _ => .ok d e1
  | _ => .bad
section
variable {K : PySem.W.Frag} {U : Addr → Prop} {env e1 : En} {σ : St} {H H1 : Hp} {o : Ob} {p : Addr}
theorem fre_args (f : Fre K U env σ H e1 H1 o p) : SA K (Ux U e1 σ) [.io o] [some (V.ref p)] H1 where
  len := rfl
  al := fun a h => f.sa.alx (h.imp .inl id)
  nu := fun a ⟨i, s, q, h1, h2, h3⟩ z => by
    have e : a = p := by
      cases i with
      | zero => cases h3; rfl
      | succ i => simp at h1
    subst e
    rcases z with z | z
    · exact f.nu z
    · exact f.sa.nu a z (.inr rfl)
  inj := fun i j s t q r a h1 h2 h3 h4 h5 h6 => by
    cases i with
    | succ i => simp at h1
    | zero =>
      cases j with
      | succ j => simp at h3
      | zero => rfl
  val := fun i d h => by
    cases i with
    | zero => cases h
    | succ i => simp at h
  ob := fun i s q h1 h2 => by
    cases i with
    | succ i => simp at h1
    | zero =>
      cases h1
      cases h2
      refine ⟨p, rfl, RepO.to (fun _ _ _ q => q) (fun x u n _ z => n ?_) (fun _ q => q) f.ob⟩
      rcases z with z | z
      · exact ux_up.mpr (.inl z)
      · obtain ⟨i, s, q, h1, h2, h3⟩ := z
        cases i with
        | zero => cases h3; exact ux_up.mpr (.inr rfl)
        | succ i => simp at h1
theorem fre_back (sa : SA K U env σ H) (f : Fre K U env σ H e1 H1 o p) {args' : En} {H' : Hp} (st : Ste K (Ux U e1 σ) [.io o] [some (V.ref p)] H1 args' [some (V.ref p)] H') :
    Ste K U env σ H e1 σ H' ∧ ∀ x, Ux U e1 σ x → Ux (Ux U e1 σ) args' [some (V.ref p)] x := by
  have one : ∀ a, Chg [.io o] [some (V.ref p)] a → a = p := fun a ⟨i, s, q, h1, h2, h3⟩ => by
    cases i with
    | zero => cases h3; rfl
    | succ i => simp at h1
  have kept : ∀ a u, a ≠ p → H1 a = some u → H' a = some u := fun a u n h => st.gr a u (fun c => n (one a c)) h
  have sub : ∀ x, Ux U e1 σ x → Ux (Up U p) e1 σ x := fun x h => ux_up.mpr (.inl h)
  have nep : ∀ {x}, ¬ Ux (Up U p) e1 σ x → x ≠ p := fun n e => n (ux_up.mpr (.inr e))
  refine ⟨⟨⟨f.sa.len, fun a h => ?_, fun a c h => f.sa.nu a c (.inl h), f.sa.inj, fun i d h => ?_, fun i s q h1 h2 => ?_⟩, fun a u n h => ?_, f.fr, fun i q h => ?_⟩, fun x h => .inl h⟩
  · exact st.sa.al a (.inl h)
  · obtain ⟨v, e, r⟩ := f.sa.val i d h
    exact ⟨v, e, Rep.to (fun a u n h => kept a u (nep n) h) (fun x u n _ z => n (sub x z)) d v r⟩
  · obtain ⟨a, e, r⟩ := f.sa.ob i s q h1 h2
    refine ⟨a, e, RepO.to (fun a u n h => kept a u (nep n) h) (fun x u n _ z => n (sub x z)) (fun u h => kept a u (fun z => ?_) h) r⟩
    exact f.sa.nu a ⟨i, s, q, h1, h2, e⟩ (.inr z)
  · refine kept a u (fun z => ?_) (f.gr a u n h)
    rcases f.nw with q | q
    · exact n (by rw [z]; exact q)
    · rw [z, q] at h; cases h
  · obtain ⟨q', e⟩ := f.io i q h
    exact ⟨q', e, rfl⟩
end
section
variable {X : Cx} {W : WX} {k : Nat} {f : Addr} {fd : FuncData} {ps : List Str} {x : Str} {p pos : Pos} {e : Expr} {m : En → Rs D} {mo : En → Rs Ob}
theorem ev_callF (F : FnG X.prog X.w X.K X.mg X.base k f fd ps (spM X.K 1 m)) (c : Co X k) (tk : Takes X W) (hm : X.mg x = some (.ref f)) (hk : PySem.W.keepIn X.K (.ref f) = true) (hb : Binds X.K fd ps [])
    (ha : EvF X W e mo) (hg : Gl X x := by rfl) (hdb : (x == ("__debug__" : Str)) = false := by decide) (he : starEach [e] X.env = (false, eval e X.env) :: starEach [] X.env := by rfl)
    (hpl : (backTo pos (starEach [] X.env)).any (·.1) = false := by rfl) : Ev X W (.Call (.Name x p) [e] [] pos) (xCallF m mo) := by
  refine PE_imp (pe_cg F c tk hm hk hb .nil (pa_cons ha pa_nil he) hg hdb he hpl) fun σ H Q ⟨U, env, sa, po⟩ => ⟨U, env, sa, ?_⟩
  unfold xCallF at po
  cases hm : mo env with
  | bad => rw [hm] at po; exact po
  | er x e => rw [hm] at po; exact po
  | ok o e1 =>
    rw [hm] at po
    simp only [Rs.bind_ok] at po
    intro q H1 fr
    refine ⟨Ux U e1 σ, [.io o], rfl, fre_args fr, fun s hs => by rw [List.mem_singleton.mp hs]; rfl, ?_⟩
    cases hr : m [.io o] with
    | bad => simp only [hr] at po; exact po.elim
    | er x e => simp only [hr] at po; exact po.elim
    | ok d args' =>
      simp only [hr] at po
      intro v H' st rep
      obtain ⟨st2, sub⟩ := fre_back sa fr st
      exact po v H' st2 (Rep.to (fun _ _ _ q => q) (fun x u n _ z => n (sub x z)) d v rep)
end
end Mi

set_option Elab.async false
set_option linter.all false
set_option maxRecDepth 100000
set_option maxHeartbeats 4000000
/-! Mi22: objects: made, asked, their attributes -/
namespace Mi
open PySem PySem.Spec L2
section
variable {K : PySem.W.Frag} {U : Addr → Prop} {env e1 : En} {σ : St} {H H1 : Hp} {o : Ob} {p : Addr} {ds : List D} {vs : List V}
theorem one_chg {a : Addr} : Chg (.io o :: ds.map Sl.v) (some (V.ref p) :: vs.map some) a ↔ a = p := by
  constructor
  · rintro ⟨i, s, q, h1, h2, h3⟩
    cases i with
    | zero => cases h3; rfl
    | succ i => exact (no_chg (σ := vs.map some) (ds := ds) ⟨i, s, q, h1, h2, h3⟩).elim
  · rintro rfl
    exact ⟨0, _, o, rfl, rfl, rfl⟩
theorem fre_argsV (f : Fre K U env σ H e1 H1 o p) (r : Reps K (Ux (Up U p) e1 σ) H1 ds vs) : SA K (Ux U e1 σ) (.io o :: ds.map Sl.v) (some (V.ref p) :: vs.map some) H1 where
  len := by simp [Reps.len r]
  al := fun a h => f.sa.alx (h.imp .inl id)
  nu := fun a c z => by
    have e := one_chg.mp c
    subst e
    rcases z with z | z
    · exact f.nu z
    · exact f.sa.nu a z (.inr rfl)
  inj := fun i j s t q r' a h1 h2 h3 h4 h5 h6 => by
    cases i with
    | zero =>
      cases j with
      | zero => rfl
      | succ j => exact (no_chg (σ := vs.map some) (ds := ds) ⟨j, t, r', h3, h4, h6⟩).elim
    | succ i => exact (no_chg (σ := vs.map some) (ds := ds) ⟨i, s, q, h1, h2, h5⟩).elim
  val := fun i d h => by
    cases i with
    | zero => cases h
    | succ i =>
      have h : (ds.map Sl.v)[i]? = some (.v d) := by simpa using h
      rw [List.getElem?_map] at h
      cases e : ds[i]? with
      | none => rw [e] at h; cases h
      | some d' =>
        rw [e] at h
        cases h
        obtain ⟨v, h1, h2⟩ := r.get e
        refine ⟨v, by simp [h1], Rep.to (fun _ _ _ q => q) (fun x u n _ z => n ?_) d v h2⟩
        rcases z with z | z
        · exact ux_up.mpr (.inl z)
        · exact ux_up.mpr (.inr (one_chg.mp z))
  ob := fun i s q h1 h2 => by
    cases i with
    | succ i =>
      have h1 : (ds.map Sl.v)[i]? = some s := by simpa using h1
      rw [List.getElem?_map] at h1
      cases e : ds[i]? with
      | none => rw [e] at h1; cases h1
      | some d => rw [e] at h1; cases h1; cases h2
    | zero =>
      cases h1
      cases h2
      refine ⟨p, rfl, RepO.to (fun _ _ _ q => q) (fun x u n _ z => n ?_) (fun _ q => q) f.ob⟩
      rcases z with z | z
      · exact ux_up.mpr (.inl z)
      · exact ux_up.mpr (.inr (one_chg.mp z))
theorem fre_backV (f : Fre K U env σ H e1 H1 o p) {args' : En} {H' : Hp} {o' : Ob} (st : Ste K (Ux U e1 σ) (.io o :: ds.map Sl.v) (some (V.ref p) :: vs.map some) H1 args' (some (V.ref p) :: vs.map some) H') (ho : args'[0]? = some (.io o')) :
    Fre K U env σ H e1 H' o' p := by
  have kept : ∀ a u, a ≠ p → H1 a = some u → H' a = some u := fun a u n h => st.gr a u (fun c => n (one_chg.mp c)) h
  have nep : ∀ {x}, ¬ Ux (Up U p) e1 σ x → x ≠ p := fun n e => n (ux_up.mpr (.inr e))
  refine ⟨f.nw, f.nu, ⟨f.sa.len, fun a h => ?_, f.sa.nu, f.sa.inj, fun i d h => ?_, fun i s q h1 h2 => ?_⟩, fun a u n h => ?_, f.fr, f.io, ?_⟩
  · rcases h with h | h
    · exact st.sa.al a (.inl h)
    · rw [h]
      obtain ⟨b, e, r⟩ := st.sa.ob 0 _ _ ho rfl
      cases e
      exact r.some
  · obtain ⟨v, e, r⟩ := f.sa.val i d h
    exact ⟨v, e, Rep.to (fun a u n h => kept a u (nep n) h) (fun x u n _ z => n z) d v r⟩
  · obtain ⟨a, e, r⟩ := f.sa.ob i s q h1 h2
    refine ⟨a, e, RepO.to (fun a u n h => kept a u (nep n) h) (fun x u n _ z => n z) (fun u h => kept a u (fun z => ?_) h) r⟩
    exact f.sa.nu a ⟨i, s, q, h1, h2, e⟩ (.inr z)
  · refine kept a u (fun z => ?_) (f.gr a u n h)
    rcases f.nw with q | q
    · exact n (by rw [z]; exact q)
    · rw [z, q] at h; cases h
  · obtain ⟨b, e, r⟩ := st.sa.ob 0 _ _ ho rfl
    cases e
    refine RepO.to (fun _ _ _ q => q) (fun x u n _ z => n ?_) (fun _ q => q) r
    rcases ux_up.mp z with z | z
    · exact .inl z
    · exact .inr ⟨0, _, _, ho, rfl, by rw [z]; rfl⟩
end
/-! ### C(..) -/
theorem make_guards {A : Around} {C : Addr} {us : List Value} {kw : List (Str × Value)} : (A.under (.builtin "type.__call__" ⟨.ref C :: us, kw⟩)).guards = A.guards := by
  first | rfl | simp [Around.under, Code.weight, Code.isCreation, Code.isGuard, Code.isCaller, Code.frames, Code.isFrame, guardIds]
section
variable {X : Cx} {W : WX} {k : Nat} {C f : Addr} {fd : FuncData} {ps : List Str} {sp : Sp}
theorem run_makeG {pins : List (Addr × Obj)} {σ : St} {H : Hp} {s : Shared} {Q : VK} {us : List Value} {vs : List V} (M : Mk X.K C f) (F : FnG X.prog X.w X.K X.mg X.base k f fd ps sp) (c : Co X (k + 1)) (hb : Binds X.K fd ps []) (tk : Takes X W)
    (I : Inv X pins σ H s) (r : Vals vs us)
    (h : ∀ x dx, H x = none → H dx = none → dx ≠ x → sp (.ref x :: vs) (upd (upd H dx (.own x)) x (.ins C dx [])) (fun v H2 => v = .non ∧ Q (.ref x) H2) fun cls d H' => W cls d σ H') :
    wpAny (model X.prog X.w) X.A (call (.ref C) us) (EP X pins σ Q) X.xe s := by
  have at_ := h (s.heap.objs.size + 1) s.heap.objs.size (I.hok.fresh (Nat.le_succ _)) (I.hok.fresh (Nat.le_refl _)) (Nat.ne_of_lt (Nat.lt_succ_self _))
  have J := Inv.made (C := C) I
  have rel : Vals (V.ref (s.heap.objs.size + 1) :: vs) (Value.ref (s.heap.objs.size + 1) :: us) := .cons rfl r
  have few : (Value.ref (s.heap.objs.size + 1) :: us ++ []).length = ps.length := by
    rw [List.append_nil, ← rel.length]
    exact F.len _ _ _ _ at_
  have bd := hb _ (Value.ref (s.heap.objs.size + 1) :: us) J.kIn few
  rw [List.append_nil] at bd
  have go := F.run _ X.stack _ _ ⟨Value.ref (s.heap.objs.size + 1) :: us, []⟩ (Value.ref (s.heap.objs.size + 1) :: us) _ _ _ (c.hr.make C us []) (make_guards.trans c.hg) (J.env0.make C us []) bd rel at_
  refine wpAny_call (make_map (f := f) I.kIn M.makes M.init (beq_iff_eq.mp M.fn) (codeAny_mono go fun r s' back => ?_))
  cases r with
  | error e => exact tk e s' (XE.of_call J (fun _ _ _ z => z) back)
  | ok fl =>
    cases fl with
    | ret u =>
      obtain ⟨v, H', J2, rv, ev, q⟩ := J.after back
      subst ev
      exact ⟨rv, ⟨V.ref (s.heap.objs.size + 1), H', J2, rfl, q⟩⟩
    | next => exact False.elim back
    | brk => exact False.elim back
    | cont => exact False.elim back
end
/-- C(e, ..): the object, when nothing is let out -/
def xMake (c : Str) (m : En → Rs D) (ma : En → Rs (List D)) : En → Rs Ob := fun env => (ma env).bind fun ds e1 => match m (.io (.ins c [] []) :: ds.map Sl.v) with
  | .ok .non args' => match (args'[0]? : Option Sl) with
    | some (.io o) => .ok o e1
    | _ => .bad
  | .er x _ => .er x e1
  | _ => .bad
section
variable {X : Cx} {W : WX} {k n : Nat} {c x : Str} {f : Addr} {fd : FuncData} {ps : List Str} {p pos : Pos} {e : Expr} {es : List Expr} {m : En → Rs D} {ma : En → Rs (List D)}
theorem ef_make (M : Mk X.K (He.ga X.K c) f) (F : FnG X.prog X.w X.K X.mg X.base k f fd ps (spM X.K (n + 2) m)) (co : Co X (k + 1)) (tk : Takes X W) (hm : X.mg x = some (.ref (He.ga X.K c))) (hb : Binds X.K fd ps [])
    (ha : EvN X W (e :: es) (n + 1) ma) (hg : Gl X x := by rfl) (hdb : (x == ("__debug__" : Str)) = false := by decide) (he : starEach (e :: es) X.env = (false, eval e X.env) :: starEach es X.env := by rfl)
    (hpl : (backTo pos (starEach es X.env)).any (·.1) = false := by rfl) : EvF X W (.Call (.Name x p) (e :: es) [] pos) (xMake c m ma) := by
  have base : PE X (.Call (.Name x p) (e :: es) [] pos) (fun σ H Q => tA X.K W ma σ H fun vs H1 => ∀ y dx, H1 y = none → H1 dx = none → dx ≠ y →
      spM X.K (n + 2) m (.ref y :: vs) (upd (upd H1 dx (.own y)) y (.ins (He.ga X.K c) dx [])) (fun v H2 => v = .non ∧ Q (.ref y) H2) fun cls d H' => W cls d σ H') := by
    refine ⟨fun pins s σ H Q I h => ?_⟩
    refine wpAny_Call_Name_kw (ld_glob I hg hm ?_ hdb)
    refine PySem.W.callWith_K (h₀ := X.base) I.ok.mod.kin M.kp (thn (ha.pa.run pos pins s σ H _ I h) fun us s1 ⟨vs, H1, I1, r, q⟩ => ⟨I1.kIn, ?_⟩) he hpl
    exact run_makeG M F co hb tk I1 r q
  refine PE_imp base fun σ H Q ⟨U, env, sa, po⟩ => ⟨U, env, sa, ?_⟩
  unfold xMake at po
  cases hm : ma env with
  | bad => rw [hm] at po; exact po
  | er x e => rw [hm] at po; exact po
  | ok ds e1 =>
    rw [hm] at po
    simp only [Rs.bind_ok] at po
    intro vs H1 a r y dx hy hdx hne
    have r : Reps X.K (Ux U e1 σ) H1 ds vs := r
    have st1 : Ste X.K U e1 σ H1 e1 σ (upd H1 dx (.own y)) := (Ste.refl a.sa).same (same_new hdx)
    have hy2 : (upd H1 dx (.own y)) y = none := by rw [upd_ne (Ne.symm hne)]; exact hy
    have f2 : Fre X.K U e1 σ H1 e1 (upd (upd H1 dx (.own y)) y (.ins (He.ga X.K c) dx [])) (.ins c [] []) y :=
      (Fre.new (o := .ins c [] []) st1.sa hy2 ⟨dx, [], upd_same, rfl, rfl⟩).pre st1
    have r2 : Reps X.K (Ux (Up U y) e1 σ) (upd (upd H1 dx (.own y)) y (.ins (He.ga X.K c) dx [])) ds vs :=
      Reps.to (fun b u _ q => same_new hy2 b u (same_new hdx b u q)) (fun b u nb q z => (ux_up.mp z).elim nb fun e => by rw [e, hy] at q; cases q) _ _ r
    refine ⟨Ux U e1 σ, .io (.ins c [] []) :: ds.map Sl.v, by simp [Reps.len r, ha.len _ _ _ hm], fre_argsV f2 r2, fun s hs => ?_, ?_⟩
    · rcases List.mem_cons.mp hs with e | hs
      · rw [e]; rfl
      · obtain ⟨d, _, e⟩ := List.mem_map.mp hs
        rw [← e]; rfl
    · cases hr : m (.io (.ins c [] []) :: ds.map Sl.v) with
      | bad => simp only [hr] at po; exact po
      | er z args' =>
        simp only [hr] at po
        intro cls dd H' st ex
        obtain ⟨o', ho, _⟩ := st.io 0 _ rfl
        have fb := fre_backV f2 st ho
        obtain ⟨s2, _⟩ := fb.ste a.sa
        refine po cls dd H' (a.trans s2) ?_
        obtain ⟨h1, h2⟩ := ex
        refine ⟨h1, h2.imp id ?_⟩
        rintro ⟨q, xs, e1, e2, e3, r⟩
        exact ⟨q, xs, e1, e2, e3, Reps.to (fun _ _ _ q => q) (fun b u nb _ z => nb (.inl z)) _ _ r⟩
      | ok d args' =>
        simp only [hr] at po
        cases d with
        | non =>
          simp only at po
          intro v H' st rep
          obtain ⟨o', ho, _⟩ := st.io 0 _ rfl
          simp only [ho] at po
          exact ⟨rep, po y H' ((fre_backV f2 st ho).pre a)⟩
        | _ => exact po.elim
end
end Mi

set_option Elab.async false
set_option linter.all false
set_option maxRecDepth 100000
set_option maxHeartbeats 4000000
/-! Mi23: attributes and methods -/
namespace Mi
open PySem PySem.Spec L2
/-! ### reading an attribute -/
def lookN (f : Str) : List Str → List D → Option D
  | n :: ns, d :: ds => if n = f then some d else lookN f ns ds
  | _, _ => none
def gFld (c f : Str) : D → Option D
  | .obj c' ns vs => if c' = c then lookN f ns vs else none
  | _ => none
def rFld (K : PySem.W.Frag) (f : Str) : V → Hp → VK → Prop := fun x H Q => ∃ a C dx fs v, x = .ref a ∧ H a = some (.ins C dx fs) ∧ Cls K C ∧ NoAttr K C f ∧ fs.lookup f = some v ∧ Q v H
section
variable {K : PySem.W.Frag} {U : Addr → Prop} {H : Hp}
theorem lookN_v {f : Str} : ∀ {ns : List Str} {ds : List D} {xs : List V} {d : D}, ns.length = xs.length → Reps K U H ds xs → lookN f ns ds = some d → ∃ v, (ns.zip xs).lookup f = some v ∧ Rep K U H d v
  | [], _, _, _, _, _, h => by simp [lookN] at h
  | n :: ns, [], xs, d, hl, r, h => by simp [lookN] at h
  | n :: ns, d' :: ds, [], d, hl, r, h => by simp at hl
  | n :: ns, d' :: ds, x :: xs, d, hl, ⟨y, t, e, r1, r2⟩, h => by
    cases e
    simp only [lookN] at h
    by_cases q : n = f
    · rw [if_pos q] at h
      cases h
      refine ⟨x, ?_, r1⟩
      simp [List.lookup, q]
    · rw [if_neg q] at h
      obtain ⟨v, h1, h2⟩ := lookN_v (by simpa using hl) r2 h
      refine ⟨v, ?_, h2⟩
      have : (f == n) = false := by simpa using Ne.symm q
      simp only [List.zip_cons_cons, List.lookup, this]
      exact h1
theorem s_fld {c f : Str} (hc : Cls K (He.ga K c)) (hn : NoAttr K (He.ga K c) f) : Snd1 K (gFld c f) (rFld K f) := by
  intro U H x d z Q al rx hz q
  cases d with
  | obj c' ns vs =>
    simp only [gFld, Option.ite_none_right_eq_some] at hz
    obtain ⟨rfl, hz⟩ := hz
    obtain ⟨a, dx, xs, rfl, nu, h, hl, r⟩ := rx
    obtain ⟨v, h1, h2⟩ := lookN_v hl r hz
    exact ⟨a, _, dx, _, v, rfl, h, hc, hn, h1, q v H (Same.refl H) h2⟩
  | _ => simp [gFld] at hz
end
/-- .. of the object of a name -/
def xFldO (i : Nat) (c f : Str) : En → Rs D := fun env => match (env[i]?).bind Sl.ob with
  | some (.ins c' ns vs) => if c' = c then .of (lookN f ns vs) env else .bad
  | _ => .bad
section
variable {X : Cx} {W : WX} {e : Expr} {c f : Str} {m : En → Rs D} {mp : En → Option D} {pos : Pos} {i : Nat}
theorem ev_fld (hc : Cls X.K (He.ga X.K c)) (hn : NoAttr X.K (He.ga X.K c) f) (he : Ev X W e m) (hb : attributeBase e f X.env (eval e X.env) = eval e X.env := by rfl) : Ev X W (.Attribute e f pos) (x1 (gFld c f) m) :=
  PE_imp (pe_fld he hb) fun σ H Q ⟨U, env, sa, po⟩ => ⟨U, env, sa, Po.step po fun v H1 d e1 a r po1 => by
    obtain ⟨z, hz, q⟩ := Po.of_some a.sa po1
    exact s_fld hc hn _ _ _ _ _ _ a.sa.alU r hz q⟩
theorem ep_fld (hc : Cls X.K (He.ga X.K c)) (hn : NoAttr X.K (He.ga X.K c) f) (he : EvP X e mp) (hb : attributeBase e f X.env (eval e X.env) = eval e X.env := by rfl) : EvP X (.Attribute e f pos) (p1 (gFld c f) mp) :=
  PE_imp (pe_fld he hb) fun σ H Q ⟨U, env, d, sa, hm, q⟩ => by
    obtain ⟨d1, h1, hm⟩ := Option.bind_eq_some_iff.mp hm
    exact ⟨U, env, d1, sa, h1, fun x H1 s1 r1 => s_fld hc hn U H1 x d1 d Q (sa.same s1).al r1 hm fun v H' s r => q v H' (s1.trans s) r⟩
theorem ev_fldO (hc : Cls X.K (He.ga X.K c)) (hn : NoAttr X.K (He.ga X.K c) f) (he : PE X e (tVar i)) (hb : attributeBase e f X.env (eval e X.env) = eval e X.env := by rfl) : Ev X W (.Attribute e f pos) (xFldO i c f) :=
  PE_imp (pe_fld he hb) fun σ H Q ⟨U, env, sa, po⟩ => by
    unfold xFldO at po
    cases hb : (env[i]?).bind Sl.ob with
    | none => rw [hb] at po; exact po.elim
    | some o =>
      obtain ⟨s, h1, h2⟩ := Option.bind_eq_some_iff.mp hb
      obtain ⟨a, ea, ra⟩ := sa.ob i s o h1 h2
      rw [hb] at po
      cases o with
      | ins c' ns vs =>
        simp only at po
        by_cases hcc : c' = c
        · rw [if_pos hcc] at po
          subst hcc
          obtain ⟨z, hz, q⟩ := Po.of_some sa po
          obtain ⟨dx, xs, e, hl, r⟩ := ra
          obtain ⟨v, g1, g2⟩ := lookN_v hl r hz
          exact ⟨.ref a, ea, a, _, dx, _, v, rfl, e, hc, hn, g1, q v H (Same.refl H) g2⟩
        · rw [if_neg hcc] at po; exact po.elim
      | _ => exact po.elim
end
/-! ### storing -/
def putN (f : Str) (d : D) : List Str → List D → List Str × List D
  | n :: ns, v :: vs => if n = f then (n :: ns, d :: vs) else let r := putN f d ns vs; (n :: r.1, v :: r.2)
  | ns, vs => (ns ++ [f], vs ++ [d])
def mFld (i : Nat) (c f : Str) (m : En → Rs D) : En → Rs Fl := fun env => (m env).bind fun d e1 => match e1[i]? with
  | some s => match s.ob with
    | some (.ins c' ns vs) => if c' = c ∧ ns.length < 1000 then (let r := putN f d ns vs; .ok .nx (e1.set i (s.put (.ins c r.1 r.2)))) else .bad
    | _ => .bad
  | none => .bad
section
variable {K : PySem.W.Frag} {U : Addr → Prop} {H : Hp}
theorem putN_v {f : Str} {d : D} {v : V} (rv : Rep K U H d v) : ∀ {ns : List Str} {ds : List D} {xs : List V}, ns.length = xs.length → Reps K U H ds xs →
    ∃ ys, (putN f d ns ds).1.zip ys = putF f v (ns.zip xs) ∧ (putN f d ns ds).1.length = ys.length ∧ Reps K U H (putN f d ns ds).2 ys
  | [], ds, [], hl, r => by
    have : ds = [] := by cases ds with
      | nil => rfl
      | cons d t => obtain ⟨x, t, e, _⟩ := r; cases e
    subst this
    exact ⟨[v], rfl, rfl, v, [], rfl, rv, rfl⟩
  | [], ds, x :: xs, hl, r => by simp at hl
  | n :: ns, ds, [], hl, r => by simp at hl
  | n :: ns, [], x :: xs, hl, r => by cases r
  | n :: ns, d' :: ds, x :: xs, hl, ⟨y, t, e, r1, r2⟩ => by
    cases e
    by_cases q : n = f
    · refine ⟨v :: xs, ?_, by simpa [putN, q] using hl, ?_⟩
      · simp [putN, putF, q]
      · rw [putN, if_pos q]
        exact ⟨v, xs, rfl, rv, r2⟩
    · obtain ⟨ys, h1, h2, h3⟩ := putN_v (f := f) rv (by simpa using hl) r2
      refine ⟨x :: ys, ?_, by simp [putN, q, h2], ?_⟩
      · simp [putN, putF, q, h1]
      · rw [putN, if_neg q]
        exact ⟨x, ys, rfl, r1, h3⟩
end
section
variable {X : Cx} {W : WX} {o value : Expr} {c f : Str} {m : En → Rs D} {pos pos' : Pos} {i : Nat}
theorem es_fld (hc : Cls X.K (He.ga X.K c)) (hn : NoAttr X.K (He.ga X.K c) f) (ho : PE X o (tVar i)) (hv : Ev X W value m) (hs : swapsWith value (some (.Attribute o f pos')) pos.line X.env = pure false := by rfl) : EvS X W (.Assign [.Attribute o f pos'] value pos) (mFld i c f m) :=
  PS_imp (ps_fld ho hv hs) fun Dn σ H ⟨U, env, sa, po⟩ => ⟨U, env, sa, PoS.step po fun v H1 d e1 a r po1 => by
    cases hi : e1[i]? with
    | none => rw [hi] at po1; exact po1.elim
    | some s =>
      rw [hi] at po1
      simp only at po1
      cases hb : s.ob with
      | none => rw [hb] at po1; exact po1.elim
      | some ob =>
        rw [hb] at po1
        cases ob with
        | ins c' ns vs =>
          simp only at po1
          by_cases hcc : c' = c ∧ ns.length < 1000
          · rw [if_pos hcc] at po1
            obtain ⟨rfl, hlen⟩ := hcc
            obtain ⟨p, ep, dx, xs, e, hl, rs⟩ := a.sa.ob i s _ hi hb
            have up : Ux U e1 σ p := .inr ⟨i, s, _, hi, hb, ep⟩
            obtain ⟨ys, g1, g2, g3⟩ := putN_v (f := f) r hl rs
            refine ⟨.ref p, ep, p, _, dx, _, rfl, e, hc, hn, by rw [List.length_zip]; omega, ?_⟩
            rw [← g1]
            obtain ⟨st, _⟩ := Ste.write2 (o' := .ins c' (putN f d ns vs).1 (putN f d ns vs).2) (ho := .ins (He.ga X.K c') dx ((putN f d ns vs).1.zip ys)) a.sa hi hb ep ⟨dx, ys, upd_same, g2, g3.updU up⟩
            exact po1 σ _ st
          · rw [if_neg hcc] at po1; exact po1.elim
        | _ => exact po1.elim⟩
end
end Mi

set_option Elab.async false
set_option linter.all false
set_option maxRecDepth 100000
set_option maxHeartbeats 4000000
/-! Mi24: methods -/
namespace Mi
open PySem PySem.Spec L2
/-- a receiver has no such name of its own -/
def hasN (f : Str) (ns : List Str) : Bool := decide (f ∈ ns)
theorem lookup_none {f : Str} : ∀ {ns : List Str} {xs : List V}, hasN f ns = false → (ns.zip xs).lookup f = none
  | [], _, _ => rfl
  | n :: ns, [], _ => rfl
  | n :: ns, x :: xs, h => by
    simp only [hasN, List.mem_cons, not_or, decide_eq_false_iff_not] at h
    have q : (f == n) = false := by simpa using h.1
    simp only [List.zip_cons_cons, List.lookup, q]
    exact lookup_none (by simpa [hasN] using h.2)
section
variable {X : Cx} {W : WX} {k : Nat} {C f : Addr} {fd : FuncData} {ps : List Str} {sp : Sp} {nm : Str} {o e : Expr} {es : List Expr} {apos pos : Pos} {ta : TE} {t : TA}
theorem pe_methG {pl : Sem Bool} (he : PE X o ta) (cl : Cls X.K C) (hm : Meth X.K C nm f) (F : FnG X.prog X.w X.K X.mg X.base k f fd ps sp) (c : Co X k) (tk : Takes X W) (hb : Binds X.K fd ps []) (ha : PA X (e :: es) t)
    (hst : starEach (e :: es) X.env = (false, eval e X.env) :: starEach es X.env) (hpl : (backTo pos (starEach es X.env)).any (·.1) = false)
    (ht : eval (.Call (.Attribute o nm apos) (e :: es) [] pos) X.env = (do
      let ov ← eval o X.env
      standAt apos.atName
      let (f, first) ← holding [ov] (getMethod ov nm pl)
      callWith pos f first (backTo pos (starEach (e :: es) X.env)) (backToKw pos (keywordEach [] X.env)))) :
    PE X (.Call (.Attribute o nm apos) (e :: es) [] pos) (fun σ H Q => ta σ H fun x H1 => ∃ a dx fs, x = .ref a ∧ H1 a = some (.ins C dx fs) ∧ fs.lookup nm = none ∧ t σ H1 fun vs H2 => sp (x :: vs) H2 Q fun cls d H' => W cls d σ H') := by
  refine ⟨fun pins s σ H Q I h => PySem.W.methodCall_KW (pl := pl) (thn (he.run pins s σ H _ I h) fun u s1 ⟨x, H1, I1, rx, a, dx, fs, ex, ea, l, q⟩ => ?_) ht⟩
  subst ex
  cases (show u = Value.ref a from rx)
  refine getmeth_ok I1 ea cl hm l (PySem.W.callWith_K (first := [.ref a]) (h₀ := X.base) I.ok.mod.kin hm.kp (thn (ha.run pos pins s1 σ H1 _ I1 q) fun us s2 ⟨vs, H2, I2, r, q2⟩ => ⟨I2.kIn, ?_⟩) hst hpl)
  exact runG (dvs := []) (ds := []) (us := .ref a :: us) (vs := .ref a :: vs) F c hb .nil tk I2 (.cons rfl r) (by rw [List.append_nil]; exact q2)
theorem pe_methG0 {pl : Sem Bool} (he : PE X o ta) (cl : Cls X.K C) (hm : Meth X.K C nm f) (F : FnG X.prog X.w X.K X.mg X.base k f fd ps sp) (c : Co X k) (tk : Takes X W) (hb : Binds X.K fd ps [])
    (ht : eval (.Call (.Attribute o nm apos) [] [] pos) X.env = (do
      let ov ← eval o X.env
      standAt apos.atName
      let (f, first) ← holding [ov] (getMethod ov nm pl)
      callWith pos f first (backTo pos (starEach [] X.env)) (backToKw pos (keywordEach [] X.env)))) :
    PE X (.Call (.Attribute o nm apos) [] [] pos) (fun σ H Q => ta σ H fun x H1 => ∃ a dx fs, x = .ref a ∧ H1 a = some (.ins C dx fs) ∧ fs.lookup nm = none ∧ sp [x] H1 Q fun cls d H' => W cls d σ H') := by
  refine ⟨fun pins s σ H Q I h => PySem.W.methodCall_KW (pl := pl) (thn (he.run pins s σ H _ I h) fun u s1 ⟨x, H1, I1, rx, a, dx, fs, ex, ea, l, q⟩ => ?_) ht⟩
  subst ex
  cases (show u = Value.ref a from rx)
  refine getmeth_ok I1 ea cl hm l (PySem.W.callWith_K0 (first := [.ref a]) I1.kIn hm.kp ?_)
  exact runG (dvs := []) (ds := []) (us := [.ref a]) (vs := [.ref a]) F c hb .nil tk I1 (.cons rfl .nil) (by rw [List.append_nil]; exact q)
end
/-- a promise, all arguments values -/
theorem sp_vals {K : PySem.W.Frag} {W : WX} {U : Addr → Prop} {e : En} {σ : St} {H : Hp} {n : Nat} {m : En → Rs D} {ds : List D} {vs : List V} {Q : VK} (sa : SA K U e σ H) (r : Reps K (Ux U e σ) H ds vs) (hn : ds.length = n)
    (po : Po (RD K) K W U e σ H (match m (ds.map Sl.v) with
      | .ok d _ => .ok d e
      | .er x _ => .er x e
      | .bad => .bad) Q) : spM K n m vs H Q fun cls d H' => W cls d σ H' := by
  refine ⟨Ux U e σ, ds.map Sl.v, by rw [Reps.len r, hn], sa_vals sa.alU r, fun s hs => ?_, ?_⟩
  · obtain ⟨d, _, q⟩ := List.mem_map.mp hs
    rw [← q]; rfl
  have keep : ∀ {args' : En} {H' : Hp}, Ste K (Ux U e σ) (ds.map Sl.v) (vs.map some) H args' (vs.map some) H' → Same H H' := fun st b u q => st.gr b u no_chg q
  cases hm : m (ds.map Sl.v) with
  | bad => simp only [hm] at po; exact po
  | er x args' =>
    simp only [hm] at po
    intro cls dd H' st ex
    refine po cls dd H' ((Ste.refl sa).same (keep st)) ?_
    obtain ⟨h1, h2⟩ := ex
    refine ⟨h1, h2.imp id ?_⟩
    rintro ⟨q, xs, e1, e2, e3, r⟩
    exact ⟨q, xs, e1, e2, e3, Reps.to (fun _ _ _ q => q) (fun b u nb _ z => nb (.inl z)) _ _ r⟩
  | ok d args' =>
    simp only [hm] at po
    intro v H' st rep
    exact po v H' ((Ste.refl sa).same (keep st)) (Rep.to (fun _ _ _ q => q) (fun b u nb _ z => nb (.inl z)) d v rep)
def callV (m : En → Rs D) (ds : List D) (e : En) : Rs D := match m (ds.map Sl.v) with
  | .ok d _ => .ok d e
  | .er x _ => .er x e
  | .bad => .bad
/-- o.nm(e, ..), o a value -/
def xMth (c nm : Str) (m : En → Rs D) (mo : En → Rs D) (ma : En → Rs (List D)) : En → Rs D := fun env => (mo env).bind fun d e1 => match d with
  | .obj c' ns _ => if c' = c ∧ hasN nm ns = false then (ma e1).bind fun ds e2 => callV m (d :: ds) e2 else .bad
  | _ => .bad
/-- .. o the object of a name -/
def xMthO (i : Nat) (c nm : Str) (m : En → Rs D) (mq : En → Rs (List Ar)) : En → Rs D := fun env => match (env[i]?).bind Sl.ob with
  | some (.ins c' ns _) => if c' = c ∧ hasN nm ns = false then xCall m (qIo i mq) env else .bad
  | _ => .bad
section
variable {X : Cx} {W : WX} {k n i : Nat} {c nm : Str} {f : Addr} {fd : FuncData} {ps : List Str} {o e : Expr} {es : List Expr} {apos pos : Pos} {m mo : En → Rs D} {ma : En → Rs (List D)} {mq : En → Rs (List Ar)}
theorem ev_mth {pl : Sem Bool} (cl : Cls X.K (He.ga X.K c)) (hm : Meth X.K (He.ga X.K c) nm f) (F : FnG X.prog X.w X.K X.mg X.base k f fd ps (spM X.K (n + 2) m)) (co : Co X k) (tk : Takes X W) (hb : Binds X.K fd ps []) (he : Ev X W o mo) (ha : EvN X W (e :: es) (n + 1) ma)
    (hst : starEach (e :: es) X.env = (false, eval e X.env) :: starEach es X.env := by rfl) (hpl : (backTo pos (starEach es X.env)).any (·.1) = false := by rfl)
    (ht : eval (.Call (.Attribute o nm apos) (e :: es) [] pos) X.env = (do
      let ov ← eval o X.env
      standAt apos.atName
      let (f, first) ← holding [ov] (getMethod ov nm pl)
      callWith pos f first (backTo pos (starEach (e :: es) X.env)) (backToKw pos (keywordEach [] X.env))) := by rfl) : Ev X W (.Call (.Attribute o nm apos) (e :: es) [] pos) (xMth c nm m mo ma) :=
  PE_imp (pe_methG (pl := pl) he cl hm F co tk hb ha.pa hst hpl ht) fun σ H Q ⟨U, env, sa, po⟩ => ⟨U, env, sa, Po.step po fun v H1 d e1 a r po1 => by
    have r : Rep X.K (Ux U e1 σ) H1 d v := r
    cases d with
    | obj c' ns vs0 =>
      simp only at po1
      by_cases hcc : c' = c ∧ hasN nm ns = false
      · rw [if_pos hcc] at po1
        obtain ⟨rfl, hn⟩ := hcc
        have r0 := r
        obtain ⟨p, dx, xs, rfl, nu, h, hl, rs⟩ := r0
        refine ⟨p, dx, _, rfl, h, lookup_none hn, U, e1, a.sa, ?_⟩
        cases hma : ma e1 with
        | bad => rw [hma] at po1; exact po1
        | er x e2 => rw [hma] at po1; exact po1
        | ok ds e2 =>
          rw [hma] at po1
          intro vs H2 a2 r2
          have r2 : Reps X.K (Ux U e2 σ) H2 ds vs := r2
          have po2 := Po.shift (R2 := RD X.K) a2 po1
          exact sp_vals a2.sa (ds := D.obj c' ns vs0 :: ds) ⟨_, _, rfl, a2.rep a.sa r, r2⟩ (by simp [ha.len _ _ _ hma]) po2
      · rw [if_neg hcc] at po1; exact po1.elim
    | _ => exact po1.elim⟩
theorem ev_mth0 {pl : Sem Bool} (cl : Cls X.K (He.ga X.K c)) (hm : Meth X.K (He.ga X.K c) nm f) (F : FnG X.prog X.w X.K X.mg X.base k f fd ps (spM X.K 1 m)) (co : Co X k) (tk : Takes X W) (hb : Binds X.K fd ps []) (he : Ev X W o mo)
    (ht : eval (.Call (.Attribute o nm apos) [] [] pos) X.env = (do
      let ov ← eval o X.env
      standAt apos.atName
      let (f, first) ← holding [ov] (getMethod ov nm pl)
      callWith pos f first (backTo pos (starEach [] X.env)) (backToKw pos (keywordEach [] X.env))) := by rfl) : Ev X W (.Call (.Attribute o nm apos) [] [] pos) (xMth c nm m mo xNil) :=
  PE_imp (pe_methG0 (pl := pl) he cl hm F co tk hb ht) fun σ H Q ⟨U, env, sa, po⟩ => ⟨U, env, sa, Po.step po fun v H1 d e1 a r po1 => by
    have r : Rep X.K (Ux U e1 σ) H1 d v := r
    cases d with
    | obj c' ns vs0 =>
      simp only at po1
      by_cases hcc : c' = c ∧ hasN nm ns = false
      · rw [if_pos hcc] at po1
        obtain ⟨rfl, hn⟩ := hcc
        have r0 := r
        obtain ⟨p, dx, xs, rfl, nu, h, hl, rs⟩ := r0
        exact ⟨p, dx, _, rfl, h, lookup_none hn, sp_vals a.sa (ds := [D.obj c' ns vs0]) ⟨_, _, rfl, r, rfl⟩ rfl po1⟩
      · rw [if_neg hcc] at po1; exact po1.elim
    | _ => exact po1.elim⟩
end
end Mi

set_option Elab.async false
set_option linter.all false
set_option maxRecDepth 100000
set_option maxHeartbeats 4000000
/-! Mi25: methods of texts; sum; divmod -/
namespace Mi
open PySem PySem.Spec L2
def SndM (K : PySem.W.Frag) (g : D → List D → Option D) (r : V → List V → Hp → VK → Prop) : Prop := ∀ (U : Addr → Prop) (H : Hp) (x : V) (xs : List V) (d : D) (ds : List D) (z : D) (Q : VK), Al U H → Rep K U H d x → Reps K U H ds xs → g d ds = some z → (∀ v H', Same H H' → Rep K U H' z v → Q v H') → r x xs H Q
def isStrT : D → Bool
  | .str _ => true
  | _ => false
/-- a text's method -/
def xTm (g : D → List D → Option D) (mo : En → Rs D) (ma : En → Rs (List D)) : En → Rs D := fun env => (mo env).bind fun d e1 => if isStrT d = true then (ma e1).bind fun ds e2 => .of (g d ds) e2 else .bad
theorem isStrT_v {K : PySem.W.Frag} {U : Addr → Prop} {H : Hp} {d : D} {x : V} (h : isStrT d = true) (r : Rep K U H d x) : tyV K "str" x H := by
  cases d <;> simp [isStrT] at h
  rw [show x = _ from r]
  rfl
section
variable {X : Cx} {W : WX} {n : Nat} {o e : Expr} {es : List Expr} {mo : En → Rs D} {ma : En → Rs (List D)} {g : D → List D → Option D} {r : V → List V → Hp → VK → Prop} {name : Str} {apos cpos : Pos} {id : String}
theorem ev_tm (hs : SndM X.K g r) (ha : EvN X W es n ma) (h : PE X e (tBM X.K "str" r (tE X.K W mo) (tA X.K W ma))) : Ev X W e (xTm g mo ma) :=
  PE_imp h fun σ H Q ⟨U, env, sa, po⟩ => ⟨U, env, sa, Po.step po fun v H1 d e1 a rv po1 => by
    by_cases ht : isStrT d = true
    · rw [if_pos ht] at po1
      refine ⟨isStrT_v ht rv, U, e1, a.sa, Po.step po1 fun vs H2 ds e2 a2 rs po2 => ?_⟩
      obtain ⟨z, hz, q⟩ := Po.of_some a2.sa po2
      exact hs _ _ _ _ _ _ _ _ a2.sa.alU (a2.rep a.sa rv) rs hz q
    · rw [if_neg ht] at po1; exact po1.elim⟩
end
section
variable {K : PySem.W.Frag}
/-- the texts of a list or a tuple -/
def seqS : D → Option (List Str)
  | .lst ds => strsD ds
  | .tup ds => strsD ds
  | _ => none
def gJoin : D → List D → Option D
  | .str a, [d] => (seqS d).bind fun ys => if (ys.map (·.length)).sum + ys.length * a.length ≤ 1000000 then some (.str (Txt.join a ys)) else none
  | _, _ => none
theorem sm_join : SndM K gJoin (fun x xs H Q => ∃ a p, ∃ ys : List Str, x = .str a ∧ xs = [.ref p] ∧ (SqL K H p (ys.map V.str) ∨ SqT K H p (ys.map V.str)) ∧ (ys.map (·.length)).sum + ys.length * a.length ≤ 16777216 ∧ Q (.str (Txt.join a ys)) H) := by
  intro U H x xs d ds z Q al rx rs hz q
  cases d with
  | str a =>
    match ds, hz, rs with
    | [], hz, _ => cases hz
    | _ :: _ :: _, hz, _ => simp [gJoin] at hz
    | [e], hz, rs =>
      obtain ⟨y, rfl, ry⟩ := rs.one
      obtain ⟨ys, h1, hz⟩ := Option.bind_eq_some_iff.mp (show (seqS e).bind _ = _ from hz)
      rw [Option.ite_none_right_eq_some] at hz
      obtain ⟨hl, e2⟩ := hz
      cases e2
      cases e with
      | lst es =>
        obtain ⟨p, vs, rfl, h, _, r⟩ := ry.lst_sq
        exact ⟨a, p, ys, rx, rfl, .inl (.of (by rw [h, strsD_v h1 r])), by omega, q _ H (Same.refl H) rfl⟩
      | tup es =>
        obtain ⟨p, vs, rfl, h, _, r⟩ := ry.tup_sq
        exact ⟨a, p, ys, rx, rfl, .inr (.of (by rw [h, strsD_v h1 r])), by omega, q _ H (Same.refl H) rfl⟩
      | _ => simp [seqS] at h1
  | _ => simp [gJoin] at hz
theorem reps_strs {U : Addr → Prop} {H : Hp} : ∀ ys : List Str, Reps K U H (ys.map .str) (ys.map V.str)
  | [] => rfl
  | y :: ys => ⟨_, _, rfl, rfl, reps_strs ys⟩
def gSplit : D → List D → Option D
  | .str a, [.str b] => if (b.length == 0) = false ∧ a.length ≤ 1000000 then some (.lst ((Txt.split a b).map .str)) else none
  | _, _ => none
theorem sm_split : SndM K gSplit (fun x xs H Q => ∃ a b, x = .str a ∧ xs = [.str b] ∧ (b.length == 0) = false ∧ a.length + 2 ≤ sizeLine ∧ rNewStrs (Txt.split a b) H Q) := by
  intro U H x xs d ds z Q al rx rs hz q
  have big : 1000002 ≤ sizeLine := by decide
  cases d with
  | str a =>
    match ds, hz, rs with
    | [], hz, _ => cases hz
    | _ :: _ :: _, hz, _ => simp [gSplit] at hz
    | [e], hz, rs =>
      obtain ⟨y, rfl, ry⟩ := rs.one
      cases e with
      | str b =>
        simp only [gSplit, Option.ite_none_right_eq_some] at hz
        obtain ⟨⟨h1, h2⟩, e⟩ := hz
        cases e
        exact ⟨a, b, rx, by rw [show y = _ from ry], h1, by omega, fun p hp => q _ _ (same_new hp) (rep_lst_new al hp (reps_strs _))⟩
      | _ => simp [gSplit] at hz
  | _ => simp [gSplit] at hz
def gPart : D → List D → Option D
  | .str a, [.str b] => if (b.length == 0) = false ∧ a.length ≤ 1000000 then some (.tup [.str (Txt.partition a b).1, .str (Txt.partition a b).2.1, .str (Txt.partition a b).2.2]) else none
  | _, _ => none
theorem sm_part : SndM K gPart (fun x xs H Q => ∃ a b, x = .str a ∧ xs = [.str b] ∧ (b.length == 0) = false ∧ a.length ≤ sizeLine ∧ ∀ p, H p = none → Q (.ref p) (upd H p (.tup [.str (Txt.partition a b).1, .str (Txt.partition a b).2.1, .str (Txt.partition a b).2.2]))) := by
  intro U H x xs d ds z Q al rx rs hz q
  have big : 1000002 ≤ sizeLine := by decide
  cases d with
  | str a =>
    match ds, hz, rs with
    | [], hz, _ => cases hz
    | _ :: _ :: _, hz, _ => simp [gPart] at hz
    | [e], hz, rs =>
      obtain ⟨y, rfl, ry⟩ := rs.one
      cases e with
      | str b =>
        simp only [gPart, Option.ite_none_right_eq_some] at hz
        obtain ⟨⟨h1, h2⟩, e⟩ := hz
        cases e
        exact ⟨a, b, rx, by rw [show y = _ from ry], h1, by omega, fun p hp => q _ _ (same_new hp) (rep_tup_new al hp (reps_strs [(Txt.partition a b).1, (Txt.partition a b).2.1, (Txt.partition a b).2.2]))⟩
      | _ => simp [gPart] at hz
  | _ => simp [gPart] at hz
def gCountS : D → List D → Option D
  | .str a, [.str b] => some (.int (Txt.count a b))
  | _, _ => none
theorem sm_count : SndM K gCountS (fun x xs H Q => ∃ a b, x = .str a ∧ xs = [.str b] ∧ Q (.int (Txt.count a b)) H) := by
  intro U H x xs d ds z Q al rx rs hz q
  cases d with
  | str a =>
    match ds, hz, rs with
    | [], hz, _ => cases hz
    | _ :: _ :: _, hz, _ => simp [gCountS] at hz
    | [e], hz, rs =>
      obtain ⟨y, rfl, ry⟩ := rs.one
      cases e with
      | str b => cases hz; exact ⟨a, b, rx, by rw [show y = _ from ry], q _ H (Same.refl H) rfl⟩
      | _ => simp [gCountS] at hz
  | _ => simp [gCountS] at hz
/-! ### divmod, sum of a list -/
def gDivmod : List D → Option D
  | [.int i, .int j] => if 0 < j ∧ j.natAbs < 1073741824 then some (.tup [.int (i / j), .int (i % j)]) else none
  | _ => none
theorem n_divmod : SndN K gDivmod (fun xs H Q => ∃ i j, xs = [.int i, .int j] ∧ CDiv i j ∧ ∀ p, H p = none → Q (.ref p) (upd H p (.tup [.int (i / j), .int (i % j)]))) := by
  intro U H xs ds z Q al r hz q
  match ds, hz, r with
  | [], hz, _ => cases hz
  | [_], hz, _ => simp [gDivmod] at hz
  | _ :: _ :: _ :: _, hz, _ => simp [gDivmod] at hz
  | [d, e], hz, r =>
    obtain ⟨x, y, rfl, rx, ry⟩ := r.two
    cases d with
    | int i =>
      cases e with
      | int j =>
        simp only [gDivmod, Option.ite_none_right_eq_some] at hz
        obtain ⟨⟨h1, h2⟩, e⟩ := hz
        cases e
        exact ⟨i, j, by rw [show x = _ from rx, show y = _ from ry], ⟨h1, by omega⟩, fun p hp => q _ _ (same_new hp) (rep_tup_new al hp ⟨_, _, rfl, rfl, _, _, rfl, rfl, rfl⟩)⟩
      | _ => simp [gDivmod] at hz
    | _ => simp [gDivmod] at hz
def gSum : List D → Option D
  | [.lst ds] => (intsD ds).map fun ns => .int ns.sum
  | [.tup ds] => (intsD ds).map fun ns => .int ns.sum
  | _ => none
end
end Mi

set_option Elab.async false
set_option linter.all false
set_option maxRecDepth 100000
set_option maxHeartbeats 4000000
/-! Mi26: sorted of tuples of which some are empty -/
namespace Mi
open PySem PySem.Calls PySem.SeqAt PySem.W PyProof.Rows
/-- all are tuples, or none is a tuple or None -/
def SortT (ds : List PyData) : Prop := (∀ d, d ∈ ds → ∃ xs, d = .tuple xs) ∨ ∀ d, d ∈ ds → d ≠ .none ∧ ∀ xs, d ≠ .tuple xs
theorem keyLt'_gen (x y : Value) : keyLt' general' x y = oneLt' false x y := rfl
section
variable {prog : Program} {w : World} {A : Around} {s : Shared}
theorem call_tuple_lt {E : Value → Shared → Prop} {Q : Value → Shared → Prop} {l b : Addr} {items items2 : Array Value} {e r : Nat → Bool} {ol ob : Obj} {n1 n2 : Nat} (hl : s.heap.get? l = some ol) (cl : ol.cls = .type "tuple") (dl : ol.data = .seq items n1) (hb : s.heap.get? b = some ob) (cb : ob.cls = .type "tuple") (db : ob.data = .seq items2 n2)
    (he : ∀ j (h1 : j < items.size) (h2 : j < items2.size), EqAt A.in1 s items[j] items2[j] (e j)) (hr : ∀ j (h1 : j < items.size) (h2 : j < items2.size), e j = false → RcLt A.in1 s items[j] items2[j] (r j))
    (h : Q (.bool (firstLt e r (decide (items.size < items2.size)) (List.range (min items.size items2.size)))) s) : wpAny (model prog w) A (call (.builtin "tuple.__lt__") [.ref l, .ref b]) Q E s := by
  obtain ⟨cls, dd, data, sl⟩ := ol
  obtain ⟨cls2, dd2, data2, sl2⟩ := ob
  subst cl cb dl db
  exact call_meets F.slot_tuple_lt ⟨_, hl, rfl⟩ F.entry_tuple_lt (F.args_tuple_lt_2 _ _) (tuple_ltAt l b items items2 n1 n2 dd dd2 sl sl2 e r)
    ⟨hl, hb, he, hr, h⟩
theorem oneLt_tup {E : Value → Shared → Prop} {xs ys : List PyData} {a b : Value} {as bs : List Addr} {Q : Bool → Shared → Prop} (ra : Reads s.heap a (.tuple xs) as) (rb : Reads s.heap b (.tuple ys) bs) (h : alike (.tuple xs) (.tuple ys) = true)
    (hu : A.units + min (PyData.tuple xs).depth (PyData.tuple ys).depth < cLine) (hq : Q (dataLt (.tuple xs) (.tuple ys)) s) : wpAny (model prog w) A (oneLt' true a b) Q E s := by
  have hal : alikeAll xs ys = true := by simpa [alike] using h
  cases ra with
  | @tuple l o vs n _ as₁ h1 h2 h3 h4 =>
    cases rb with
    | @tuple l' o' vs' n' _ bs₁ k1 k2 k3 k4 =>
      have n1 : vs.size = xs.length := by simpa using SeqAt.ReadsAll.length _ _ _ h4
      have n2 : vs'.size = ys.length := by simpa using SeqAt.ReadsAll.length _ _ _ k4
      rw [dataLt_tuple, ← firstLt_toks xs ys hal, ← n1, ← n2] at hq
      rw [oneLt'_eq]
      simp only [if_true]
      refine wpAny_bind (wpAny_cRoomFor (SeqAt.room_here hu) ?_)
      refine wpAny_bind (wpAny_callSpecialIfBound?_slot (T := "tuple") ⟨_, h1, h2⟩ F.slot_tuple_lt (call_tuple_lt (e := pairEq xs ys) (r := fun j => dataLt (xs.getD j .none) (ys.getD j .none)) h1 h2 h3 k1 k2 k3 (fun j j1 j2 => ?_) (fun j j1 j2 hj => ?_) ?_))
      · have := eqAt_alikeAll xs ys A.in1 s vs.toList vs'.toList _ _ h4 k4 hal (SeqAt.room_in hu) j (by simpa using j1) (by simpa using j2)
        simpa using this
      · have := rcLt_alikeAll xs ys A.in1 s vs.toList vs'.toList _ _ h4 k4 hal (SeqAt.room_in hu) j (by simpa using j1) (by simpa using j2) hj
        simpa using this
      · exact wpAny_truthy_bool hq
/-- what each first item is: some, or none of an empty tuple -/
theorem firsts_tup {M : Model} {E : Value → Shared → Prop} : ∀ (vs : List Value) (ds : List PyData) {Q : List (Option Value) → Shared → Prop}, EachIs (fun v d => ∃ as, Reads s.heap v d as) vs ds → (∀ d, d ∈ ds → ∃ xs, d = .tuple xs) →
    (∀ fs : List (Option Value), fs.length = vs.length → (∀ i : Nat, ds[i]? = some (.tuple []) → fs[i]? = some none) → (∀ (i : Nat) x r, ds[i]? = some (.tuple (x :: r)) → ∃ v, fs[i]? = some (some v)) → Q fs s) → wpAny M A (vs.mapM firstOfTuple') Q E s
  | _, _, Q, .nil, _, h => by rw [List.mapM_nil]; exact wpAny_pure (h [] rfl (fun i q => by simp at q) fun i x r q => by simp at q)
  | v :: vs, d :: ds, Q, .cons ⟨as, r⟩ t, ht, h => by
    obtain ⟨xs, rfl⟩ := ht d (List.mem_cons_self ..)
    rw [List.mapM_cons]
    refine wpAny_bind ?_
    rw [kas_first_eq]
    cases r with
    | @tuple a o us n _ _ ho hc hd hr =>
      refine wpAny_bind (Looks.here (show Looks M s.heap (typeOf (.ref a)) o.cls from (Looks.ld ho).andThen .now) ?_)
      rw [hc, if_neg (by first | decide | simp)]
      refine wpAny_bind (listItems_at ho hd (wpAny_pure ?_))
      refine wpAny_bind (firsts_tup vs ds t (fun d hd => ht d (List.mem_cons_of_mem _ hd)) fun fs h1 h2 h3 => wpAny_pure (h _ (by rw [List.length_cons, List.length_cons, h1]) (fun i q => ?_) fun i x r q => ?_))
      · cases i with
        | zero =>
          simp only [List.getElem?_cons_zero, Option.some.injEq] at q ⊢
          cases q
          have n1 : us.size = 0 := by simpa using SeqAt.ReadsAll.length _ _ _ hr
          exact Array.getElem?_eq_none (by omega)
        | succ i => simpa using h2 i (by simpa using q)
      · cases i with
        | zero =>
          simp only [List.getElem?_cons_zero, Option.some.injEq] at q ⊢
          cases q
          have n1 : us.size = (x :: r).length := by simpa using SeqAt.ReadsAll.length _ _ _ hr
          exact ⟨_, Array.getElem?_eq_getElem (by rw [n1]; exact Nat.succ_pos _)⟩
        | succ i => simpa using h3 i x r (by simpa using q)
theorem kind_tup {M : Model} {E : Value → Shared → Prop} {vs : List Value} {ds : List PyData} {Q : SortKind → Shared → Prop} (e : EachIs (fun v d => ∃ as, Reads s.heap v d as) vs ds) (ht : ∀ d, d ∈ ds → ∃ xs, d = .tuple xs) (hn : .tuple [] ∈ ds)
    (hg : ds[0]? ≠ some (.tuple []) → Q general' s) (h1 : ds[0]? = some (.tuple []) → Q oneType' s) : wpAny M A (keyKind' vs.toArray) Q E s := by
  rw [keyKind'_eq, List.mapM_toArray, map_eq_pure_bind]
  refine wpAny_bind (wpAny_bind (firsts_tup vs ds e ht fun fs hl hf hf2 => wpAny_pure ?_))
  obtain ⟨i, hi, ei⟩ := List.getElem_of_mem hn
  have hfi := hf i (by rw [List.getElem?_eq_getElem hi, ei])
  rw [if_neg (by
    intro q
    rw [List.all_toArray, List.all_eq_true] at q
    exact absurd (q none (List.mem_of_getElem? hfi)) (by simp))]
  cases ds with
  | nil => simp at hn
  | cons d ds =>
    obtain ⟨xs, rfl⟩ := ht d (List.mem_cons_self ..)
    cases xs with
    | cons x r =>
      obtain ⟨v, hv⟩ := hf2 0 x r rfl
      rw [if_pos (by rw [List.getElem?_toArray, hv]; rfl)]
      exact wpAny_pure (hg (by simp))
    | nil =>
      have h0 := hf 0 rfl
      rw [if_neg (by rw [List.getElem?_toArray, h0]; simp)]
      rw [oneTypeOnly'_eq, List.mapM_toArray, map_eq_pure_bind]
      refine wpAny_bind (wpAny_bind (wpAny_bind (kas_mapM (r := Value.type "tuple") _ (fun v hv Q' hq => ?_) (wpAny_pure ?_))))
      · obtain ⟨d, hd, as, r⟩ := e.left v hv
        obtain ⟨xs, rfl⟩ := ht d hd
        exact (looks_reads r).here hq
      · have hvl : 0 < vs.length := by rw [e.length]; exact Nat.succ_pos _
        have hall : ((List.map (fun _ => Value.type "tuple") vs).toArray.all fun x => x == Value.type "tuple") = true := by
          simp
        have h0 : (List.map (fun _ => Value.type "tuple") vs).toArray[0]? = some (Value.type "tuple") := by
          cases vs with
          | nil => simp at hvl
          | cons v vs => simp
        rw [h0]
        simp only [hall, if_true]
        exact wpAny_pure (wpAny_pure (h1 rfl))
theorem sortsT {vs : List Value} {ds : List PyData} (e : EachIs (fun v d => ∃ as, Reads s.heap v d as) vs ds) (hal : AllAlike ds) (hk : SortT ds) (hu : ∀ d, d ∈ ds → A.units + d.depth < cLine) : SortsAt prog w A s (dataKind s.heap ds) vs := by
  rcases hk with ht | hn
  · by_cases he : PyData.tuple [] ∈ ds
    · have room : ∀ {d d' : PyData}, d ∈ ds → A.units + min d.depth d'.depth < cLine := fun {d d'} hd => Nat.lt_of_le_of_lt (Nat.add_le_add_left (Nat.min_le_left _ _) _) (hu d hd)
      refine ⟨fun v hv => ?_, ?_⟩
      · obtain ⟨d, hd, as, r⟩ := e.left v hv
        exact ⟨_, dataKind_some hal hd r⟩
      · by_cases h0 : ds[0]? = some (.tuple [])
        · refine ⟨oneType', ?_, fun h2 E Q hq => kind_tup e ht he (fun z => absurd h0 z) fun _ => hq⟩
          intro E x y a b Q ha hb hq
          obtain ⟨d, as, hd, ra, rfl⟩ := dataKind_inv ha
          obtain ⟨d', as', hd', rb, rfl⟩ := dataKind_inv hb
          have hdd := hal d hd d' hd'
          have hr := room (d' := d') hd
          obtain ⟨xs, rfl⟩ := ht d hd
          obtain ⟨ys, rfl⟩ := ht d' hd'
          rw [keyLt'_oneType]
          exact oneLt_tup ra rb hdd hr hq
        · refine ⟨general', ?_, fun h2 E Q hq => kind_tup e ht he (fun _ => hq) fun z => absurd z h0⟩
          intro E x y a b Q ha hb hq
          obtain ⟨d, as, hd, ra, rfl⟩ := dataKind_inv ha
          obtain ⟨d', as', hd', rb, rfl⟩ := dataKind_inv hb
          have hdd := hal d hd d' hd'
          have hr := room (d' := d') hd
          obtain ⟨xs, rfl⟩ := ht d hd
          rw [keyLt'_gen]
          exact oneLt_alike (fun z => nomatch z) ra rb hdd (fun z => nomatch z) hr hq
    · refine SortsAt.data e hal (.inl fun d hd => ?_) hu
      obtain ⟨xs, rfl⟩ := ht d hd
      cases xs with
      | nil => exact absurd hd he
      | cons x r => exact ⟨x, r, rfl⟩
  · exact SortsAt.data e hal (.inr hn) hu
end
end Mi

set_option Elab.async false
set_option linter.all false
set_option maxRecDepth 100000
set_option maxHeartbeats 4000000
/-! Mi27: sorted -/
namespace Mi
open PySem PySem.Spec PySem.Calls PySem.W PyProof.Rows L2
mutual
def encD : D → PyData
  | .bl b => .bool b
  | .int i => .int i
  | .str x => .str x
  | .tup ds => .tuple (encDs ds)
  | .lst ds => .list (encDs ds)
  | _ => .none
def encDs : List D → List PyData
  | [] => []
  | d :: ds => encD d :: encDs ds
end
mutual
def plD : D → Bool
  | .bl _ => true
  | .int _ => true
  | .str _ => true
  | .tup ds => plDs ds
  | .lst ds => plDs ds
  | _ => false
def plDs : List D → Bool
  | [] => true
  | d :: ds => plD d && plDs ds
end
def isTp : D → Bool
  | .tup _ => true
  | _ => false
/-- it can be sorted -/
def sortOk (ds : List D) : Bool := plDs ds && (ds.all fun a => ds.all fun b => alike (encD a) (encD b)) && (ds.all isTp || ds.all fun a => !isTp a) && ds.all fun a => decide ((encD a).depth ≤ 8)
def leD (a b : D) : Bool := dataLe false encD a b
def gSort : List D → Option D
  | [.lst ds] => if sortOk ds then some (.lst (ds.mergeSort leD)) else none
  | [.tup ds] => if sortOk ds then some (.lst (ds.mergeSort leD)) else none
  | _ => none
section
variable {K : PySem.W.Frag} {U : Addr → Prop} {H : Hp}
mutual
theorem plD_dp : ∀ (d : D) (v : V), plD d = true → Rep K U H d v → Dp K H v (encD d)
  | .bl b, v, _, r => by cases r; exact .bl b
  | .int b, v, _, r => by cases r; exact .int b
  | .str b, v, _, r => by cases r; exact .str b
  | .tup ds, v, h, r => by
    obtain ⟨a, xs, rfl, ⟨h1, _⟩, rs⟩ := r
    exact .tup (.of h1) (plDs_dp ds xs h rs)
  | .lst ds, v, h, r => by
    obtain ⟨a, xs, rfl, ⟨h1, _⟩, rs⟩ := r
    exact .lst (.of h1) (plDs_dp ds xs h rs)
  | .non, _, h, _ => by simp [plD] at h
  | .dct _ _ _, _, h, _ => by simp [plD] at h
  | .obj _ _ _, _, h, _ => by simp [plD] at h
  | .fz _, _, h, _ => by simp [plD] at h
theorem plDs_dp : ∀ (ds : List D) (vs : List V), plDs ds = true → Reps K U H ds vs → DpAll K H vs (encDs ds)
  | [], _, _, r => by cases r; exact .nil
  | d :: ds, _, h, r => by
    obtain ⟨x, xs, rfl, r1, r2⟩ := r
    simp only [plDs, Bool.and_eq_true] at h
    exact .cons (plD_dp d x h.1 r1) (plDs_dp ds xs h.2 r2)
end
end
section
variable {X : Cx} {pins : List (Addr × Obj)} {σ : L2.St} {H : Hp} {s : Shared} {U : Addr → Prop}
theorem each_of : ∀ {ds : List D} {vs : List V} {us : List Value}, Reps X.K U H ds vs → Vals vs us → EachIs (fun u d => ∃ v, RelV v u ∧ Rep X.K U H d v) us ds
  | [], _, _, r, q => by cases r; cases q; exact .nil
  | d :: ds, _, _, r, q => by
    obtain ⟨x, xs, rfl, r1, r2⟩ := r
    cases q with
    | cons q1 q2 => exact .cons ⟨x, q1, r1⟩ (each_of r2 q2)
theorem of_each : ∀ {ds : List D} {us : List Value}, EachIs (fun u d => ∃ v, RelV v u ∧ Rep X.K U H d v) us ds → ∃ vs, Reps X.K U H ds vs ∧ Vals vs us
  | _, _, .nil => ⟨[], rfl, .nil⟩
  | _, _, .cons ⟨v, q, r⟩ t => by
    obtain ⟨vs, h1, h2⟩ := of_each t
    exact ⟨v :: vs, ⟨v, vs, rfl, r, h1⟩, .cons q h2⟩
end
end Mi

set_option Elab.async false
set_option linter.all false
set_option maxRecDepth 100000
set_option maxHeartbeats 4000000
/-! Mi28: sorted, of lists and tuples -/
namespace Mi
open PySem PySem.Spec PySem.Calls PySem.W PyProof.Rows L2
section
variable {prog : Program} {w : World} {A : Around} {E : Value → Shared → Prop} {s : Shared}
/-- a list or a tuple -/
def IsSeq (h : Heap) (l : Addr) (its : Array Value) : Prop := ∃ o n T, h.get? l = some o ∧ o.cls = .type T ∧ (T = "list" ∨ T = "tuple") ∧ o.data = .seq its n
theorem collect_seq {l : Addr} {vs : List Value} {Q : List Value → Shared → Prop} (hl : IsSeq s.heap l vs.toArray)
    (h : Q vs { s with heap := (s.heap.push (seqObj "list" #[] 0)).update s.heap.objs.size (Obj.mapSeq (· ++ vs.toArray)) }) (hsz : vs.length ≤ sizeLine) :
    wpAny (model prog w) A (collect (.ref l)) Q E s := by
  obtain ⟨o, n, T, ho, hc, hT, hd⟩ := hl
  unfold collect
  refine wpAny_bind (wpAny_runValue (codeAny_builtin entry_proto_collect' ?_))
  show wpAny _ _ (do again (.builtin "list.__iadd__" ⟨[← newList [], .ref l], []⟩)) _ _ s
  refine wpAny_bind (wpAny_newList (wpAny_pure ⟨Code.quiet_builtin _ (by decide +kernel), codeAny_builtin entry_list_iadd' ?_⟩))
  show wpAny _ _ (Builtin.List.listExtendWith (.ref s.heap.objs.size) (.ref l) (.ref s.heap.objs.size)) _ _ { s with heap := s.heap.push (seqObj "list" #[] 0) }
  unfold Builtin.List.listExtendWith
  have ho' : (s.heap.push (seqObj "list" #[] 0)).get? l = some o := Heap.get?_push_of_some _ ho
  refine wpAny_bind (wpAny_typeOf (T := T) ⟨o, ho', hc⟩ ?_)
  have h1 : (Value.type "list" == Value.type "list") = true := by rfl
  have h2 : (Value.type "tuple" == Value.type "tuple") = true := by rfl
  rw [if_pos (by rcases hT with rfl | rfl <;> simp [h1, h2])]
  refine wpAny_bind (listItems_at ho' hd ?_)
  refine wpAny_bind (listItems_at (xs := #[]) (n := 0) (Heap.get?_push_size _ rfl) rfl ?_)
  rw [if_neg (by simp)]
  refine wpAny_bind (listUpdate_at (xs := #[]) (n := 0) (Heap.get?_push_size _ rfl) rfl ?_ (Nat.zero_le _) (by show (#[] ++ vs.toArray).size ≤ sizeLine + 1; simp only [Array.size_append, List.size_toArray, List.length_nil]; omega))
  refine wpAny_pure ?_
  show wpAny (model prog w) A (do
      let o ← load s.heap.objs.size
      match o.data with
      | .seq xs _ => pure xs.toList
      | _ => unsupported "internal:collect") Q E { s with heap := (s.heap.push (seqObj "list" #[] 0)).update s.heap.objs.size (Obj.mapSeq (· ++ vs.toArray)) }
  refine wpAny_bind (wpAny_load (get?_update_seq (Heap.get?_push_size _ rfl) _) ?_)
  show wpAny _ _ (pure ((#[] : Array Value) ++ vs.toArray).toList) Q E _
  rw [show ((#[] : Array Value) ++ vs.toArray).toList = vs by simp]
  exact wpAny_pure h
theorem sorted_seq {l : Addr} {vs : List Value} {κ : KeyKind} {Q : Value → Shared → Prop} (hl : IsSeq s.heap l vs.toArray) (S : SortsAt prog w A.in1.in1 { s with heap := sortingHeap (copyHeap s.heap vs) (s.heap.objs.size + 1) vs } κ vs) (hL : vs.length ≤ sizeLine)
    (h : Q (.ref (s.heap.objs.size + 1)) { s with heap := sortedAll s.heap vs (sortVals κ false vs vs).toArray }) : wpAny (model prog w) A (call (.builtin "sorted") [.ref l]) Q E s := by
  refine call_function_entry kind_sorted plain_sorted entry_sorted (args_sorted1 _) ?_
  unfold Builtin.«sorted»
  refine wpAny_bind (m := checkCount "sorted" 1 1 _) (wpAny_pure ?_)
  refine wpAny_bind (collect_seq hl ?_ hL)
  refine wpAny_bind (wpAny_newList ?_ hL)
  have hsz : ((s.heap.push (seqObj "list" #[] 0)).update s.heap.objs.size (Obj.mapSeq (· ++ vs.toArray))).objs.size = s.heap.objs.size + 1 := by
    rw [Heap.size_update, size_push']
  show wpAny _ _ _ _ _ { s with heap := copyHeap s.heap vs }
  rw [hsz]
  refine wpAny_bind (wpAny_holding (wpAny_call_entry_kw slot_list_sort ⟨_, copyHeap_at s.heap vs, rfl⟩ entry_list_sort ?body (args_list_sort _)))
  case body =>
    show wpAny (model prog w) A.in1.in1 (Builtin.«list.sort» ⟨[.ref (s.heap.objs.size + 1)], []⟩) _ _ _
    exact list_sort_vals (s := { s with heap := copyHeap s.heap vs }) (copyHeap_at s.heap vs) S hL ⟨_, rfl, wpAny_pure ⟨_, rfl, h⟩⟩
end
def rSortM (K : PySem.W.Frag) : List V → Hp → VK → Prop := fun vs H Q => ∃ (U : Addr → Prop) (a : Addr) (xs : List V) (ds : List D), Al U H ∧ vs = [V.ref a] ∧ (SqL K H a xs ∨ SqT K H a xs) ∧ Reps K U H ds xs ∧ sortOk ds = true ∧
  ∀ (ys : List V) (p : Addr), Reps K U H (ds.mergeSort leD) ys → H p = none → Q (.ref p) (upd H p (.lst ys))
theorem encDs_map : ∀ ds : List D, encDs ds = ds.map encD
  | [] => by simp [encDs]
  | d :: ds => by simp [encDs, encDs_map ds]
theorem sortOk_of {ds : List D} (h : sortOk ds = true) : plDs ds = true ∧ AllAlike (ds.map encD) ∧ SortT (ds.map encD) ∧ ∀ d ∈ ds, (encD d).depth ≤ 8 := by
  simp only [sortOk, Bool.and_eq_true, List.all_eq_true, Bool.or_eq_true, decide_eq_true_eq] at h
  obtain ⟨⟨⟨h1, h2⟩, h3⟩, h4⟩ := h
  refine ⟨h1, fun d hd d' hd' => ?_, ?_, h4⟩
  · obtain ⟨x, hx, rfl⟩ := List.mem_map.mp hd
    obtain ⟨y, hy, rfl⟩ := List.mem_map.mp hd'
    exact h2 x hx y hy
  · have pl : ∀ d ∈ ds, plD d = true := by
      clear h2 h3 h4
      induction ds with
      | nil => intro d hd; cases hd
      | cons e ds ih =>
        simp only [plDs, Bool.and_eq_true] at h1
        intro d hd
        rcases List.mem_cons.mp hd with rfl | hd
        · exact h1.1
        · exact ih h1.2 d hd
    rcases h3 with h3 | h3
    · refine .inl fun d hd => ?_
      obtain ⟨x, hx, rfl⟩ := List.mem_map.mp hd
      have := h3 x hx
      cases x <;> simp [isTp] at this
      exact ⟨_, by rw [encD]⟩
    · refine .inr fun d hd => ?_
      obtain ⟨x, hx, rfl⟩ := List.mem_map.mp hd
      have h5 := h3 x hx
      have h6 := pl x hx
      cases x <;> simp [isTp, plD, encD] at h5 h6 ⊢
section
variable {X : Cx}
theorem seq_list {h : Heap} {a : Addr} {its : Array Value} (p : h.IsList a its) : IsSeq h a its := by
  obtain ⟨o, ho, hc, n, hd⟩ := p
  exact ⟨o, n, "list", ho, hc, .inl rfl, hd⟩
theorem seq_tup {h : Heap} {a : Addr} {its : Array Value} (p : h.IsTuple a its) : IsSeq h a its := by
  obtain ⟨o, ho, hc, n, hd⟩ := p
  exact ⟨o, n, "tuple", ho, hc, .inr rfl, hd⟩
theorem cr_sortM (hu : X.A.units + 64 < cLine) : CallR X (.builtin "sorted") (rSortM X.K) := by
  intro pins s σ H vs us Q I r h
  obtain ⟨U, a, xs, ds, al, rfl, hs, rs, ok, q⟩ := h
  obtain ⟨hp, hal, hk, hd8⟩ := sortOk_of ok
  obtain ⟨its, rv, hl, hlen⟩ : ∃ its : List Value, Vals xs its ∧ IsSeq s.heap a its.toArray ∧ xs.length ≤ sizeLine := by
    rcases hs with hs | hs
    · obtain ⟨its, rv, hl, hz⟩ := I.list hs
      exact ⟨its, rv, seq_list hl.isList, hz⟩
    · obtain ⟨its, rv, hl, hz⟩ := I.tuple hs
      exact ⟨its, rv, seq_tup hl, hz⟩
  rw [Vals.ref1 r]
  have hn := rv.length
  have e := each_of rs rv
  have er0 : EachIs (fun u d => ∃ as, Reads s.heap u (encD d) as) its ds := by
    have : ∀ {ds : List D} {vs : List V} {us : List Value}, plDs ds = true → Reps X.K U H ds vs → Vals vs us → EachIs (fun u d => ∃ as, Reads s.heap u (encD d) as) us ds := by
      intro ds
      induction ds with
      | nil => intro vs us _ r q; cases r; cases q; exact .nil
      | cons d ds ih =>
        intro vs us h r q
        obtain ⟨x, xs, rfl, r1, r2⟩ := r
        simp only [plDs, Bool.and_eq_true] at h
        cases q with
        | cons q1 q2 => exact .cons (Dp.reads I _ _ _ (plD_dp d x h.1 r1) q1) (ih h.2 r2 q2)
    exact this hp rs rv
  have er : EachIs (fun u d => ∃ as, Reads (sortingHeap (copyHeap s.heap its) (s.heap.objs.size + 1) its) u (encD d) as) its ds := er0.mono fun _ _ ⟨as, r⟩ => ⟨as, PyProof.Rows.Reads.keeps (fun _ _ => sorting_copy_old) r⟩
  refine sorted_seq hl (sortsT (s := { s with heap := sortingHeap (copyHeap s.heap its) (s.heap.objs.size + 1) its }) (each_map (R := fun v d => ∃ as, Reads (sortingHeap (copyHeap s.heap its) (s.heap.objs.size + 1) its) v d as) encD er) hal hk (bound_map fun d hd => ?_)) (by omega) ?_
  · have := hd8 d hd
    have e1 : X.A.in1.in1.units = X.A.units + 2 := rfl
    omega
  · have ev := sortVals_data false e er hal
    obtain ⟨ys, h1, h2⟩ := of_each ev
    obtain ⟨ep, he'⟩ := PyProof.Rows.sortedAll_at s.heap its (sortVals (dataKind (sortingHeap (copyHeap s.heap its) (s.heap.objs.size + 1) its) (ds.map encD)) false its its).toArray
    have hlen2 : ys.length ≤ sizeLine := by
      have e1 := h1.len
      have e2 := rs.len
      have e3 : (ds.mergeSort (dataLe false encD)).length = ds.length := List.length_mergeSort ds
      omega
    exact ⟨.ref _, upd H (s.heap.objs.size + 1) (.lst ys), I.laid (t' := s.toks) (fun _ _ => PyProof.Rows.sortedAll_old) (Nat.le_succ _) ⟨hlen2, _, ep, h2, he'⟩, rfl, q ys _ h1 (I.hok.fresh (Nat.le_succ _))⟩
end
theorem n_sort {K : PySem.W.Frag} : SndN K gSort (rSortM K) := by
  intro U H xs ds z Q al r hz q
  match ds, hz, r with
  | [], hz, _ => cases hz
  | _ :: _ :: _, hz, _ => simp [gSort] at hz
  | [d], hz, r =>
    obtain ⟨x, rfl, rx⟩ := r.one
    cases d with
    | lst ds =>
      simp only [gSort] at hz
      split at hz
      · rename_i ok
        cases hz
        obtain ⟨a, vs, rfl, h, _, rs⟩ := rx.lst_sq
        exact ⟨U, a, vs, ds, al, rfl, .inl (.of h), rs, ok, fun ys p r hp => q _ _ (same_new hp) (rep_lst_new al hp r)⟩
      · cases hz
    | tup ds =>
      simp only [gSort] at hz
      split at hz
      · rename_i ok
        cases hz
        obtain ⟨a, vs, rfl, h, _, rs⟩ := rx.tup_sq
        exact ⟨U, a, vs, ds, al, rfl, .inr (.of h), rs, ok, fun ys p r hp => q _ _ (same_new hp) (rep_lst_new al hp r)⟩
      · cases hz
    | _ => simp [gSort] at hz
end Mi

set_option Elab.async false
set_option linter.all false
set_option maxRecDepth 100000
set_option maxHeartbeats 4000000
/-! Mi29: sum of lists and tuples -/
namespace Mi
open PySem PySem.Spec PySem.Calls PySem.W PyProof.Rows L2
section
variable {prog : Program} {w : World} {A : Around} {E : Value → Shared → Prop} {s : Shared}
theorem sum_rawT {l : Addr} {its : List Value} {ns : List Int} {Q : Value → Shared → Prop} (hh : A.handled = none) (hl : s.heap.IsTuple l its.toArray) (hi : IntsAre its ns)
    (h : ∀ h' tk t', (∀ b o, s.heap.get? b = some o → h'.get? b = some o) → Q (.int ns.sum t') { s with heap := h', toks := tk }) : wpAny (model prog w) A (call (.builtin "sum") [.ref l]) Q E s := by
  obtain ⟨xs, e⟩ := hi.allInts.items
  have hn : numsOf (intItems xs).toList = ns := by rw [← e]; exact hi.numsOf
  rw [nums_intItems] at hn
  subst hn
  rw [e] at hl
  refine ktm_sumG hh hl fun h' tk t' hk => ?_
  have q := h h' tk t' hk
  rw [preSum_eq, List.take_of_length_le (by simp)]
  exact q
end
def rSumM (K : PySem.W.Frag) : List V → Hp → VK → Prop := fun vs H Q => ∃ (a : Addr) (ns : List Int), vs = [V.ref a] ∧ (SqL K H a (ns.map V.int) ∨ SqT K H a (ns.map V.int)) ∧ Q (.int ns.sum) H
theorem cr_sumM {X : Cx} (hc : X.calm = true) : CallR X (.builtin "sum") (rSumM X.K) := by
  intro pins s σ H vs us Q I r h
  obtain ⟨a, ns, rfl, hs, q⟩ := h
  rcases hs with hs | hs
  · exact cr_sum hc pins s σ H _ us Q I r ⟨a, ns, rfl, hs, q⟩
  · obtain ⟨its, rv, hl, _⟩ := I.tuple hs
    rw [Vals.ref1 r]
    exact sum_rawT (I.ok.hd hc) hl rv.ints fun h' tk t' hk => ⟨.int _, H, I.kept hk, ⟨_, rfl⟩, q⟩
theorem n_sum {K : PySem.W.Frag} : SndN K gSum (rSumM K) := by
  intro U H xs ds z Q al r hz q
  match ds, hz, r with
  | [], hz, _ => cases hz
  | _ :: _ :: _, hz, _ => simp [gSum] at hz
  | [d], hz, r =>
    obtain ⟨x, rfl, rx⟩ := r.one
    cases d with
    | lst ds =>
      simp only [gSum, Option.map_eq_some_iff] at hz
      obtain ⟨ns, e, rfl⟩ := hz
      obtain ⟨a, vs, rfl, h, _, rs⟩ := rx.lst_sq
      rw [intsD_v e rs] at h
      exact ⟨a, ns, rfl, .inl (.of h), q _ H (Same.refl H) rfl⟩
    | tup ds =>
      simp only [gSum, Option.map_eq_some_iff] at hz
      obtain ⟨ns, e, rfl⟩ := hz
      obtain ⟨a, vs, rfl, h, _, rs⟩ := rx.tup_sq
      rw [intsD_v e rs] at h
      exact ⟨a, ns, rfl, .inr (.of h), q _ H (Same.refl H) rfl⟩
    | _ => simp [gSum] at hz
end Mi

set_option Elab.async false
set_option linter.all false
set_option maxRecDepth 100000
set_option maxHeartbeats 4000000
/-! Mi30: properties -/
namespace Mi
open PySem PySem.Spec PyProof.Rows L2
section
variable {X : Cx} {W : WX} {k : Nat} {C p g a dx : Addr} {fs : List (Str × V)} {f : Str} {fd : FuncData} {ps : List Str} {sp : Sp} {e : Expr} {pos : Pos} {ta : TE}
theorem in1_guards {A : Around} : A.in1.guards = A.guards := rfl
theorem getpropG {pins : List (Addr × Obj)} {σ : L2.St} {H : Hp} {s : Shared} {Q : VK} {b : Bool} (I : Inv X pins σ H s) (ea : H a = some (.ins C dx fs)) (c : Cls X.K C) (hp : PropOf X.K C f p g)
    (F : FnG X.prog X.w X.K X.mg X.base k g fd ps sp) (co : Co X (k + 1)) (hb : Binds X.K fd ps []) (h : sp [.ref a] H Q fun _ _ _ => False) :
    wpAny (model X.prog X.w) X.A (getAttr (.ref a) f b) (EP X pins σ Q) X.xe s := by
  obtain ⟨mA, O, _, _, _, _⟩ := ins_get I.hok ea
  obtain ⟨od, J, _⟩ := O.look
  obtain ⟨rest, hrec⟩ := hp.rec_
  have I1 := I.tok (s.toks + 1)
  have hl : ([Value.ref a] ++ ([] : List Value)).length = ps.length := by
    rw [← F.len _ _ _ _ h]; rfl
  have hc : (PySem.W.clsIn X.K C).isSome = true := by
    obtain ⟨cd, hc, _⟩ := PySem.W.any_some c.hd
    rw [hc]
    rfl
  have bd := hb { s with toks := s.toks + 1 } [.ref a] I1.kIn hl
  rw [List.append_nil] at bd
  refine PySem.W.get_bind I.kIn J (PySem.W.plainGet_of (c.get f)).1 (PySem.W.findObj_data hc hp.at_ hp.get hp.tak) (PySem.W.plainGet_of (c.get f)).2 (wpAny_call (PySem.W.prop_get (s := { s with toks := s.toks + 1 }) I.kIn hrec ?_))
  refine codeAny_mono (F.run X.A.in1 X.stack { s with toks := s.toks + 1 } H ⟨[.ref a], []⟩ [.ref a] [.ref a] Q (fun _ _ _ => False) co.hr.in1 (in1_guards.trans co.hg) I1.env0.in1 bd (.cons rfl .nil) h) fun r s' hq => ?_
  cases r with
  | error er =>
    obtain ⟨_, _, _, _, _, _, _, _, _, _, _, _, _, _, _, _, z⟩ := XE.of_call (W := W0) I1 (fun _ _ _ z => z) hq
    exact z.elim
  | ok fl =>
    cases fl with
    | ret u =>
      obtain ⟨v, H', I3, rv, q3⟩ := I1.after hq
      show wpAny _ _ (handedOut u) _ _ _
      rw [PySem.W.handedOut_of (handed_of rv)]
      exact wpAny_pure ⟨v, H', I3, rv, q3⟩
    | next => exact False.elim hq
    | brk => exact False.elim hq
    | cont => exact False.elim hq
theorem pe_propG (he : PE X e ta) (c : Cls X.K C) (hp : PropOf X.K C f p g) (F : FnG X.prog X.w X.K X.mg X.base k g fd ps sp) (co : Co X (k + 1)) (hb : Binds X.K fd ps [])
    (hab : attributeBase e f X.env (eval e X.env) = eval e X.env) : PE X (.Attribute e f pos) (fun σ H Q => ta σ H fun x H1 => ∃ a dx fs, x = .ref a ∧ H1 a = some (.ins C dx fs) ∧ sp [x] H1 Q fun _ _ _ => False) := by
  refine ⟨fun pins s σ H Q I h => ?_⟩
  refine attr_of hab (thn (he.run pins s σ H _ I h) fun u s1 ⟨x, H1, I1, rx, a, dx, fs, ex, ea, q⟩ => ?_)
  subst ex
  obtain rfl : u = Value.ref a := rx
  exact getpropG I1 ea c hp F co hb q
end
def callV0 (m : En → Rs D) (ds : List D) (e : En) : Rs D := match m (ds.map Sl.v) with
  | .ok d _ => .ok d e
  | _ => .bad
/-- o.f, a property that raises nothing; o a value -/
def xProp (c : Str) (m : En → Rs D) (mo : En → Rs D) : En → Rs D := fun env => (mo env).bind fun d e1 => match d with
  | .obj c' _ _ => if c' = c then callV0 m [d] e1 else .bad
  | _ => .bad
section
variable {X : Cx} {W : WX} {k i : Nat} {c f : Str} {p g : Addr} {fd : FuncData} {ps : List Str} {o : Expr} {pos : Pos} {m mo : En → Rs D}
theorem ev_prop (cl : Cls X.K (He.ga X.K c)) (hp : PropOf X.K (He.ga X.K c) f p g) (F : FnG X.prog X.w X.K X.mg X.base k g fd ps (spM X.K 1 m)) (co : Co X (k + 1)) (hb : Binds X.K fd ps []) (he : Ev X W o mo)
    (hab : attributeBase o f X.env (eval o X.env) = eval o X.env := by rfl) : Ev X W (.Attribute o f pos) (xProp c m mo) :=
  PE_imp (pe_propG he cl hp F co hb hab) fun σ H Q ⟨U, env, sa, po⟩ => ⟨U, env, sa, Po.step po fun v H1 d e1 a r po1 => by
    have r : Rep X.K (Ux U e1 σ) H1 d v := r
    cases d with
    | obj c' ns vs0 =>
      simp only at po1
      by_cases hcc : c' = c
      · rw [if_pos hcc] at po1
        subst hcc
        have r0 := r
        obtain ⟨p, dx, xs, rfl, nu, h, hl, rs⟩ := r0
        refine ⟨p, dx, _, rfl, h, sp_vals (W := W0) a.sa (ds := [D.obj c' ns vs0]) ⟨_, _, rfl, r, rfl⟩ rfl ?_⟩
        unfold callV0 at po1
        cases hm : m ([D.obj c' ns vs0].map Sl.v) with
        | bad => rw [hm] at po1; exact po1.elim
        | er x e2 => rw [hm] at po1; exact po1.elim
        | ok z e2 => rw [hm] at po1; exact po1
      · rw [if_neg hcc] at po1; exact po1.elim
    | _ => exact po1.elim⟩
end
end Mi

set_option Elab.async false
set_option linter.all false
set_option maxRecDepth 100000
set_option maxHeartbeats 4000000
/-! Mi31: a hook that tells of properties, and of any further Bool -/
namespace Mi
open PySem PySem.Spec PyProof.Rows L2 He
/-- a def that stands at an address told by the fragment -/
structure AtD where
  at_ : PySem.W.Frag → Addr
  d : DefD
def fnWA (K : PySem.W.Frag) (a : Addr) : FnW := match K.lookup a with
  | some ⟨_, _, .func fd, _⟩ => some (fd.name, fd.qualname, fd.params, fd.body, fd.scope, fd.globals, fd.closure, fd.builtins)
  | _ => none
def AtD.ok (K : PySem.W.Frag) (p : AtD) : Bool := PySem.W.keepIn K (.ref (p.at_ K)) && (match K.lookup (p.at_ K) with
  | some ⟨_, _, .func fd, _⟩ => PySem.W.codeIn K fd.code p.d.qual && (dflB K fd.defaults (p.d.dvs K) && kwdB K fd.kwdefaults (p.d.kws K))
  | _ => false)
theorem AtD.funD {K : PySem.W.Frag} {p : AtD} (e : fnWA K (p.at_ K) = p.d.val) (c : p.ok K = true) : ∃ fd, FunD K p.d.name p.d.qual p.d.params p.d.body p.d.scope (p.d.dvs K) (p.d.kws K) (p.at_ K) fd := by
  obtain ⟨at_, d⟩ := p
  obtain ⟨kp, c2⟩ := ba c
  unfold fnWA at e
  dsimp only at e c2 kp ⊢
  cases q : K.lookup (at_ K) with
  | none =>
    rw [q] at c2
    cases c2
  | some o =>
    obtain ⟨oc, od, dt, osl⟩ := o
    rw [q] at c2 e
    cases dt with
    | func fd =>
      obtain ⟨n1, n2, n3, n4, n5, n6, n7, n8, n9, n10, n11, n12, n13, n14, n15⟩ := fd
      have e2 : (some (n1, n2, n3, n4, n5, n6, n7, n15) : FnW) = some (d.name, d.qual, d.params, .stmts d.body, d.scope, mainGlobals, [], builtinsNs) := e
      simp only [Option.some.injEq, Prod.mk.injEq] at e2
      obtain ⟨h1, h2, h3, h4, h5, h6, h7, h8⟩ := e2
      subst h1 h2 h3 h4 h5 h6 h7 h8
      have c3 : (PySem.W.codeIn K n13 d.qual && (dflB K n8 (d.dvs K) && kwdB K n9 (d.kws K))) = true := c2
      obtain ⟨k1, k2⟩ := ba c3
      obtain ⟨k3, k4⟩ := ba k2
      exact ⟨_, ⟨oc, od, n8, n9, n10, n11, n12, n13, n14, osl, rfl, q, k1, dflB_ok k3, kwdB_ok k4⟩, kp⟩
    | _ => cases c2
/-- the property f of the class c; its getter -/
def prP (K : PySem.W.Frag) (c f : Str) : Addr := match PySem.W.findIn K (.ref (ga K c)) f with
  | some (some (.ref p)) => p
  | _ => 0
def prG (c f : Str) (K : PySem.W.Frag) : Addr := match PySem.W.recIn K (prP K c f) "property" with
  | some (.ref g :: _) => g
  | _ => 0
def prB (K : PySem.W.Frag) (c f : Str) : Bool := eqO (PySem.W.findIn K (.ref (ga K c)) f) (some (some (.ref (prP K c f)))) && (eqO (PySem.W.specialIn K (.ref (prP K c f)) "__get__") (some (some (.builtin "property.__get__"))) &&
  (decide (PySem.W.takesIn K (.ref (prP K c f)) = some true) && match PySem.W.recIn K (prP K c f) "property" with
    | some (.ref g :: _) => decide (g = prG c f K)
    | _ => false))
theorem prB_ok {K : PySem.W.Frag} {c f : Str} (h : prB K c f = true) : PropOf K (ga K c) f (prP K c f) (prG c f K) := by
  obtain ⟨h1, h⟩ := ba h
  obtain ⟨h2, h⟩ := ba h
  obtain ⟨h3, h4⟩ := ba h
  refine ⟨eqO_ok h1, eqO_ok h2, of_decide_eq_true h3, ?_⟩
  cases e : PySem.W.recIn K (prP K c f) "property" with
  | none => rw [e] at h4; cases h4
  | some l =>
    rw [e] at h4
    cases l with
    | nil => cases h4
    | cons v t =>
      cases v with
      | ref g =>
        have q := of_decide_eq_true h4
        exact ⟨t, by rw [q]⟩
      | _ => cases h4
/-! ### the hook -/
abbrev AlP : Type := AlD × Bool × List FnW
def obsP (fa : List Fa) (fn : List DefD) (ps : List AtD) (ex : PySem.W.Frag → Bool) (K : PySem.W.Frag) : AlP := (obsD fa fn K, (ps.all fun p => p.ok K) && ex K, ps.map fun p => fnWA K (p.at_ K))
def valP (fn : List DefD) (ps : List AtD) : AlP := (valD fn, true, ps.map fun p => p.d.val)
structure SaysP (fa : List Fa) (fn : List DefD) (ps : List AtD) (ex : PySem.W.Frag → Bool) (K : PySem.W.Frag) : Prop where
  eq : obsP fa fn ps ex K = valP fn ps
def obsPG (n : Nat) (fa : List Fa) (fn : List DefD) (ps : List AtD) (ex : PySem.W.Frag → Bool) (g : Addr → Option Obj) : AlP := obsP fa fn ps ex (frG g (asD g n))
def hookP (n : Nat) (fa : List Fa) (fn : List DefD) (ps : List AtD) (ex : PySem.W.Frag → Bool) : PySem.W.Hook where
  α := AlP
  obs := fun s => obsPG n fa fn ps ex s.heap.get?
  val := fun _ => valP fn ps
  says := fun _ h => ∃ K : PySem.W.Frag, K.In h ∧ SaysP fa fn ps ex K
  of := fun _ _ e => ⟨_, frG_in, ⟨e⟩⟩
  keeps := fun _ _ _ ⟨K, hK, c⟩ k => ⟨K, PySem.W.Frag.In.keeps hK k, c⟩
theorem obsPG_eq {n : Nat} {fa : List Fa} {fn : List DefD} {ps : List AtD} {ex : PySem.W.Frag → Bool} {g : Addr → Option Obj} {s : Shared} (h : ∀ a, g a = s.heap.get? a) : obsPG n fa fn ps ex g = (hookP n fa fn ps ex).obs s := by
  have e : g = s.heap.get? := funext h
  rw [e] <;> rfl
section
variable {fa : List Fa} {fn : List DefD} {ps : List AtD} {ex : PySem.W.Frag → Bool} {K : PySem.W.Frag}
theorem SaysP.d (c : SaysP fa fn ps ex K) : SaysD fa fn K := congrArg (fun z : AlP => z.1) c.eq
theorem SaysP.fact (c : SaysP fa fn ps ex K) (i : Nat) {f : Fa} (h : fa[i]? = some f := by rfl) : f.ok K = true := c.d.fact i h
theorem SaysP.def_ (c : SaysP fa fn ps ex K) (i : Nat) {d : DefD} (h : fn[i]? = some d := by rfl) : ∃ fd, FunD K d.name d.qual d.params d.body d.scope (d.dvs K) (d.kws K) (fAd K d.at_) fd := c.d.def_ i h
theorem SaysP.more (c : SaysP fa fn ps ex K) : ex K = true := (ba (congrArg (fun z : AlP => z.2.1) c.eq)).2
theorem SaysP.at_ (c : SaysP fa fn ps ex K) (i : Nat) {p : AtD} (h : ps[i]? = some p := by rfl) : ∃ fd, FunD K p.d.name p.d.qual p.d.params p.d.body p.d.scope (p.d.dvs K) (p.d.kws K) (p.at_ K) fd := by
  have c2 := (ba (congrArg (fun z : AlP => z.2.1) c.eq)).1
  have e : (ps.map fun p => fnWA K (p.at_ K)) = ps.map fun p => p.d.val := congrArg (fun z : AlP => z.2.2) c.eq
  have e2 : (ps.map fun p => fnWA K (p.at_ K))[i]? = (ps.map fun p => p.d.val)[i]? := by rw [e]
  rw [List.getElem?_map, List.getElem?_map, h] at e2
  exact AtD.funD (Option.some.inj e2) (List.all_eq_true.mp c2 p (List.mem_of_getElem? h))
end
end Mi

set_option Elab.async false
set_option linter.all false
set_option maxRecDepth 100000
set_option maxHeartbeats 4000000
/-! Mi32: dict(zip(a, b)), over lists, tuples and texts -/
namespace Mi
open PySem PySem.Spec PyProof.Rows L2
section
variable {prog : Program} {w : World} {A : Around} {E : Value → Shared → Prop} {s : Shared} {z TI TO T i1 i2 : Addr} {f : Bool} {oT : Obj} {fp1 fp2 : List Addr} {n1 n2 i : Nat} {P1 P2 : Nat → Value → Prop} {St1 St2 : Nat → Heap → Prop}
theorem zipDH_item {Q : Value → Shared → Prop} (S : ZipSep2 z TI TO i1 i2 fp1 fp2) (D1 : Draws prog w A i1 fp1 n1 P1 St1) (D2 : Draws prog w A i2 fp2 n2 P2 St2)
    (hz : IsZipHeld s.heap z TI TO T f) (hT : s.heap.get? T = some oT) (hTI : IsTupOf2 s.heap TI (.ref i1) (.ref i2)) (st1 : St1 i s.heap) (st2 : St2 i s.heap) (hlt1 : i < n1) (hlt2 : i < n2)
    (hQ : ∀ x1 x2 h' tk, P1 i x1 → P2 i x2 → IsZipHeld h' z TI TO T true → St1 (i + 1) h' → St2 (i + 1) h' → IsTupOf2 h' s.heap.objs.size x1 x2 → h'.objs.size = s.heap.objs.size + 1 →
      (∀ c o, c ≠ z → c ≠ i1 → c ≠ i2 → s.heap.get? c = some o → h'.get? c = some o) → Q (.ref s.heap.objs.size) { s with heap := h', toks := tk }) :
    wpAny (model prog w) A (Builtin.«zip.__next__» ⟨[.ref z], []⟩) (fun fin s' => ∃ v, fin = .done (.ret v) ∧ Q v s') E s := by
  show wpAny _ _ (field (.ref z) 2 >>= _) _ _ _
  refine wpAny_bind (wpAny_field hz rfl (x := .bool false) rfl ?_)
  show wpAny _ _ (field (.ref z) 3 >>= _) _ _ _
  refine wpAny_bind (wpAny_field hz rfl (x := .ref TI) rfl ?_)
  refine wpAny_bind (wpAny_seqItems hTI rfl ?_)
  show wpAny _ _ (Builtin.SmallTypes.ownedTupleIsFree (.ref z) >>= _) _ _ _
  refine wpAny_bind (wpAny_tupleHeld_zip hz hT fun h₁ hz₁ hs₁ => ?_)
  simp only [Bool.false_eq_true, if_false]
  refine wpAny_bind ?_
  rw [← Array.forIn_toList]
  simp only [List.forIn_cons, List.forIn_nil]
  refine wpAny_bind (wpAny_bind (wpAny_holding ?_))
  show wpAny _ _ (Builtin.SmallTypes.nextOf (.ref i1) >>= _) _ _ _
  refine wpAny_bind (D1.item i { s with heap := h₁ } _ _ hlt1 (D1.over st1 hs₁ S.zf1) fun x1 h₂ tk2 hx1 sn1 hs₂ => wpAny_pure ?_)
  refine wpAny_pure ?_
  refine wpAny_bind (wpAny_bind (wpAny_holding ?_))
  show wpAny _ _ (Builtin.SmallTypes.nextOf (.ref i2) >>= _) _ _ _
  replace hs₂ : Heap.SameBut i1 h₁ h₂ := hs₂
  refine wpAny_bind (D2.item i { s with heap := h₂, toks := tk2 } _ _ hlt2 (D2.over (D2.over st2 hs₁ S.zf2) hs₂ S.sep1_2) fun x2 h₃ tk3 hx2 sn2 hs₃ => wpAny_pure ?_)
  replace hs₃ : Heap.SameBut i2 h₂ h₃ := hs₃
  refine wpAny_pure (wpAny_pure ?_)
  show wpAny _ _ (newTuple [x1, x2] >>= _) _ _ _
  refine wpAny_bind (wpAny_newTuple ?_)
  have hsz : h₃.objs.size = s.heap.objs.size := by rw [hs₃.1, hs₂.1, hs₁.1]
  have hz₃ : IsZipHeld h₃ z TI TO T true := hs₃.extBut _ _ S.zi2 (hs₂.extBut _ _ S.zi1 hz₁)
  have hk : ∀ c o, c ≠ z → c ≠ i1 → c ≠ i2 → s.heap.get? c = some o → h₃.get? c = some o := fun c o c1 c2 c3 e => hs₃.extBut _ _ c3 (hs₂.extBut _ _ c2 (hs₁.extBut _ _ c1 e))
  have hj1 : St1 (i + 1) h₃ := D1.over sn1 hs₃ S.sep2_1
  refine wpAny_pure ⟨_, rfl, ?_⟩
  show Q (.ref h₃.objs.size) _
  have hp : IsTupOf2 (h₃.push { cls := .type "tuple", data := .seq #[x1, x2] }) h₃.objs.size x1 x2 := Heap.get?_push_size _ rfl
  have hz4 : (h₃.push { cls := .type "tuple", data := .seq #[x1, x2] }).objs.size = h₃.objs.size + 1 := Heap.size_push ..
  rw [hsz] at hp hz4 ⊢
  exact hQ x1 x2 _ tk3 hx1 hx2 (Heap.get?_push_of_some _ hz₃) (D1.frame _ _ _ hj1 fun b _ o e => Heap.get?_push_of_some _ e) (D2.frame _ _ _ sn2 fun b _ o e => Heap.get?_push_of_some _ e) hp hz4 fun c o c1 c2 c3 e => Heap.get?_push_of_some _ (hk c o c1 c2 c3 e)
theorem zipDH_end {Q : Fin → Shared → Prop} (S : ZipSep2 z TI TO i1 i2 fp1 fp2) (D1 : Draws prog w A i1 fp1 n1 P1 St1) (D2 : Draws prog w A i2 fp2 n2 P2 St2)
    (hz : IsZipHeld s.heap z TI TO T f) (hT : s.heap.get? T = some oT) (hTI : IsTupOf2 s.heap TI (.ref i1) (.ref i2)) (st1 : St1 i s.heap) (st2 : St2 i s.heap) (hle1 : i ≤ n1) (hle2 : i ≤ n2) (hend : i = n1 ∨ i = n2)
    (hE : ∀ h' tk e, (∀ c o, c ≠ z → c ≠ i1 → c ≠ i2 → s.heap.get? c = some o → h'.get? c = some o) → (∃ o, h'.get? e = some o ∧ o.cls = .type "StopIteration") → E (.ref e) { s with heap := h', toks := tk }) :
    wpAny (model prog w) A (Builtin.«zip.__next__» ⟨[.ref z], []⟩) Q E s := by
  show wpAny _ _ (field (.ref z) 2 >>= _) _ _ _
  refine wpAny_bind (wpAny_field hz rfl (x := .bool false) rfl ?_)
  show wpAny _ _ (field (.ref z) 3 >>= _) _ _ _
  refine wpAny_bind (wpAny_field hz rfl (x := .ref TI) rfl ?_)
  refine wpAny_bind (wpAny_seqItems hTI rfl ?_)
  show wpAny _ _ (Builtin.SmallTypes.ownedTupleIsFree (.ref z) >>= _) _ _ _
  refine wpAny_bind (wpAny_tupleHeld_zip hz hT fun h₁ hz₁ hs₁ => ?_)
  simp only [Bool.false_eq_true, if_false]
  refine wpAny_bind ?_
  rw [← Array.forIn_toList]
  simp only [List.forIn_cons, List.forIn_nil]
  refine wpAny_bind (wpAny_bind (wpAny_holding ?_))
  show wpAny _ _ (Builtin.SmallTypes.nextOf (.ref i1) >>= _) _ _ _
  by_cases hlt1 : i < n1
  · refine wpAny_bind (D1.item i { s with heap := h₁ } _ _ hlt1 (D1.over st1 hs₁ S.zf1) fun x1 h₂ tk2 hx1 sn1 hs₂ => wpAny_pure ?_)
    replace hs₂ : Heap.SameBut i1 h₁ h₂ := hs₂
    refine wpAny_pure ?_
    have hi2 : i = n2 := by omega
    refine wpAny_bind (wpAny_bind (wpAny_holding ?_))
    show wpAny _ _ (Builtin.SmallTypes.nextOf (.ref i2) >>= _) _ _ _
    refine wpAny_bind (D2.done { s with heap := h₂, toks := tk2 } _ _ (by rw [← hi2]; exact D2.over (D2.over st2 hs₁ S.zf2) hs₂ S.sep1_2) fun q e hq he => ?_)
    replace hq : Heap.ExtBut i2 h₂ q := hq
    exact hE q tk2 e (fun c o cz c1 c2 x => hq _ _ c2 (hs₂.extBut _ _ c1 (hs₁.extBut _ _ cz x))) he
  · have hi1 : i = n1 := by omega
    refine wpAny_bind (D1.done { s with heap := h₁ } _ _ (by rw [← hi1]; exact D1.over st1 hs₁ S.zf1) fun q e hq he => ?_)
    replace hq : Heap.ExtBut i1 h₁ q := hq
    exact hE q s.toks e (fun c o cz c1 c2 x => hq _ _ c1 (hs₁.extBut _ _ cz x)) he
theorem next_zipDH_item {Q : Option Value → Shared → Prop} (S : ZipSep2 z TI TO i1 i2 fp1 fp2) (D1 : Draws prog w A.in1 i1 fp1 n1 P1 St1) (D2 : Draws prog w A.in1 i2 fp2 n2 P2 St2)
    (hz : IsZipHeld s.heap z TI TO T f) (hT : s.heap.get? T = some oT) (hTI : IsTupOf2 s.heap TI (.ref i1) (.ref i2)) (st1 : St1 i s.heap) (st2 : St2 i s.heap) (hlt1 : i < n1) (hlt2 : i < n2)
    (hQ : ∀ x1 x2 h' tk, P1 i x1 → P2 i x2 → IsZipHeld h' z TI TO T true → St1 (i + 1) h' → St2 (i + 1) h' → IsTupOf2 h' s.heap.objs.size x1 x2 → h'.objs.size = s.heap.objs.size + 1 →
      (∀ c o, c ≠ z → c ≠ i1 → c ≠ i2 → s.heap.get? c = some o → h'.get? c = some o) → Q (some (.ref s.heap.objs.size)) { s with heap := h', toks := tk }) :
    wpAny (model prog w) A (pyNext (.ref z)) Q E s := by
  have hTy : s.TypeIs (.ref z) "zip" := ⟨_, hz, rfl⟩
  unfold pyNext
  exact wpAny_bind (wpAny_attempt (wpAny_callSpecial?_slot (name := Str.ofString "__next__") hTy F.slot_zip_next
    (wpAny_call_entry F.slot_zip_next hTy F.entry_zip_next
      (zipDH_item S D1 D2 hz hT hTI st1 st2 hlt1 hlt2 fun x1 x2 h' tk a1 a2 a3 a4 a5 a6 a7 a8 => wpAny_pure (hQ x1 x2 h' tk a1 a2 a3 a4 a5 a6 a7 a8)) (F.args_zip_next_1 _))))
theorem next_zipDH_end {Q : Option Value → Shared → Prop} (S : ZipSep2 z TI TO i1 i2 fp1 fp2) (D1 : Draws prog w A.in1 i1 fp1 n1 P1 St1) (D2 : Draws prog w A.in1 i2 fp2 n2 P2 St2)
    (hz : IsZipHeld s.heap z TI TO T f) (hT : s.heap.get? T = some oT) (hTI : IsTupOf2 s.heap TI (.ref i1) (.ref i2)) (st1 : St1 i s.heap) (st2 : St2 i s.heap) (hle1 : i ≤ n1) (hle2 : i ≤ n2) (hend : i = n1 ∨ i = n2)
    (hQ : ∀ h' tk, (∀ c o, c ≠ z → c ≠ i1 → c ≠ i2 → s.heap.get? c = some o → h'.get? c = some o) → Q none { s with heap := h', toks := tk }) : wpAny (model prog w) A (pyNext (.ref z)) Q E s := by
  have hTy : s.TypeIs (.ref z) "zip" := ⟨_, hz, rfl⟩
  unfold pyNext
  refine wpAny_bind (wpAny_attempt (wpAny_callSpecial?_slot (name := Str.ofString "__next__") hTy F.slot_zip_next
    (wpAny_call_entry F.slot_zip_next hTy F.entry_zip_next (zipDH_end S D1 D2 hz hT hTI st1 st2 hle1 hle2 hend fun h' tk e hk he => ?_) (F.args_zip_next_1 _))))
  obtain ⟨o, ho, hc⟩ := he
  refine wpAny_bind (wpAny_isInstance (T := "StopIteration") (b := true) ⟨o, ho, hc⟩ isSubtype_stop ?_)
  exact wpAny_pure (hQ _ _ hk)
/-- a zip of two sources as what dict() takes -/
theorem pairArg_zip (S : ZipSep2 z TI TO i1 i2 fp1 fp2) (D1 : ∀ A : Around, A.handled = none → Draws prog w A i1 fp1 n1 P1 St1) (D2 : ∀ A : Around, A.handled = none → Draws prog w A i2 fp2 n2 P2 St2) :
    PairArg prog w "zip" z (z :: TI :: TO :: (fp1 ++ fp2)) [z, TO, i1, i2] (min n1 n2) (fun i k v => P1 i k ∧ P2 i v)
      (fun h => (IsZip h z TI TO .none ∧ IsTupOf2 h TI (.ref i1) (.ref i2) ∧ (∃ a b, IsTupOf2 h TO a b) ∧ St1 0 h ∧ St2 0 h) ∧ ∀ b ∈ fp1 ++ fp2, ∃ o, h.get? b = some o) where
  type := fun s ok => ⟨_, ok.1.1, rfl⟩
  notDict := by decide
  keep := fun h h' ok hk => by
    obtain ⟨⟨hz, hTI, ⟨a, b, hTO⟩, h1, h2⟩, hl⟩ := ok
    exact ⟨⟨hk _ _ hz, hk _ _ hTI, ⟨a, b, hk _ _ hTO⟩, (D1 {} rfl).frame _ _ _ h1 fun b _ o e => hk b o e, (D2 {} rfl).frame _ _ _ h2 fun b _ o e => hk b o e⟩, fun b hb => let ⟨o, e⟩ := hl b hb; ⟨o, hk _ _ e⟩⟩
  there := fun h ok b hb => by
    obtain ⟨⟨hz, hTI, ⟨a, c, hTO⟩, _, _⟩, hl⟩ := ok
    rcases List.mem_cons.mp hb with rfl | hb
    · exact ⟨_, hz⟩
    rcases List.mem_cons.mp hb with rfl | hb
    · exact ⟨_, hTI⟩
    rcases List.mem_cons.mp hb with rfl | hb
    · exact ⟨_, hTO⟩
    · exact hl b hb
  sub := fun b hb => by
    have m1 := S.mem1
    have m2 := S.mem2
    simp only [List.mem_cons, List.not_mem_nil, or_false] at hb
    rcases hb with rfl | rfl | rfl | rfl <;> simp [m1, m2]
  noKeys := fun A s Q E hA ok h => getAttrOr_miss_zip ok.1.1 rfl rfl rfl zip_no_keys (by decide +kernel) hA h
  iter := fun A s d Q E hA ok hd hdf h => by
    obtain ⟨⟨hz, hTI, ⟨a, b, hTO⟩, h1, h2⟩, hl⟩ := ok
    simp only [List.mem_cons, List.mem_append, not_or] at hdf
    obtain ⟨dz, dTI, dTO, df1, df2⟩ := hdf
    have di1 : d ≠ i1 := fun e => df1 (e ▸ S.mem1)
    have di2 : d ≠ i2 := fun e => df2 (e ▸ S.mem2)
    have F1 := D1 A.in1 hA
    have F2 := D2 A.in1 hA
    refine wpAny_pyIter_zip hz (h z [z, TO, i1, i2] (fun i h => IsTupOf2 h TI (.ref i1) (.ref i2) ∧ St1 i h ∧ St2 i h ∧
      ((IsZip h z TI TO .none ∧ ∃ a b, IsTupOf2 h TO a b) ∨ ∃ T f oT, IsZipHeld h z TI TO T f ∧ h.get? T = some oT ∧ T ≠ z ∧ T ≠ i1 ∧ T ≠ i2 ∧ T ≠ d)) s.heap s.toks ?_
      ⟨hTI, h1, h2, .inl ⟨hz, a, b, hTO⟩⟩ (fun _ _ e => e) fun b hb => .inl hb)
    exact {
      off := fun hm => by
        simp only [List.mem_cons, List.not_mem_nil, or_false] at hm
        rcases hm with e | e | e | e
        · exact dz e
        · exact dTO e
        · exact di1 e
        · exact di2 e
      frame := fun i h₁ h₂ st hk => by
        obtain ⟨hTI, h1, h2, hz⟩ := st
        refine ⟨hk _ _ (Ne.symm dTI) hTI, F1.frame _ _ _ h1 fun b hb o e => hk b o (fun q => df1 (q ▸ hb)) e, F2.frame _ _ _ h2 fun b hb o e => hk b o (fun q => df2 (q ▸ hb)) e, ?_⟩
        rcases hz with ⟨hz, a, b, hTO⟩ | ⟨T, f, oT, hz, hT, r1, r2, r3, r4⟩
        · exact .inl ⟨hk _ _ (Ne.symm dz) hz, a, b, hk _ _ (Ne.symm dTO) hTO⟩
        · exact .inr ⟨T, f, oT, hk _ _ (Ne.symm dz) hz, hk _ _ r4 hT, r1, r2, r3, r4⟩
      item := fun i s₁ Q₁ E₁ hi st hds hQ => by
        obtain ⟨hTI, h1, h2, hz⟩ := st
        have hix : i < n1 := Nat.lt_of_lt_of_le hi (Nat.min_le_left ..)
        have hiy : i < n2 := Nat.lt_of_lt_of_le hi (Nat.min_le_right ..)
        have lt : ∀ {c o}, s₁.heap.get? c = some o → s₁.heap.objs.size ≠ c := fun e => Nat.ne_of_gt (Heap.lt_size e)
        have e1 : s₁.heap.objs.size ≠ i1 := let ⟨_, e⟩ := F1.live _ _ h1; lt e
        have e2 : s₁.heap.objs.size ≠ i2 := let ⟨_, e⟩ := F2.live _ _ h2; lt e
        rcases hz with ⟨hz, a, b, hTO⟩ | ⟨T, f, oT, hz, hT, r1, r2, r3, r4⟩
        · refine wpAny_pyNext_zipD2_item S F1 F2 hz hTI hTO h1 h2 hix hiy fun x1 x2 h' tk p1 p2 a1 a2 a3 a4 a5 a6 hk => ?_
          exact hQ s₁.heap.objs.size _ _ h' tk ⟨p1, p2⟩ (.inl ⟨_, a5, rfl, _, rfl⟩)
            ⟨hk _ _ S.TIz S.TITO S.TIi1 S.TIi2 hTI, a3, a4, .inr ⟨s₁.heap.objs.size, false, _, a1, a5, lt hz, e1, e2, Nat.ne_of_gt hds⟩⟩
            fun c o hc e => hk c o (fun x => hc (by simp [x])) (fun x => hc (by simp [x])) (fun x => hc (by simp [x])) (fun x => hc (by simp [x])) e
        · refine next_zipDH_item S F1 F2 hz hT hTI h1 h2 hix hiy fun x1 x2 h' tk p1 p2 a1 a3 a4 a5 a6 hk => ?_
          exact hQ s₁.heap.objs.size _ _ h' tk ⟨p1, p2⟩ (.inl ⟨_, a5, rfl, _, rfl⟩)
            ⟨hk _ _ S.TIz S.TIi1 S.TIi2 hTI, a3, a4, .inr ⟨T, true, oT, a1, hk _ _ r1 r2 r3 hT, r1, r2, r3, r4⟩⟩
            fun c o hc e => hk c o (fun x => hc (by simp [x])) (fun x => hc (by simp [x])) (fun x => hc (by simp [x])) e
      done := fun s₁ Q₁ E₁ st hQ => by
        obtain ⟨hTI, h1, h2, hz⟩ := st
        have hend : min n1 n2 = n1 ∨ min n1 n2 = n2 := by omega
        rcases hz with ⟨hz, a, b, hTO⟩ | ⟨T, f, oT, hz, hT, r1, r2, r3, r4⟩
        · exact wpAny_pyNext_zipD2_end S F1 F2 hz hTI hTO h1 h2 (Nat.min_le_left ..) (Nat.min_le_right ..) hend fun h' tk hk => hQ h' tk fun c o hc e => hk c o (fun x => hc (by simp [x])) (fun x => hc (by simp [x])) (fun x => hc (by simp [x])) (fun x => hc (by simp [x])) e
        · exact next_zipDH_end S F1 F2 hz hT hTI h1 h2 (Nat.min_le_left ..) (Nat.min_le_right ..) hend fun h' tk hk => hQ h' tk fun c o hc e => hk c o (fun x => hc (by simp [x])) (fun x => hc (by simp [x])) (fun x => hc (by simp [x])) e }
end
end Mi

set_option Elab.async false
set_option linter.all false
set_option maxRecDepth 100000
set_option maxHeartbeats 4000000
/-! Mi33: dict(zip(a, b)) in the layer -/
namespace Mi
open PySem PySem.Spec PyProof.Rows L2
section
variable {X : Cx} {pins : List (Addr × Obj)} {σ : L2.St} {H : Hp} {s : Shared}
theorem seqSrc {a : Addr} {xs : List V} (I : Inv X pins σ H s) (h : SqL X.K H a xs ∨ SqT X.K H a xs) : ∃ (its : List Value) (o0 : Obj) (Hb : Heap → Prop), Vals xs its ∧ Begins (.ref a) o0 Hb ∧ Hb s.heap ∧ (∃ o, s.heap.get? a = some o) ∧
    ∀ it, a ≠ it → ∃ (fp : List Addr) (St : Nat → Heap → Prop), it ∈ fp ∧ (∀ b ∈ fp, b = it ∨ b = a) ∧ (∀ A : Around, A.handled = none → Draws X.prog X.w A it fp its.length (fun i v => its[i]? = some v) St) ∧
      ∀ h' : Heap, (∀ b o, s.heap.get? b = some o → h'.get? b = some o) → h'.get? it = some o0 → St 0 h' := by
  rcases h with h | h
  · obtain ⟨its, rv, p, hz⟩ := I.list h
    refine ⟨its, _, _, rv, begins_list a its.toArray, p.isList, (let ⟨o, e, _⟩ := p.isList; ⟨o, e⟩), fun it hne => ?_⟩
    have key := fun (A : Around) (hh : A.handled = none) => Draws.list (prog := X.prog) (w := X.w) (A := A) hh it a hne its.toArray
    refine ⟨[it, a], fun i h => h.IsListIter it a i ∧ h.IsList a its.toArray, by simp, fun b hb => by simpa using hb, fun A hh => ?_, fun h' k e => ?_⟩
    · have z := key A hh
      simp only [List.size_toArray, List.getElem?_toArray] at z
      exact z
    · exact ⟨⟨_, e, rfl, rfl⟩, p.isList.at fun o e => k _ _ e⟩
  · obtain ⟨its, rv, p, hz⟩ := I.tuple h
    refine ⟨its, _, _, rv, begins_tuple a its.toArray, p, (let ⟨o, e, _⟩ := p; ⟨o, e⟩), fun it hne => ?_⟩
    have key := fun (A : Around) (hh : A.handled = none) => Draws.tuple (prog := X.prog) (w := X.w) (A := A) hh it a hne its.toArray
    refine ⟨[it, a], fun i h => h.IsTupleIter it a i ∧ h.IsTuple a its.toArray, by simp, fun b hb => by simpa using hb, fun A hh => ?_, fun h' k e => ?_⟩
    · have z := key A hh
      simp only [List.size_toArray, List.getElem?_toArray] at z
      exact z
    · exact ⟨⟨_, e, rfl, rfl⟩, IsTup.keeps p fun b o e => k b o e⟩
/-- the abstract pairs that a zip of keys and values gives -/
def ZipKV (xs ys : List V) (kvs : List (Key × V)) : Prop := xs.zip ys = kvs.map fun p => (kV p.1, p.2)
theorem zipKV_vals (P : Program) (wd : World) {xs ys : List V} {kvs : List (Key × V)} {us ws : List Value} (h : ZipKV xs ys kvs) (r : Vals xs us) (r2 : Vals ys ws) :
    ∃ prs : List (Key × Value), KV kvs prs ∧ prs.length = min us.length ws.length ∧ ∀ (i : Nat) (k v : Value), us[i]? = some k ∧ ws[i]? = some v → ∃ key, prs[i]? = some (key, v) ∧ keyIs key k = true := by
  unfold ZipKV at h
  induction r generalizing ys kvs ws with
  | nil =>
    cases kvs with
    | nil => exact ⟨[], .nil, by simp, fun i k v q => by simp at q⟩
    | cons p t => simp at h
  | @cons x u xs us r1 r ih =>
    cases r2 with
    | nil =>
      cases kvs with
      | nil => exact ⟨[], .nil, by simp, fun i k v q => by simp at q⟩
      | cons p t => simp at h
    | @cons y w ys ws r3 r4 =>
      cases kvs with
      | nil => simp at h
      | cons p kvs =>
        simp only [List.zip_cons_cons, List.map_cons, List.cons.injEq, Prod.mk.injEq] at h
        obtain ⟨⟨e1, e2⟩, h⟩ := h
        subst e1 e2
        obtain ⟨prs, q1, q2, q3⟩ := ih h r4
        refine ⟨(p.1, w) :: prs, .cons ⟨rfl, r3⟩ q1, by simp only [List.length_cons, q2]; omega, fun i k v q => ?_⟩
        cases i with
        | zero =>
          simp only [List.getElem?_cons_zero, Option.some.injEq] at q
          obtain ⟨rfl, rfl⟩ := q
          exact ⟨p.1, rfl, kV_is (P := P) (w := wd) r1⟩
        | succ i => exact q3 i k v (by simpa using q)
def tDZip (K : PySem.W.Frag) (ta : TA) : TE := fun σ H Q => ta σ H fun vs H1 => ∃ (a b : Addr) (xs ys : List V) (kvs : List (Key × V)), vs = [.ref a, .ref b] ∧ (SqL K H1 a xs ∨ SqT K H1 a xs) ∧ (SqL K H1 b ys ∨ SqT K H1 b ys) ∧ ZipKV xs ys kvs ∧ kvs.length ≤ 4000 ∧
  ∀ p, H1 p = none → Q (.ref p) (upd H1 p (.dK (mergeK [] kvs)))
theorem pe_dzip {e e2 : Expr} {p p2 pos pos2 : Pos} {ta : TA} (hc : X.calm = true) (hg : Gl X "zip") (hm : X.mg "zip" = none) (hgd : Gl X "dict") (hmd : X.mg "dict" = none) (ha : PA X [e, e2] ta)
    (hs : starEach [e, e2] X.env = (false, eval e X.env) :: starEach [e2] X.env := by rfl) (hpl : (backTo pos (starEach [e2] X.env)).any (·.1) = false := by rfl)
    (hs2 : starEach [.Call (.Name "zip" p) [e, e2] [] pos] X.env = (false, eval (.Call (.Name "zip" p) [e, e2] [] pos) X.env) :: starEach [] X.env := by rfl) (hpl2 : (backTo pos2 (starEach [] X.env)).any (·.1) = false := by rfl) :
    PE X (.Call (.Name "dict" p2) [.Call (.Name "zip" p) [e, e2] [] pos] [] pos2) (tDZip X.K ta) := by
  refine ⟨fun pins s σ H Q I h => ?_⟩
  refine wpAny_Call_Name_kw (ld_blt I hgd hmd PyProof.Rows.boot_dict ?_)
  refine PyProof.Rows.callWith_type1 ?_ hs2 hpl2
  rw [hs2]
  show wpAny _ _ (spliced ((false, eval (.Call (.Name "zip" p) [e, e2] [] pos) X.env) :: [])) _ _ s
  refine Calls.spliced_cons ?_
  refine PyProof.Rows.Call_ (ld_blt I hg hm PyProof.Rows.boot_zip (PyProof.Rows.callWith_type1 (thn (ha.run pos pins s σ H _ I h) fun us s1 ⟨vs, H1, I1, r1, q1⟩ => ?_) hs hpl))
  obtain ⟨a, b, xs, ys, kvs, ex, hx, hy, hz, hl, q⟩ := q1
  subst ex
  obtain ⟨u1, u2, rfl, rx, ry⟩ := vals2 r1
  cases rx
  cases ry
  obtain ⟨its, o1, Hb1, rv1, B1, hb1, ⟨oa, ea⟩, src1⟩ := seqSrc I1 hx
  have la := Heap.lt_size ea
  obtain ⟨its2, o2, Hb2, rv2, B2, hb2, ⟨ob, eb⟩, src2⟩ := seqSrc I1 hy
  have lb := Heap.lt_size eb
  refine zip_begins2 B1 B2 hb1 hb2 fun h' hz' hTI hTO h1 h2 hsz hk => ?_
  refine wpAny_pure ?_
  have ap : ZAp (s1.heap.objs.size + 4) (s1.heap.objs.size + 2) (s1.heap.objs.size + 3) s1.heap.objs.size (s1.heap.objs.size + 1) (.lst a) (.lst b) := by
    refine ⟨?_, fun c hc hm => ?_⟩
    · simp only [List.nodup_cons, List.mem_cons, List.mem_nil_iff, or_false, not_or]
      refine ⟨⟨?_, ?_, ?_, ?_⟩, ⟨?_, ?_, ?_⟩, ⟨?_, ?_⟩, ?_, ?_⟩ <;> first | omega | simp
    · have hl : c < s1.heap.objs.size := hc.elim (fun z => by rw [show c = a from z]; exact la) (fun z => by rw [show c = b from z]; exact lb)
      simp only [List.mem_cons, List.mem_nil_iff, or_false] at hm
      have hle : s1.heap.objs.size ≤ c := by
        rcases hm with q | q | q | q | q <;> rw [q] <;> first | exact Nat.le_add_right _ _ | exact Nat.le_refl _
      exact absurd hl (Nat.not_lt.mpr hle)
  obtain ⟨fp1, St1, m1, f1, D1, t1⟩ := src1 s1.heap.objs.size (Nat.ne_of_lt la)
  obtain ⟨fp2, St2, m2, f2, D2, t2⟩ := src2 (s1.heap.objs.size + 1) (Nat.ne_of_lt (Nat.lt_succ_of_lt lb))
  have S := ap.sep m1 m2 f1 f2
  obtain ⟨prs, kv1, kv2, kv3⟩ := zipKV_vals X.prog X.w hz rv1 rv2
  have hlen : kvs.length = prs.length := Paired.length kv1
  refine PySem.call_dict_pairs (knd := mixKind X.prog X.w) (kvs := prs) (pairArg_zip S D1 D2) (I.ok.hd hc) ⟨⟨hz', hTI, ⟨_, _, hTO⟩, t1 h' hk h1, t2 h' hk h2⟩, fun c hcm => ?_⟩ ⟨kv2, fun i key v r => kv3 i key v r⟩ ?_ fun h'' tk hd' k => ?_
  · rcases List.mem_append.mp hcm with hm | hm
    · rcases f1 c hm with e | e
      · rw [e]; exact ⟨_, h1⟩
      · rw [e]; exact ⟨_, hk _ _ ea⟩
    · rcases f2 c hm with e | e
      · rw [e]; exact ⟨_, h2⟩
      · rw [e]; exact ⟨_, hk _ _ eb⟩
  · rw [← kv2, ← hlen]
    have : 4000 < sizeLine := by decide
    omega
  · have hsm : (h'.objs.size == sysModules) = false := beq_eq_false_iff_ne.mpr (Nat.ne_of_gt (by rw [hsz]; exact Nat.lt_of_lt_of_le I1.big (Nat.le_add_right _ _)))
    have hle : s1.heap.objs.size ≤ h'.objs.size := by rw [hsz]; exact Nat.le_add_right _ _
    have hlen2 : (mergeK [] kvs).length ≤ sizeLine := by
      refine Nat.le_trans (length_mergeK kvs []) ?_
      have : 4000 < sizeLine := by decide
      simp only [List.length_nil]
      omega
    refine ⟨.ref h'.objs.size, upd H1 h'.objs.size (.dK (mergeK [] kvs)), I1.laid (t' := tk) (fun c o eo => k c o (fun hm => ?_) (hk c o eo)) hle (show ObjOk X.prog X.w _ _ _ (.dK (mergeK [] kvs)) from ⟨hlen2, hsm, merged [] prs, KV.merge kv1 .nil, hd'⟩), rfl, q _ (I1.hok.fresh hle)⟩
    have lt : c < s1.heap.objs.size := Heap.lt_size eo
    simp only [List.mem_cons, List.not_mem_nil, or_false] at hm
    rcases hm with z | z | z | z <;> rw [z] at lt <;> exact absurd lt (Nat.not_lt.mpr (by first | exact Nat.le_refl _ | exact Nat.le_add_right _ _))
end
end Mi

set_option Elab.async false
set_option linter.all false
set_option maxRecDepth 100000
set_option maxHeartbeats 4000000
/-! Mi34: dicts made by dict(..); targets in tuples; isinstance with own classes -/
namespace Mi
open PySem PySem.Spec L2
/-! ### new objects made by calls -/
def SndF (K : PySem.W.Frag) (g : List D → Option Ob) (r : List V → Hp → VK → Prop) : Prop := ∀ (U : Addr → Prop) (H : Hp) (xs : List V) (ds : List D) (o : Ob) (Q : VK), Al U H → Reps K U H ds xs → g ds = some o →
  (∀ p ho, H p = none → (∀ U' : Addr → Prop, (∀ a u, ¬ U a → H a = some u → ¬ U' a) → RepO K U' (upd H p ho) o p) → Q (.ref p) (upd H p ho)) → r xs H Q
def xNF (g : List D → Option Ob) (ma : En → Rs (List D)) : En → Rs Ob := fun env => (ma env).bind fun ds e => .of (g ds) e
section
variable {X : Cx} {W : WX} {e : Expr} {es : List Expr} {ma : En → Rs (List D)} {k : Nat} {pos : Pos}
theorem nf_core {g : List D → Option Ob} {r : List V → Hp → VK → Prop} (hs : SndF X.K g r) {U : Addr → Prop} {env : En} {σ : St} {H : Hp} {Q : VK} (po : PoN X.K W U env σ H (xNF g ma env) Q) : Po (RDs X.K) X.K W U env σ H (ma env) fun vs H1 => r vs H1 Q := by
  unfold xNF at po
  refine PoN.step po fun v H1 ds e1 a r1 po1 => ?_
  have r1 : Reps X.K (Ux U e1 σ) H1 ds v := r1
  cases hg : g ds with
  | none => rw [hg] at po1; exact po1.elim
  | some o =>
    rw [hg] at po1
    refine hs _ _ _ _ o _ a.sa.alU r1 hg fun p ho hp hr => ?_
    exact po1 p _ (Fre.new a.sa hp (hr _ fun x u n hx q => (ux_up.mp q).elim n fun z => by rw [z, hp] at hx; cases hx))
theorem ef_n {g : List D → Option Ob} {r : List V → Hp → VK → Prop} (hs : SndF X.K g r) (ha : EvN X W es k ma) (h : PE X e (tCB r (tA X.K W ma))) : EvF X W e (xNF g ma) :=
  PE_imp h fun σ H Q ⟨U, env, sa, po⟩ => ⟨U, env, sa, nf_core hs po⟩
end
/-! ### pairs -/
def keyPairs : List D → List D → Option (List (Key × D))
  | k :: ks, d :: ds => match keyOf k, keyPairs ks ds with
    | some k, some r => some ((k, d) :: r)
    | _, _ => none
  | _, _ => some []
def tupPairs : List D → Option (List (Key × D))
  | [] => some []
  | .tup [k, d] :: ds => match keyOf k, tupPairs ds with
    | some k, some r => some ((k, d) :: r)
    | _, _ => none
  | _ => none
def dctOf (ps : List (Key × D)) : List Ky × List D := ps.foldl (fun a p => putKy (kyOf p.1) p.2 a.1 a.2) ([], [])
theorem putKy_nd (k : Ky) (d : D) : ∀ (ks : List Ky) (vs : List D), ks.length = vs.length → ks.Nodup → (putKy k d ks vs).1.Nodup ∧ (∀ l ∈ (putKy k d ks vs).1, l = k ∨ l ∈ ks) ∧ (putKy k d ks vs).1.length = (putKy k d ks vs).2.length
  | [], [], _, _ => by simp [putKy]
  | [], v :: vs, h, _ => by simp at h
  | l :: ks, [], h, _ => by simp at h
  | l :: ks, v :: vs, h, nd => by
    have nd2 := List.nodup_cons.mp nd
    by_cases hk : l = k
    · simp [putKy, hk]
      rw [hk] at nd2
      exact ⟨⟨nd2.1, nd2.2⟩, by simpa using h⟩
    · obtain ⟨h1, h2, h3⟩ := putKy_nd k d ks vs (by simpa using h) nd2.2
      simp only [putKy, if_neg hk]
      refine ⟨List.nodup_cons.mpr ⟨fun z => ?_, h1⟩, fun m hm => ?_, by simpa using h3⟩
      · rcases h2 _ z with q | q
        · exact hk q
        · exact nd2.1 q
      · rcases List.mem_cons.mp hm with q | q
        · right; rw [q]; simp
        · rcases h2 _ q with q | q
          · exact .inl q
          · exact .inr (List.mem_cons_of_mem _ q)
section
variable {K : PySem.W.Frag} {U : Addr → Prop} {H : Hp}
theorem dctOf_rep : ∀ (ps : List (Key × D)) (ys : List V) (a : List Ky × List D) (kvs : List (Key × V)), Reps K U H (ps.map (·.2)) ys → a.1.Nodup → a.1.length = a.2.length → a.1.map kyK = kvs.map (fun p => some p.1) → Reps K U H a.2 (kvs.map (·.2)) →
    ∃ kvs', mergeK kvs ((ps.map (·.1)).zip ys) = kvs' ∧ (ps.foldl (fun a p => putKy (kyOf p.1) p.2 a.1 a.2) a).1.map kyK = kvs'.map (fun p => some p.1) ∧ Reps K U H (ps.foldl (fun a p => putKy (kyOf p.1) p.2 a.1 a.2) a).2 (kvs'.map (·.2))
  | [], ys, a, kvs, r, nd, hl, h1, h2 => ⟨kvs, rfl, h1, h2⟩
  | p :: ps, ys, a, kvs, ⟨y, t, e, r1, r2⟩, nd, hl, h1, h2 => by
    subst e
    obtain ⟨q1, q2⟩ := putKy_rep kyK kyOf (fun k => by cases k <;> rfl) (fun l k h => kyK_inv h) p.1 r1 a.1 a.2 kvs nd h1 h2
    obtain ⟨n1, _, n3⟩ := putKy_nd (kyOf p.1) p.2 a.1 a.2 hl nd
    exact dctOf_rep ps t (putKy (kyOf p.1) p.2 a.1 a.2) (putK kvs p.1 y) r2 n1 n3 q1 q2
theorem keyPairs_v : ∀ {ks ds : List D} {ps : List (Key × D)} {xs ys : List V}, keyPairs ks ds = some ps → Reps K U H ks xs → Reps K U H ds ys → ∃ zs : List V, Reps K U H (ps.map (·.2)) zs ∧ ZipKV xs ys ((ps.map (·.1)).zip zs) ∧ zs.length = ps.length
  | [], ds, ps, xs, ys, h, r1, r2 => by
    cases h
    rw [show xs = [] from r1]
    exact ⟨[], rfl, rfl, rfl⟩
  | k :: ks, [], ps, xs, ys, h, r1, r2 => by
    cases h
    rw [show ys = [] from r2]
    exact ⟨[], rfl, by simp [ZipKV], rfl⟩
  | k :: ks, d :: ds, ps, xs, ys, h, ⟨x, t, e, a1, a2⟩, ⟨y, u, e2, b1, b2⟩ => by
    subst e e2
    simp only [keyPairs] at h
    cases hk : keyOf k with
    | none => rw [hk] at h; cases h
    | some k0 =>
      cases hr : keyPairs ks ds with
      | none => rw [hk, hr] at h; cases h
      | some r =>
        rw [hk, hr] at h
        cases h
        obtain ⟨zs, z1, z2, z3⟩ := keyPairs_v hr a2 b2
        refine ⟨y :: zs, ⟨y, zs, rfl, b1, z1⟩, ?_, by simp [z3]⟩
        unfold ZipKV at z2 ⊢
        simp only [List.zip_cons_cons, List.map_cons, z2, keyOf_v hk a1]
end
/-! ### dict(zip(a, b)) -/
def gZipD : List D → Option Ob
  | [c, d] => match iterL c, iterL d with
    | some a, some b => (keyPairs a b).bind fun ps => if ps.length ≤ 4000 then some (.dct false (dctOf ps).1 (dctOf ps).2) else none
    | _, _ => none
  | _ => none
where iterL : D → Option (List D)
  | .lst ds => some ds
  | .tup ds => some ds
  | _ => none
theorem iterL_v {K : PySem.W.Frag} {U : Addr → Prop} {H : Hp} {d : D} {l : List D} {x : V} (h : gZipD.iterL d = some l) (r : Rep K U H d x) : ∃ a xs, x = .ref a ∧ (SqL K H a xs ∨ SqT K H a xs) ∧ Reps K U H l xs := by
  cases d with
  | lst ds =>
    cases h
    obtain ⟨a, xs, rfl, h, _, rs⟩ := r.lst_sq
    exact ⟨a, xs, rfl, .inl (.of h), rs⟩
  | tup ds =>
    cases h
    obtain ⟨a, xs, rfl, h, _, rs⟩ := r.tup_sq
    exact ⟨a, xs, rfl, .inr (.of h), rs⟩
  | _ => cases h
def rDZ (K : PySem.W.Frag) : List V → Hp → VK → Prop := fun vs H1 Q => ∃ (a b : Addr) (xs ys : List V) (kvs : List (Key × V)), vs = [.ref a, .ref b] ∧ (SqL K H1 a xs ∨ SqT K H1 a xs) ∧ (SqL K H1 b ys ∨ SqT K H1 b ys) ∧ ZipKV xs ys kvs ∧ kvs.length ≤ 4000 ∧
  ∀ p, H1 p = none → Q (.ref p) (upd H1 p (.dK (mergeK [] kvs)))
theorem nf_zip {K : PySem.W.Frag} : SndF K gZipD (rDZ K) := by
  intro U H xs ds o Q al r hg q
  match ds, hg, r with
  | [], hg, _ => cases hg
  | [_], hg, _ => cases hg
  | _ :: _ :: _ :: _, hg, _ => simp [gZipD] at hg
  | [c, d], hg, r =>
    obtain ⟨x, y, rfl, rx, ry⟩ := r.two
    simp only [gZipD] at hg
    cases ha : gZipD.iterL c with
    | none => rw [ha] at hg; cases hg
    | some a =>
      cases hb : gZipD.iterL d with
      | none => rw [ha, hb] at hg; cases hg
      | some b =>
        simp only [ha, hb, Option.bind_eq_some_iff, Option.ite_none_right_eq_some, Option.some.injEq] at hg
        obtain ⟨ps, hp, hl, rfl⟩ := hg
        obtain ⟨a1, xs1, rfl, s1, rs1⟩ := iterL_v ha rx
        obtain ⟨b1, ys1, rfl, s2, rs2⟩ := iterL_v hb ry
        obtain ⟨zs, z1, z2, z3⟩ := keyPairs_v hp rs1 rs2
        refine ⟨a1, b1, xs1, ys1, _, rfl, s1, s2, z2, ?_, fun p hpn => q p _ hpn fun U' hu => ?_⟩
        · simp only [List.length_zip, List.length_map, z3]; omega
        · obtain ⟨kvs', e, e1, e2⟩ := dctOf_rep (K := K) (U := U) (H := H) ps zs ([], []) [] z1 List.nodup_nil rfl rfl rfl
          replace e2 : Reps K U H (dctOf ps).2 (kvs'.map (·.2)) := e2
          replace e1 : (dctOf ps).1.map kyK = kvs'.map (fun p => some p.1) := e1
          refine ⟨kvs'.map (·.2), ⟨kvs', ?_, e1, rfl⟩, Reps.to (fun b u _ h => same_new hpn b u h) hu _ _ e2⟩
          rw [← e]; exact upd_same
section
variable {X : Cx} {W : WX} {e e2 : Expr} {ma : En → Rs (List D)} {p p2 pos pos2 : Pos}
theorem ef_dzip (hc : X.calm = true) (hm : X.mg "zip" = none) (hmd : X.mg "dict" = none) (ha : EvN X W [e, e2] 2 ma) (hg : Gl X "zip" := by rfl) (hgd : Gl X "dict" := by rfl)
    (hs : starEach [e, e2] X.env = (false, eval e X.env) :: starEach [e2] X.env := by rfl) (hpl : (backTo pos (starEach [e2] X.env)).any (·.1) = false := by rfl)
    (hs2 : starEach [.Call (.Name "zip" p) [e, e2] [] pos] X.env = (false, eval (.Call (.Name "zip" p) [e, e2] [] pos) X.env) :: starEach [] X.env := by rfl) (hpl2 : (backTo pos2 (starEach [] X.env)).any (·.1) = false := by rfl) :
    EvF X W (.Call (.Name "dict" p2) [.Call (.Name "zip" p) [e, e2] [] pos] [] pos2) (xNF gZipD ma) :=
  ef_n (es := [e, e2]) nf_zip ha (pe_dzip hc hg hm hgd hmd ha.pa hs hpl hs2 hpl2)
end
/-! ### dict(l), l a list of pairs or a dict -/
def gDictL : List D → Option Ob
  | [.lst ds] => (tupPairs ds).bind fun ps => if ps.length ≤ 4000 then some (.dct false (dctOf ps).1 (dctOf ps).2) else none
  | [.dct false ks vs] => some (.dct false ks vs)
  | _ => none
def rDL (K : PySem.W.Frag) : List V → Hp → VK → Prop := fun xs H Q => (∃ (a : Addr) (ps : List Addr) (kvs : List (Key × V)), xs = [.ref a] ∧ SqL K H a (ps.map V.ref) ∧ Paired (fun p kv => SqT K H p [kV kv.1, kv.2]) ps kvs ∧
    ∀ p, H p = none → Q (.ref p) (upd H p (.dK (mergeK [] kvs)))) ∨ ∃ (a : Addr) (kvs : List (Key × V)), xs = [.ref a] ∧ Rd H a (.dK kvs) ∧ ∀ p, H p = none → Q (.ref p) (upd H p (.dK kvs))
theorem cr_dictL {X : Cx} (hc : X.calm = true) : CallR X (.type "dict") (rDL X.K) := by
  intro pins s σ H xs us Q I r h
  rcases h with h | h
  · exact call_dictP hc pins s σ H xs us Q I r h
  · exact call_dictD pins s σ H xs us Q I r h
theorem tupPairs_v {K : PySem.W.Frag} {U : Addr → Prop} {H : Hp} : ∀ {ds : List D} {ps : List (Key × D)} {xs : List V}, tupPairs ds = some ps → Reps K U H ds xs →
    ∃ (as : List Addr) (zs : List V), xs = as.map V.ref ∧ Reps K U H (ps.map (·.2)) zs ∧ Paired (fun p kv => SqT K H p [kV kv.1, kv.2]) as ((ps.map (·.1)).zip zs)
  | [], ps, xs, h, r => by
    cases h
    rw [show xs = [] from r]
    exact ⟨[], [], rfl, rfl, .nil⟩
  | d :: ds, ps, xs, h, ⟨x, t, e, r1, r2⟩ => by
    subst e
    match d, h, r1 with
    | .tup [k, v], h, r1 =>
      simp only [tupPairs] at h
      cases hk : keyOf k with
      | none => rw [hk] at h; cases h
      | some k0 =>
        cases hr : tupPairs ds with
        | none => rw [hk, hr] at h; cases h
        | some r =>
          rw [hk, hr] at h
          cases h
          obtain ⟨as, zs, e1, z1, z2⟩ := tupPairs_v hr r2
          obtain ⟨a, ws, rfl, ha, _, rs⟩ := r1.tup_sq
          obtain ⟨x1, y1, rfl, rx, ry⟩ := rs.two
          refine ⟨a :: as, y1 :: zs, by simp [e1], ⟨y1, zs, rfl, ry, z1⟩, .cons (.of ?_) z2⟩
          rw [ha, keyOf_v hk rx]
theorem nf_dictL {K : PySem.W.Frag} : SndF K gDictL (rDL K) := by
  intro U H xs ds o Q al r hg q
  match ds, hg, r with
  | [.lst ds], hg, r =>
    simp only [gDictL, Option.bind_eq_some_iff, Option.ite_none_right_eq_some, Option.some.injEq] at hg
    obtain ⟨ps, hp, hl, rfl⟩ := hg
    obtain ⟨x, rfl, rx⟩ := r.one
    obtain ⟨a, ws, rfl, ha, _, rs⟩ := rx.lst_sq
    obtain ⟨as, zs, rfl, z1, z2⟩ := tupPairs_v hp rs
    refine .inl ⟨a, as, _, rfl, .of ha, z2, fun p hpn => q p _ hpn fun U' hu => ?_⟩
    obtain ⟨kvs', e, e1, e2⟩ := dctOf_rep (K := K) (U := U) (H := H) ps zs ([], []) [] z1 List.nodup_nil rfl rfl rfl
    replace e2 : Reps K U H (dctOf ps).2 (kvs'.map (·.2)) := e2
    replace e1 : (dctOf ps).1.map kyK = kvs'.map (fun p => some p.1) := e1
    refine ⟨kvs'.map (·.2), ⟨kvs', ?_, e1, rfl⟩, Reps.to (fun b u _ h => same_new hpn b u h) hu _ _ e2⟩
    rw [← e]; exact upd_same
  | [.dct false ks vs], hg, r =>
    cases hg
    obtain ⟨x, rfl, rx⟩ := r.one
    obtain ⟨a, ws, rfl, nu, hd, rs⟩ := rx
    obtain ⟨kvs, h1, h2, rfl⟩ := hd
    refine .inr ⟨a, kvs, rfl, h1, fun p hpn => q p _ hpn fun U' hu => ?_⟩
    exact ⟨kvs.map (·.2), ⟨kvs, upd_same, h2, rfl⟩, Reps.to (fun b u _ h => same_new hpn b u h) hu _ _ rs⟩
theorem ef_t {X : Cx} {W : WX} {T : String} {g : List D → Option Ob} {r : List V → Hp → VK → Prop} {e : Expr} {es : List Expr} {ma : En → Rs (List D)} {k : Nat} {x : Str} {p pos : Pos} (hc : CallR X (.type T) r) (hs : SndF X.K g r) (hm : X.mg x = none) (ha : EvN X W (e :: es) k ma) (hg : Gl X x := by rfl) (hv : bootBuiltins x = some (.type T) := by decide +kernel) (hn : x ≠ "__name__" := by decide) (hdb : (x == ("__debug__" : Str)) = false := by decide)
    (he : starEach (e :: es) X.env = (false, eval e X.env) :: starEach es X.env := by rfl) (hpl : (backTo pos (starEach es X.env)).any (·.1) = false := by rfl) : EvF X W (.Call (.Name x p) (e :: es) [] pos) (xNF g ma) :=
  ef_n hs ha (pe_callTy hc hg hm hv ha.pa hn hdb he hpl)
/-! ### a[k], .. = .. -/
def gStoK (i : Nat) (g : Ob → D → D → Option Ob) (kd : D) : D → En → Option En := fun d env => match env[i]? with
  | some s => match s.ob with
    | some o => (g o kd d).map fun o' => env.set i (s.put o')
    | none => none
  | none => none
theorem eg_sub {X : Cx} {tg : Expr} {i : Nat} {g : Ob → D → D → Option Ob} {t : TSet} {kd : D} {kv : V} (hg : Sto X.K g t) (hk : flatD kd = some kv) (h : PG X tg (L2.gSub (tVar i) (tC kv) t)) : EvG X tg [] (gStoK i g kd) :=
  PG_imp h fun v σ H Q ⟨U, env, d, env', sa, r, hm, q⟩ => by
    unfold gStoK at hm
    cases hi : env[i]? with
    | none => simp only [hi] at hm; cases hm
    | some s =>
      simp only [hi] at hm
      cases ho : s.ob with
      | none => simp only [ho] at hm; cases hm
      | some o =>
        simp only [ho, Option.map_eq_some_iff] at hm
        obtain ⟨o', hz, rfl⟩ := hm
        obtain ⟨p, ep, ro⟩ := sa.ob i s o hi ho
        refine ⟨.ref p, ep, ?_⟩
        refine hg _ H p o kd d kv v o' _ sa.alU (.inr ⟨i, s, o, hi, ho, ep⟩) ro (flat_rep hk) r hz fun hob ro' => ?_
        obtain ⟨st, _⟩ := Ste.write2 sa hi ho ep ro'
        exact q σ _ st ⟨rfl, fun _ _ => rfl⟩
/-! ### own classes: what isinstance asks -/
def tyNames : List String := ["NoneType", "bool", "int", "str", "tuple", "list", "dict"]
def insB (K : PySem.W.Frag) (c : Str) : Bool := (He.Fa.cls c).ok K && (He.eqO (PySem.W.findIn K (.ref (He.ga K c)) "__class__") (some (some (.builtin "object.__class__"))) &&
  (He.eqO (PySem.W.specialIn K (.builtin "object.__class__") "__get__") (some (some (.builtin "getset_descriptor.__get__"))) && (decide (PySem.W.takesIn K (.builtin "object.__class__") = some true) && decide (PySem.W.mroIn K (He.ga K c) (.type "object") = some true))))
def kitsB (K : PySem.W.Frag) (cs : List Str) : Bool := cs.all fun c => insB K c && (tyNames.all fun T => decide (PySem.W.kitOne K (.type T) (.ref (He.ga K c)) = some false) && decide (PySem.W.kitOne K (.ref (He.ga K c)) (.type T) = some false)) &&
  cs.all fun d => decide (PySem.W.kitOne K (.ref (He.ga K c)) (.ref (He.ga K d)) = some (decide (c = d)))
structure Kits (K : PySem.W.Frag) (cs : List Str) : Prop where
  b : kitsB K cs = true
section
variable {K : PySem.W.Frag} {cs : List Str} {U : Addr → Prop} {H : Hp}
theorem Kits.all (k : Kits K cs) {c : Str} (h : c ∈ cs) : insB K c = true ∧ (∀ T ∈ tyNames, PySem.W.kitOne K (.type T) (.ref (He.ga K c)) = some false ∧ PySem.W.kitOne K (.ref (He.ga K c)) (.type T) = some false) ∧
    ∀ d ∈ cs, PySem.W.kitOne K (.ref (He.ga K c)) (.ref (He.ga K d)) = some (decide (c = d)) := by
  have z := List.all_eq_true.mp (show (cs.all fun c => insB K c && (tyNames.all fun T => decide (PySem.W.kitOne K (.type T) (.ref (He.ga K c)) = some false) && decide (PySem.W.kitOne K (.ref (He.ga K c)) (.type T) = some false)) &&
    cs.all fun d => decide (PySem.W.kitOne K (.ref (He.ga K c)) (.ref (He.ga K d)) = some (decide (c = d)))) = true from k.b) c h
  simp only [Bool.and_eq_true, List.all_eq_true, decide_eq_true_eq] at z
  exact ⟨z.1.1, z.1.2, z.2⟩
theorem Kits.ty (k : Kits K cs) {c : Str} (h : c ∈ cs) {a dx : Addr} {fs : List (Str × V)} (e : H a = some (.ins (He.ga K c) dx fs)) : TyX K H (.ref a) (.ref (He.ga K c)) := by
  have z := (k.all h).1
  unfold insB at z
  obtain ⟨z1, z⟩ := He.ba z
  obtain ⟨z2, z⟩ := He.ba z
  obtain ⟨z3, z⟩ := He.ba z
  obtain ⟨z4, z5⟩ := He.ba z
  exact .base (.ins e (He.cls_ok z1) (He.eqO_ok z2) (He.eqO_ok z3) (of_decide_eq_true z4) (of_decide_eq_true z5))
/-- isinstance(e, c), c an own class -/
def isOwnD (cs : List Str) (c : Str) : D → Option Bool
  | .obj c' _ _ => if c' ∈ cs ∧ c ∈ cs then some (decide (c' = c)) else none
  | .fz _ => none
  | .dct true _ _ => none
  | _ => if c ∈ cs then some false else none
/-- isinstance(e, T), T built in, e maybe of an own class -/
def isAnyD (cs : List Str) (f : D → Option Bool) : D → Option Bool
  | .obj c _ _ => if c ∈ cs then some false else none
  | d => f d
theorem tyD_names {d : D} {t : String} (h : tyD d = some t) : t ∈ tyNames := by
  cases d with
  | dct u ks vs => cases u <;> simp [tyD] at h <;> subst h <;> simp [tyNames]
  | _ => simp [tyD] at h <;> subst h <;> simp [tyNames]
theorem isOwn_v (k : Kits K cs) {c : Str} {d : D} {b : Bool} {x : V} (h : isOwnD cs c d = some b) (r : Rep K U H d x) : ∃ t, TyX K H x t ∧ PySem.W.kitOne K t (.ref (He.ga K c)) = some b := by
  have other : ∀ t, tyD d = some t → isOwnD cs c d = (if c ∈ cs then some false else none) → ∃ t, TyX K H x t ∧ PySem.W.kitOne K t (.ref (He.ga K c)) = some b := fun t ht e => by
    rw [e, Option.ite_none_right_eq_some] at h
    obtain ⟨hc, hb⟩ := h
    cases hb
    exact ⟨_, tyD_v ht r, ((k.all hc).2.1 t (tyD_names ht)).1⟩
  cases d with
  | obj c' ns vs =>
    simp only [isOwnD, Option.ite_none_right_eq_some] at h
    obtain ⟨⟨h1, h2⟩, hb⟩ := h
    cases hb
    obtain ⟨a, dx, xs, rfl, _, e, _, _⟩ := r
    exact ⟨_, k.ty h1 e, (k.all h1).2.2 c h2⟩
  | fz ds => cases h
  | dct u ks vs =>
    cases u with
    | true => cases h
    | false => exact other _ rfl rfl
  | _ => exact other _ rfl rfl
theorem isAny_v (k : Kits K cs) {f : D → Option Bool} {T : String} (hT : T ∈ tyNames) (hf : IsT f T) {d : D} {b : Bool} {x : V} (h : isAnyD cs f d = some b) (r : Rep K U H d x) : ∃ t, TyX K H x t ∧ PySem.W.kitOne K t (.type T) = some b := by
  have other : isAnyD cs f d = f d → ∃ t, TyX K H x t ∧ PySem.W.kitOne K t (.type T) = some b := fun e => by
    rw [e] at h
    obtain ⟨t, h1, h2⟩ := hf d b h
    exact ⟨_, tyD_v h1 r, kit_ty h2⟩
  cases d with
  | obj c' ns vs =>
    simp only [isAnyD, Option.ite_none_right_eq_some] at h
    obtain ⟨h1, hb⟩ := h
    cases hb
    obtain ⟨a, dx, xs, rfl, _, e, _, _⟩ := r
    exact ⟨_, k.ty h1 e, ((k.all h1).2.1 T hT).2⟩
  | _ => exact other rfl
end
section
variable {X : Cx} {W : WX} {a c : Expr} {m : En → Rs D} {pos p : Pos} {cs : List Str} {T : String} {f : D → Option Bool} {cn : Str}
theorem ev_isO (k : Kits X.K cs) (ha : Ev X W a m) (hc : PE X c (tC (.ref (He.ga X.K cn)))) (hm : X.mg "isinstance" = none) (hg : Gl X "isinstance" := by rfl) (hs1 : starEach [a, c] X.env = (false, eval a X.env) :: starEach [c] X.env := by rfl) (hs2 : starEach [c] X.env = (false, eval c X.env) :: starEach [] X.env := by rfl)
    (hpl : (backTo pos (starEach [c] X.env)).any (·.1) = false := by rfl) : Ev X W (.Call (.Name "isinstance" p) [a, c] [] pos) (xIsi (isOwnD cs cn) m) :=
  PE_imp (pe_callB call_isi hg hm (by decide +kernel) (pa_cons ha (pa_cons hc pa_nil hs2) hs1) (he := hs1) (hpl := hpl)) fun σ H Q ⟨U, env, sa, po⟩ => ⟨U, env, sa, Po.step po fun v H1 d e1 a r po1 => by
    obtain ⟨z, hz, q⟩ := Po.of_some a.sa po1
    obtain ⟨b, hb, rfl⟩ := Option.map_eq_some_iff.mp hz
    obtain ⟨t, ht, hk⟩ := isOwn_v k hb r
    exact ⟨v, .ref (He.ga X.K cn), t, .ref (He.ga X.K cn), b, rfl, .own _, ht, hk, q _ H1 (Same.refl H1) rfl⟩⟩
theorem ev_isA (k : Kits X.K cs) (hf : IsT f T) (ha : Ev X W a m) (hc : PE X c (tC (.ty T))) (hm : X.mg "isinstance" = none) (hT : T ∈ tyNames := by decide) (hg : Gl X "isinstance" := by rfl) (hs1 : starEach [a, c] X.env = (false, eval a X.env) :: starEach [c] X.env := by rfl) (hs2 : starEach [c] X.env = (false, eval c X.env) :: starEach [] X.env := by rfl)
    (hpl : (backTo pos (starEach [c] X.env)).any (·.1) = false := by rfl) : Ev X W (.Call (.Name "isinstance" p) [a, c] [] pos) (xIsi (isAnyD cs f) m) :=
  PE_imp (pe_callB call_isi hg hm (by decide +kernel) (pa_cons ha (pa_cons hc pa_nil hs2) hs1) (he := hs1) (hpl := hpl)) fun σ H Q ⟨U, env, sa, po⟩ => ⟨U, env, sa, Po.step po fun v H1 d e1 a r po1 => by
    obtain ⟨z, hz, q⟩ := Po.of_some a.sa po1
    obtain ⟨b, hb, rfl⟩ := Option.map_eq_some_iff.mp hz
    obtain ⟨t, ht, hk⟩ := isAny_v k hT hf hb r
    exact ⟨v, .ty T, t, .type T, b, rfl, .ty T, ht, hk, q _ H1 (Same.refl H1) rfl⟩⟩
end
end Mi

set_option Elab.async false
set_option linter.all false
set_option maxRecDepth 100000
set_option maxHeartbeats 4000000
/-! Mi35: a, b = .. with new objects; sorted of a dict -/
namespace Mi
open PySem PySem.Spec PyProof.Rows L2
section
variable {K : PySem.W.Frag} {U : Addr → Prop} {env e1 e2 : En} {σ : L2.St} {H H1 H2 : Hp} {o : Ob} {p : Addr}
/-- a new object, then something else -/
theorem Fre.post (f : Fre K U env σ H e1 H1 o p) (st : Ste K (Up U p) e1 σ H1 e2 σ H2) : Fre K U env σ H e2 H2 o p where
  nw := f.nw
  nu := f.nu
  sa := st.sa
  gr := fun a u n h => st.gr a u (fun c => (f.fr a c).elim n fun z => by rw [h] at z; cases z) (f.gr a u n h)
  fr := fun a c => by
    rcases st.fr a c with q | q
    · exact f.fr a q
    · by_cases n : Chg env σ a
      · exact .inl n
      · refine .inr ?_
        cases z : H a with
        | none => rfl
        | some u =>
          rw [f.gr a u n z] at q
          cases q
  io := fun i u h => by
    obtain ⟨o1, h1⟩ := f.io i u h
    obtain ⟨o2, h2, _⟩ := st.io i o1 h1
    exact ⟨o2, h2⟩
  ob := RepO.to (fun a u n h => st.gr a u (fun c => n (.inr c)) h) (fun x u n h q => q.elim (fun z => n (.inl z)) fun c => (st.fr x c).elim (fun z => n (.inr z)) fun z => by rw [h] at z; cases z)
    (fun u h => st.gr p u (fun c => f.sa.nu p c (.inr rfl)) h) f.ob
/-- a slot for a new object -/
def ownAt (i : Nat) (o : Ob) (e : En) : Option En := match e[i]? with
  | some (.io _) => none
  | some _ => some (e.set i (.ow o))
  | none => none
theorem Fre.own2 {i : Nat} {e3 : En} (sa : SA K U env σ H) (f : Fre K U env σ H e1 H1 o p) (h : ownAt i o e1 = some e3) : Ste K U env σ H e3 (σ.set i (some (.ref p))) H1 ∧ ∀ d v, Rep K (Ux (Up U p) e1 σ) H1 d v → Rep K (Ux U e3 (σ.set i (some (.ref p)))) H1 d v := by
  unfold ownAt at h
  cases hi : e1[i]? with
  | none => rw [hi] at h; cases h
  | some s =>
    rw [hi] at h
    have hl := (List.getElem?_eq_some_iff.mp hi).1
    have key : (∀ o, e1[i]? ≠ some (.io o)) → e3 = e1.set i (.ow o) → Ste K U env σ H e3 (σ.set i (some (.ref p))) H1 ∧ ∀ d v, Rep K (Ux (Up U p) e1 σ) H1 d v → Rep K (Ux U e3 (σ.set i (some (.ref p)))) H1 d v := by
      rintro n rfl
      refine ⟨f.own sa hl n, fun d v r => Rep.to (fun _ _ _ q => q) (fun x u nx _ q => nx ?_) d v r⟩
      refine ux_up.mpr (q.elim (fun z => .inl (.inl z)) fun c => ?_)
      obtain ⟨j, s', q', h1, h2, h3⟩ := c
      by_cases e : i = j
      · subst e
        rw [List.getElem?_set_self (by rw [← f.sa.len]; exact hl)] at h3
        cases h3
        exact .inr rfl
      · rw [List.getElem?_set_ne e] at h1 h3
        exact .inl (.inr ⟨j, s', q', h1, h2, h3⟩)
    cases s with
    | io o' => cases h
    | un => cases h; exact key (fun o q => by rw [hi] at q; cases q) rfl
    | v d => cases h; exact key (fun o q => by rw [hi] at q; cases q) rfl
    | ow d => cases h; exact key (fun o q => by rw [hi] at q; cases q) rfl
end
def mParVF (i j : Nat) (m : En → Rs D) (n : En → Rs Ob) : En → Rs Fl := fun env => (m env).bind fun d e1 => (n e1).bind fun o e2 => match (ownAt j o e2).bind (gSet i d) with
  | some e3 => .ok .nx e3
  | none => .bad
def mParFV (i j : Nat) (n : En → Rs Ob) (m : En → Rs D) : En → Rs Fl := fun env => (n env).bind fun o e1 => (m e1).bind fun d e2 => match (ownAt i o e2).bind (gSet j d) with
  | some e3 => .ok .nx e3
  | none => .bad
def mParFF (i j : Nat) (n n2 : En → Rs Ob) : En → Rs Fl := fun env => (n env).bind fun o e1 => (n2 e1).bind fun o2 e2 => match (ownAt i o e2).bind (ownAt j o2) with
  | some e3 => .ok .nx e3
  | none => .bad
theorem set_comm {α : Type} {l : List α} {i j : Nat} {a b : α} (h : i ≠ j) : (l.set i a).set j b = (l.set j b).set i a := List.set_comm _ _ h
theorem two_chg {a : Addr} {K : PySem.W.Frag} {U : Addr → Prop} {env : En} {σ : L2.St} : (Up U a) a := .inr rfl
section
variable {X : Cx} {W : WX} {st : Stmt} {x1 x2 : Expr} {i j : Nat} {m : En → Rs D} {n n2 : En → Rs Ob}
theorem es_parVF (hij : i ≠ j) (h : ∀ ta, PA X [x1, x2] ta → PS X st (tPar i j ta)) (h1 : Ev X W x1 m) (h2 : EvF X W x2 n) (hs : starEach [x1, x2] X.env = (false, eval x1 X.env) :: starEach [x2] X.env := by rfl) (hs2 : starEach [x2] X.env = (false, eval x2 X.env) :: starEach [] X.env := by rfl) : EvS X W st (mParVF i j m n) :=
  PS_imp (h _ (pa_cons h1 (pa_cons h2 pa_nil hs2) hs)) fun Dn σ H ⟨U, env, sa, po⟩ => ⟨U, env, sa, PoS.step po fun v H1 d e1 a r po1 => by
    have r : Rep X.K (Ux U e1 σ) H1 d v := r
    refine ⟨U, e1, a.sa, ?_⟩
    cases hm : n e1 with
    | bad => rw [hm] at po1; exact po1
    | er x e2 => rw [hm] at po1; exact fun c dd H' st ex => po1 c dd σ H' st ex
    | ok o e2 =>
      rw [hm] at po1
      simp only [Rs.bind_ok] at po1
      intro p H2 f
      refine ⟨v, .ref p, rfl, ?_⟩
      cases ho : ownAt j o e2 with
      | none => rw [ho] at po1; exact po1.elim
      | some e3 =>
        obtain ⟨s3, keep⟩ := f.own2 a.sa ho
        cases hg : gSet i d e3 with
        | none => simp only [ho, Option.bind_some, hg] at po1; exact po1.elim
        | some e4 =>
          simp only [ho, Option.bind_some, hg] at po1
          have r2 : Rep X.K (Ux U e3 (σ.set j (some (.ref p)))) H2 d v := s3.rep a.sa r
          have s4 := gSet_ok s3.sa r2 hg
          rw [set_comm hij]
          exact po1 _ _ (s3.trans s4)⟩
theorem es_parFV (hij : i ≠ j) (h : ∀ ta, PA X [x1, x2] ta → PS X st (tPar i j ta)) (h1 : EvF X W x1 n) (h2 : Ev X W x2 m) (hs : starEach [x1, x2] X.env = (false, eval x1 X.env) :: starEach [x2] X.env := by rfl) (hs2 : starEach [x2] X.env = (false, eval x2 X.env) :: starEach [] X.env := by rfl) : EvS X W st (mParFV i j n m) :=
  PS_imp (h _ (pa_cons h1 (pa_cons h2 pa_nil hs2) hs)) fun Dn σ H ⟨U, env, sa, po⟩ => ⟨U, env, sa, by
    unfold mParFV at po
    cases hm : n env with
    | bad => rw [hm] at po; exact po
    | er x e1 => rw [hm] at po; exact fun c dd H' st ex => po c dd σ H' st ex
    | ok o e1 =>
      rw [hm] at po
      simp only [Rs.bind_ok] at po
      intro p H1 f
      refine ⟨Up U p, e1, f.sa, ?_⟩
      cases hm2 : m e1 with
      | bad => rw [hm2] at po; exact po
      | er x e2 =>
        rw [hm2] at po
        intro c dd H' st ex
        obtain ⟨s2, _⟩ := (f.post st).ste sa
        refine po c dd σ H' s2 ?_
        obtain ⟨q1, q2⟩ := ex
        refine ⟨q1, q2.imp id ?_⟩
        rintro ⟨y, xs, b1, b2, b3, r⟩
        exact ⟨y, xs, b1, b2, b3, Reps.to (fun _ _ _ q => q) (fun b u nb _ z => nb (ux_up.mpr (.inl z))) _ _ r⟩
      | ok d e2 =>
        rw [hm2] at po
        simp only [Rs.bind_ok] at po
        intro v H2 st r
        have r : Rep X.K (Ux (Up U p) e2 σ) H2 d v := r
        refine ⟨.ref p, v, rfl, ?_⟩
        have f2 := f.post st
        cases ho : ownAt i o e2 with
        | none => rw [ho] at po; exact po.elim
        | some e3 =>
          obtain ⟨s3, keep⟩ := f2.own2 sa ho
          cases hg : gSet j d e3 with
          | none => simp only [ho, Option.bind_some, hg] at po; exact po.elim
          | some e4 =>
            simp only [ho, Option.bind_some, hg] at po
            have s4 := gSet_ok s3.sa (keep d v r) hg
            exact po _ _ (s3.trans s4)⟩
end
/-! ### sorted(d) -/
theorem sortedS_pw : ∀ {l : List Str}, sortedS l = true → l.Pairwise fun a b => ¬ (b.cps.toList < a.cps.toList)
  | [], _ => .nil
  | [x], _ => by simp
  | x :: y :: r, h => by
    have h : (!ltCps y.cps.toList x.cps.toList && risingS y r) = true := h
    rw [Bool.and_eq_true, Bool.not_eq_true', ltCps_eq, decide_eq_false_iff_not] at h
    have ih := sortedS_pw (l := y :: r) h.2
    refine .cons (fun z hz => ?_) ih
    rcases List.mem_cons.mp hz with rfl | hz
    · exact h.1
    · have h2 := List.rel_of_pairwise_cons ih hz
      intro q
      exact h2 (Std.lt_of_lt_of_le q (Std.not_lt.mp h.1))
theorem str_eq {a b : Str} (h1 : ¬ (b.cps.toList < a.cps.toList)) (h2 : ¬ (a.cps.toList < b.cps.toList)) : a = b := by
  have e : a.cps.toList = b.cps.toList := Std.le_antisymm (Std.not_lt.mp h1) (Std.not_lt.mp h2)
  cases a; cases b
  simp at e
  rw [e]
theorem sortedS_uniq {ys ks : List Str} (p : ys.Perm ks) (h1 : sortedS ys = true) (h2 : sortedS ks = true) : ys = ks :=
  List.Perm.eq_of_pairwise (le := fun a b : Str => ¬ (b.cps.toList < a.cps.toList)) (fun a b _ _ q1 q2 => str_eq q1 q2) (sortedS_pw h1) (sortedS_pw h2) p
def strKs : List Ky → Option (List Str)
  | [] => some []
  | .str x :: r => (strKs r).map fun t => x :: t
  | _ => none
def gSortX : List D → Option D
  | [.dct false ks vs] => (strKs ks).bind fun t => if t.length < 64 ∧ sortedS t = true then some (.lst (t.map .str)) else none
  | ds => gSort ds
def rSortX (K : PySem.W.Frag) : List V → Hp → VK → Prop := fun xs H Q => rSortM K xs H Q ∨ ∃ (a : Addr) (kvs : List (Key × V)) (ks : List Str), xs = [.ref a] ∧ Rd H a (.dK kvs) ∧ kvs.map (·.1) = ks.map Sum.inr ∧ ks.length < 64 ∧
    ∀ ys p, ys.Perm ks → sortedS ys = true → H p = none → Q (.ref p) (upd H p (.lst (ys.map V.str)))
theorem cr_sortX {X : Cx} (hc : X.calm = true) (hu : X.A.units + 64 < cLine) : CallR X (.builtin "sorted") (rSortX X.K) := by
  intro pins s σ H xs us Q I r h
  rcases h with h | h
  · exact cr_sortM hu pins s σ H xs us Q I r h
  · exact call_sortedD hc pins s σ H xs us Q I r h
theorem strKs_v : ∀ {ks : List Ky} {t : List Str} {kvs : List (Key × V)}, strKs ks = some t → ks.map kyK = kvs.map (fun p => some p.1) → kvs.map (·.1) = t.map Sum.inr
  | [], t, kvs, h, e => by
    cases h
    cases kvs with
    | nil => rfl
    | cons p r => simp at e
  | k :: ks, t, [], h, e => by simp at e
  | k :: ks, t, p :: kvs, h, e => by
    cases k with
    | str x =>
      simp only [strKs, Option.map_eq_some_iff] at h
      obtain ⟨t', h', rfl⟩ := h
      simp only [List.map_cons, List.cons.injEq] at e
      rw [List.map_cons, List.map_cons, strKs_v h' e.2]
      have := e.1
      simp only [kyK, Option.some.injEq] at this
      rw [← this]
    | _ => simp [strKs] at h
theorem n_sortX {K : PySem.W.Frag} : SndN K gSortX (rSortX K) := by
  intro U H xs ds z Q al r hz q
  have old : gSort ds = some z → rSortX K xs H Q := fun h => .inl (n_sort U H xs ds z Q al r h q)
  match ds, hz, r with
  | [.dct false ks vs], hz, r =>
    simp only [gSortX, Option.bind_eq_some_iff, Option.ite_none_right_eq_some] at hz
    obtain ⟨t, ht, ⟨hl, hs⟩, hz⟩ := hz
    cases hz
    obtain ⟨x, rfl, rx⟩ := r.one
    obtain ⟨a, ws, rfl, nu, ⟨kvs, h1, h2, rfl⟩, rs⟩ := rx
    refine .inr ⟨a, kvs, t, rfl, h1, strKs_v ht h2, hl, fun ys p pm so hp => ?_⟩
    rw [sortedS_uniq pm so hs]
    exact q _ _ (same_new hp) (rep_lst_new al hp (reps_strs t))
  | [], hz, r => exact old hz
  | [.dct true _ _], hz, r => exact old hz
  | [.non], hz, r => exact old hz
  | [.bl _], hz, r => exact old hz
  | [.int _], hz, r => exact old hz
  | [.str _], hz, r => exact old hz
  | [.tup _], hz, r => exact old hz
  | [.lst _], hz, r => exact old hz
  | [.obj _ _ _], hz, r => exact old hz
  | [.fz _], hz, r => exact old hz
  | _ :: _ :: _, hz, r => exact old (by simpa [gSortX] using hz)
end Mi

set_option Elab.async false
set_option linter.all false
set_option maxRecDepth 100000
set_option maxHeartbeats 4000000
/-! Mi36: objects made, methods called, by keywords -/
namespace Mi
open PySem PySem.Spec L2
/-- the first one by place, the others by name -/
def KBM (K : PySem.W.Frag) (fd : FuncData) (ps ks : List Str) (pm : List Nat) : Prop := ∀ (s : Shared) (u : Value) (us : List Value), us.length = ks.length → BindsTo s fd ⟨[u], ks.zip us⟩ (ps.zip (u :: pick pm us))
theorem Fun.kbm {K : PySem.W.Frag} {x qual : Str} {st : Stmt} {f : Addr} {fd : FuncData} {ps ks : List Str} {pm : List Nat} (F : Fun K x qual st f fd)
    (h : ∀ (kV doc pmm : Value) (an : Option Addr) (cdv ct : Value) (u : Value) (us : List Value), us.length = ks.length → bindArgs (PySem.W.fnOf x qual (defArgs st) (defBody st) (defScope st) .none kV doc pmm an cdv ct) ⟨[u], ks.zip us⟩ = pure (ps.zip (u :: pick pm us))) : KBM K fd ps ks pm := by
  obtain ⟨oc, od, kV, doc, pmm, an, cdv, ct, osl, rfl, lk, hcd⟩ := F.ex
  exact fun s u us hl => .of_eq (h kV doc pmm an cdv ct u us hl)
structure EvKN (X : Cx) (W : WX) (kws : List Keyword) (n : Nat) (m : En → Rs (List D)) : Prop where
  pk : PK X kws (tA X.K W m)
  len : ∀ env ds e, m env = .ok ds e → ds.length = n
def xPick (pm : List Nat) (mq : En → Rs (List D)) : En → Rs (List D) := fun env => (mq env).bind fun as e => .ok (pick pm as) e
section
variable {X : Cx} {W : WX} {e : Expr} {kws : List Keyword} {m : En → Rs D} {mq : En → Rs (List D)} {n : Nat} {nm : Option Str} {kpos : Pos}
theorem ekn_nil : EvKN X W [] 0 xNil := ⟨PK_imp pk_nil fun σ H Q ⟨U, env, sa, po⟩ => po [] H (.refl sa) rfl, fun env ds e h => by cases h; rfl⟩
theorem ekn_val (h1 : Ev X W e m) (h2 : EvKN X W kws n mq) : EvKN X W (⟨nm, e, kpos⟩ :: kws) (n + 1) (xCons m mq) := by
  refine ⟨PK_imp (pk_cons h1 h2.pk) fun σ H Q ⟨U, env, sa, po⟩ => ⟨U, env, sa, Po.step po fun v H1 d e1 a r po1 => ⟨U, e1, a.sa, Po.step po1 fun vs H2 ds e2 a2 r2 po2 => ?_⟩⟩, fun env ds e h => ?_⟩
  · exact po2 _ _ (.refl a2.sa) ⟨v, vs, rfl, a2.rep a.sa r, r2⟩
  · obtain ⟨d, e1, _, h⟩ := Rs.bind_eq_ok h
    obtain ⟨ds', e2, h3, h⟩ := Rs.bind_eq_ok h
    cases h
    rw [List.length_cons, h2.len _ _ _ h3]
end
section
variable {K : PySem.W.Frag} {U : Addr → Prop} {H : Hp}
theorem Reps.pick {ds : List D} {vs : List V} (h : Reps K U H ds vs) : ∀ pm : List Nat, Reps K U H (Mi.pick pm ds) (Mi.pick pm vs)
  | [] => rfl
  | j :: pm => by
    have ih := Reps.pick h pm
    unfold Mi.pick at ih ⊢
    rw [List.filterMap_cons, List.filterMap_cons]
    cases ha : ds[j]? with
    | none =>
      have : vs[j]? = none := by
        rw [List.getElem?_eq_none_iff] at ha ⊢
        rw [h.len]
        exact ha
      rw [this]
      exact ih
    | some d =>
      obtain ⟨v, hv, q⟩ := h.get ha
      rw [hv]
      exact ⟨v, _, rfl, q, ih⟩
end
theorem pick_len {α : Type} {n : Nat} (l : List α) (hl : l.length = n) : ∀ (pm : List Nat), (∀ j ∈ pm, j < n) → (pick pm l).length = pm.length
  | [], _ => rfl
  | j :: pm, h => by
    have hj := h j List.mem_cons_self
    have ih := pick_len l hl pm fun q hq => h q (List.mem_cons_of_mem _ hq)
    unfold pick at ih ⊢
    rw [List.filterMap_cons, List.getElem?_eq_getElem (by omega)]
    simp only [List.length_cons, ih]
/-! ### C(k = e, ..) -/
section
variable {X : Cx} {W : WX} {k n : Nat} {C f : Addr} {fd : FuncData} {ps ks : List Str} {pm : List Nat} {sp : Sp}
theorem run_makeGK {pins : List (Addr × Obj)} {σ : St} {H : Hp} {s : Shared} {Q : VK} {us : List Value} {vs : List V} (M : Mk X.K C f) (F : FnG X.prog X.w X.K X.mg X.base k f fd ps sp) (c : Co X (k + 1)) (hb : KBM X.K fd ps ks pm) (tk : Takes X W)
    (I : Inv X pins σ H s) (r : Vals vs us) (hl : vs.length = ks.length)
    (h : ∀ x dx, H x = none → H dx = none → dx ≠ x → sp (.ref x :: pick pm vs) (upd (upd H dx (.own x)) x (.ins C dx [])) (fun v H2 => v = .non ∧ Q (.ref x) H2) fun cls d H' => W cls d σ H') :
    wpAny (model X.prog X.w) X.A (call (.ref C) [] (ks.zip us)) (EP X pins σ Q) X.xe s := by
  have at_ := h (s.heap.objs.size + 1) s.heap.objs.size (I.hok.fresh (Nat.le_succ _)) (I.hok.fresh (Nat.le_refl _)) (Nat.ne_of_lt (Nat.lt_succ_self _))
  have J := Inv.made (C := C) I
  have rel : Vals (V.ref (s.heap.objs.size + 1) :: pick pm vs) (Value.ref (s.heap.objs.size + 1) :: pick pm us) := .cons rfl (vals_pick r pm)
  have bd := hb { s with heap := (s.heap.push PySem.W.emptyDict).push (PySem.W.instObj C s.heap.objs.size) } (Value.ref (s.heap.objs.size + 1)) us (r.length.symm.trans hl)
  have go := F.run _ X.stack _ _ ⟨[Value.ref (s.heap.objs.size + 1)], ks.zip us⟩ (Value.ref (s.heap.objs.size + 1) :: pick pm us) _ _ _ (c.hr.make C [] (ks.zip us)) (make_guards.trans c.hg) (J.env0.make C [] (ks.zip us)) bd rel at_
  refine wpAny_call (make_map (f := f) I.kIn M.makes M.init (beq_iff_eq.mp M.fn) (codeAny_mono go fun r s' back => ?_))
  cases r with
  | error e => exact tk e s' (XE.of_call J (fun _ _ _ z => z) back)
  | ok fl =>
    cases fl with
    | ret u =>
      obtain ⟨v, H', J2, rv, ev, q⟩ := J.after back
      subst ev
      exact ⟨rv, ⟨V.ref (s.heap.objs.size + 1), H', J2, rfl, q⟩⟩
    | next => exact False.elim back
    | brk => exact False.elim back
    | cont => exact False.elim back
end
section
variable {X : Cx} {W : WX} {k n : Nat} {c x : Str} {f : Addr} {fd : FuncData} {ps ks : List Str} {pm : List Nat} {p pos : Pos} {kws : List Keyword} {m : En → Rs D} {ma : En → Rs (List D)}
theorem ef_makeK (M : Mk X.K (He.ga X.K c) f) (F : FnG X.prog X.w X.K X.mg X.base k f fd ps (spM X.K (pm.length + 1) m)) (co : Co X (k + 1)) (tk : Takes X W) (hm : X.mg x = some (.ref (He.ga X.K c))) (hb : KBM X.K fd ps ks pm)
    (ha : EvKN X W kws ks.length ma) (hpm : ∀ j ∈ pm, j < ks.length := by decide) (hg : Gl X x := by rfl) (hdb : (x == ("__debug__" : Str)) = false := by decide) (hall : (backToKw pos (keywordEach kws X.env)).all (·.1.isSome) = true := by rfl) (hks : (backToKw pos (keywordEach kws X.env)).filterMap (·.1) = ks := by rfl)
    (hpl : ((backTo pos (starEach [] X.env)).any (·.1) || (backToKw pos (keywordEach kws X.env)).any (·.1.isNone)) = false := by rfl) : EvF X W (.Call (.Name x p) [] kws pos) (xMake c m (xPick pm ma)) := by
  have base : PE X (.Call (.Name x p) [] kws pos) (fun σ H Q => tA X.K W ma σ H fun vs H1 => vs.length = ks.length ∧ ∀ y dx, H1 y = none → H1 dx = none → dx ≠ y →
      spM X.K (pm.length + 1) m (.ref y :: pick pm vs) (upd (upd H1 dx (.own y)) y (.ins (He.ga X.K c) dx [])) (fun v H2 => v = .non ∧ Q (.ref y) H2) fun cls d H' => W cls d σ H') := by
    refine ⟨fun pins s σ H Q I h => ?_⟩
    refine wpAny_Call_Name_kw (ld_glob I hg hm ?_ hdb)
    refine PySem.W.callWith_KW0 (h₀ := X.base) I.ok.mod.kin M.kp hall (thn (ha.pk.run pos pins s σ H _ I h) fun us s1 ⟨vs, H1, I1, r, hl, q⟩ => ⟨I1.kIn, ?_⟩) hpl
    rw [hks]
    exact run_makeGK M F co hb tk I1 r hl q
  have plen : ∀ {α : Type} (l : List α), l.length = ks.length → (pick pm l).length = pm.length := fun l hl => pick_len l hl pm hpm
  refine PE_imp base fun σ H Q ⟨U, env, sa, po⟩ => ⟨U, env, sa, ?_⟩
  unfold xMake xPick at po
  cases hm : ma env with
  | bad => rw [hm] at po; exact po
  | er x e => rw [hm] at po; exact po
  | ok ds e1 =>
    rw [hm] at po
    simp only [Rs.bind_ok] at po
    intro vs H1 a r
    have r : Reps X.K (Ux U e1 σ) H1 ds vs := r
    have hdl := ha.len _ _ _ hm
    refine ⟨by rw [Reps.len r, hdl], fun y dx hy hdx hne => ?_⟩
    have st1 : Ste X.K U e1 σ H1 e1 σ (upd H1 dx (.own y)) := (Ste.refl a.sa).same (same_new hdx)
    have hy2 : (upd H1 dx (.own y)) y = none := by rw [upd_ne (Ne.symm hne)]; exact hy
    have f2 : Fre X.K U e1 σ H1 e1 (upd (upd H1 dx (.own y)) y (.ins (He.ga X.K c) dx [])) (.ins c [] []) y :=
      (Fre.new (o := .ins c [] []) st1.sa hy2 ⟨dx, [], upd_same, rfl, rfl⟩).pre st1
    have r2 : Reps X.K (Ux (Up U y) e1 σ) (upd (upd H1 dx (.own y)) y (.ins (He.ga X.K c) dx [])) (pick pm ds) (pick pm vs) :=
      Reps.to (fun b u _ q => same_new hy2 b u (same_new hdx b u q)) (fun b u nb q z => (ux_up.mp z).elim nb fun e => by rw [e, hy] at q; cases q) _ _ (r.pick pm)
    refine ⟨Ux U e1 σ, .io (.ins c [] []) :: (pick pm ds).map Sl.v, by rw [List.length_cons, Reps.len r2, plen _ hdl], fre_argsV f2 r2, fun s hs => ?_, ?_⟩
    · rcases List.mem_cons.mp hs with e | hs
      · rw [e]; rfl
      · obtain ⟨d, _, e⟩ := List.mem_map.mp hs
        rw [← e]; rfl
    · cases hr : m (.io (.ins c [] []) :: (pick pm ds).map Sl.v) with
      | bad => simp only [hr] at po; exact po
      | er z args' =>
        simp only [hr] at po
        intro cls dd H' st ex
        obtain ⟨o', ho, _⟩ := st.io 0 _ rfl
        have fb := fre_backV f2 st ho
        obtain ⟨s2, _⟩ := fb.ste a.sa
        refine po cls dd H' (a.trans s2) ?_
        obtain ⟨h1, h2⟩ := ex
        refine ⟨h1, h2.imp id ?_⟩
        rintro ⟨q, xs, e1, e2, e3, r⟩
        exact ⟨q, xs, e1, e2, e3, Reps.to (fun _ _ _ q => q) (fun b u nb _ z => nb (.inl z)) _ _ r⟩
      | ok d args' =>
        simp only [hr] at po
        cases d with
        | non =>
          simp only at po
          intro v H' st rep
          obtain ⟨o', ho, _⟩ := st.io 0 _ rfl
          simp only [ho] at po
          exact ⟨rep, po y H' ((fre_backV f2 st ho).pre a)⟩
        | _ => exact po.elim
end
/-! ### o.nm(k = e, ..) -/
section
variable {X : Cx} {W : WX} {k : Nat} {C f : Addr} {fd : FuncData} {ps ks : List Str} {pm : List Nat} {sp : Sp} {nm : Str} {o : Expr} {kws : List Keyword} {apos pos : Pos} {ta : TE} {t : TA}
theorem pe_methGK {pl : Sem Bool} (he : PE X o ta) (cl : Cls X.K C) (hm : Meth X.K C nm f) (F : FnG X.prog X.w X.K X.mg X.base k f fd ps sp) (c : Co X k) (tk : Takes X W) (hb : KBM X.K fd ps ks pm) (hkw : PK X kws t)
    (hall : (backToKw pos (keywordEach kws X.env)).all (·.1.isSome) = true) (hks : (backToKw pos (keywordEach kws X.env)).filterMap (·.1) = ks)
    (hpl : ((backTo pos (starEach [] X.env)).any (·.1) || (backToKw pos (keywordEach kws X.env)).any (·.1.isNone)) = false)
    (ht : eval (.Call (.Attribute o nm apos) [] kws pos) X.env = (do
      let ov ← eval o X.env
      standAt apos.atName
      let (f, first) ← holding [ov] (getMethod ov nm pl)
      callWith pos f first (backTo pos (starEach [] X.env)) (backToKw pos (keywordEach kws X.env)))) :
    PE X (.Call (.Attribute o nm apos) [] kws pos) (fun σ H Q => ta σ H fun x H1 => ∃ a dx fs, x = .ref a ∧ H1 a = some (.ins C dx fs) ∧ fs.lookup nm = none ∧ t σ H1 fun vs H2 => vs.length = ks.length ∧ sp (x :: pick pm vs) H2 Q fun cls d H' => W cls d σ H') := by
  refine ⟨fun pins s σ H Q I h => PySem.W.methodCall_KW (pl := pl) (thn (he.run pins s σ H _ I h) fun u s1 ⟨x, H1, I1, rx, a, dx, fs, ex, ea, l, q⟩ => ?_) ht⟩
  subst ex
  cases (show u = Value.ref a from rx)
  refine getmeth_ok I1 ea cl hm l (PySem.W.callWith_KW0 (first := [.ref a]) (h₀ := X.base) I.ok.mod.kin hm.kp hall (thn (hkw.run pos pins s1 σ H1 _ I1 q) fun us s2 ⟨vs, H2, I2, r, hl, q2⟩ => ⟨I2.kIn, ?_⟩) hpl)
  rw [hks]
  have r2 : Vals (V.ref a :: pick pm vs) (Value.ref a :: pick pm us) := .cons rfl (vals_pick r pm)
  refine wpAny_call (codeAny_mono (F.run X.A X.stack s2 H2 ⟨[.ref a], ks.zip us⟩ _ _ Q _ c.hr c.hg I2.env0 (hb s2 (.ref a) us (r.length.symm.trans hl)) r2 q2) fun r s' hq => ?_)
  cases r with
  | error e => exact tk e s' (XE.of_call I2 (fun _ _ _ z => z) hq)
  | ok fl =>
    cases fl with
    | ret u => exact I2.after hq
    | next => exact False.elim hq
    | brk => exact False.elim hq
    | cont => exact False.elim hq
end
section
variable {X : Cx} {W : WX} {k n : Nat} {c nm : Str} {f : Addr} {fd : FuncData} {ps ks : List Str} {pm : List Nat} {o : Expr} {kws : List Keyword} {apos pos : Pos} {m mo : En → Rs D} {ma : En → Rs (List D)}
theorem ev_mthK {pl : Sem Bool} (cl : Cls X.K (He.ga X.K c)) (hm : Meth X.K (He.ga X.K c) nm f) (F : FnG X.prog X.w X.K X.mg X.base k f fd ps (spM X.K (pm.length + 1) m)) (co : Co X k) (tk : Takes X W) (hb : KBM X.K fd ps ks pm) (he : Ev X W o mo) (ha : EvKN X W kws ks.length ma)
    (hpm : ∀ j ∈ pm, j < ks.length := by decide) (hall : (backToKw pos (keywordEach kws X.env)).all (·.1.isSome) = true := by rfl) (hks : (backToKw pos (keywordEach kws X.env)).filterMap (·.1) = ks := by rfl)
    (hpl : ((backTo pos (starEach [] X.env)).any (·.1) || (backToKw pos (keywordEach kws X.env)).any (·.1.isNone)) = false := by rfl)
    (ht : eval (.Call (.Attribute o nm apos) [] kws pos) X.env = (do
      let ov ← eval o X.env
      standAt apos.atName
      let (f, first) ← holding [ov] (getMethod ov nm pl)
      callWith pos f first (backTo pos (starEach [] X.env)) (backToKw pos (keywordEach kws X.env))) := by rfl) : Ev X W (.Call (.Attribute o nm apos) [] kws pos) (xMth c nm m mo (xPick pm ma)) :=
  PE_imp (pe_methGK (pl := pl) he cl hm F co tk hb ha.pk hall hks hpl ht) fun σ H Q ⟨U, env, sa, po⟩ => ⟨U, env, sa, Po.step po fun v H1 d e1 a r po1 => by
    have plen : ∀ {α : Type} (l : List α), l.length = ks.length → (pick pm l).length = pm.length := fun l hl => pick_len l hl pm hpm
    have r : Rep X.K (Ux U e1 σ) H1 d v := r
    cases d with
    | obj c' ns vs0 =>
      simp only at po1
      by_cases hcc : c' = c ∧ hasN nm ns = false
      · rw [if_pos hcc] at po1
        obtain ⟨rfl, hn⟩ := hcc
        have r0 := r
        obtain ⟨p, dx, xs, rfl, nu, h, hl, rs⟩ := r0
        refine ⟨p, dx, _, rfl, h, lookup_none hn, U, e1, a.sa, ?_⟩
        unfold xPick at po1
        cases hma : ma e1 with
        | bad => rw [hma] at po1; exact po1
        | er x e2 => rw [hma] at po1; exact po1
        | ok ds e2 =>
          rw [hma] at po1
          intro vs H2 a2 r2
          have r2 : Reps X.K (Ux U e2 σ) H2 ds vs := r2
          have hdl := ha.len _ _ _ hma
          have po2 := Po.shift (R2 := RD X.K) a2 po1
          exact ⟨by rw [Reps.len r2, hdl], sp_vals a2.sa (ds := D.obj c' ns vs0 :: pick pm ds) ⟨_, _, rfl, a2.rep a.sa r, r2.pick pm⟩ (by rw [List.length_cons, plen _ hdl]) po2⟩
      · rw [if_neg hcc] at po1; exact po1.elim
    | _ => exact po1.elim⟩
end
end Mi

set_option Elab.async false
set_option linter.all false
set_option maxRecDepth 100000
set_option maxHeartbeats 4000000
/-! Mi37: divmod by wide divisors -/
namespace Mi
open PySem PySem.Spec L2
def gDivmodW : List D → Option D
  | [.int i, .int j] => if 0 < j ∧ j.natAbs.log2 < 100 then some (.tup [.int (i / j), .int (i % j)]) else none
  | _ => none
theorem n_divmodW {K : PySem.W.Frag} : SndN K gDivmodW (fun xs H Q => ∃ i j, xs = [.int i, .int j] ∧ CDivP i j ∧ ∀ p, H p = none → Q (.ref p) (upd H p (.tup [.int (i / j), .int (i % j)]))) := by
  intro U H xs ds z Q al r hz q
  match ds, hz, r with
  | [], hz, _ => cases hz
  | [_], hz, _ => simp [gDivmodW] at hz
  | _ :: _ :: _ :: _, hz, _ => simp [gDivmodW] at hz
  | [d, e], hz, r =>
    obtain ⟨x, y, rfl, rx, ry⟩ := r.two
    cases d with
    | int i =>
      cases e with
      | int j =>
        simp only [gDivmodW, Option.ite_none_right_eq_some] at hz
        obtain ⟨⟨h1, h2⟩, e⟩ := hz
        cases e
        exact ⟨i, j, by rw [show x = _ from rx, show y = _ from ry], ⟨h1, PyProof.noPylong_of_log2 (by omega)⟩, fun p hp => q _ _ (same_new hp) (rep_tup_new al hp ⟨_, _, rfl, rfl, _, _, rfl, rfl, rfl⟩)⟩
      | _ => simp [gDivmodW] at hz
    | _ => simp [gDivmodW] at hz
end Mi

set_option Elab.async false
set_option linter.all false
set_option maxRecDepth 100000
set_option maxHeartbeats 4000000
/-! Mi38: defs that return a new object and change what they are handed -/
namespace Mi
open PySem PySem.Spec L2
section
variable {K : PySem.W.Frag} {U : Addr → Prop} {args env' : En} {σ0 σ' : St} {H H' : Hp} {n : Nat} {p : Addr}
theorem Ste.leaveP (sa : SA K U args σ0 H) (har : ∀ s ∈ args, s.arg = true) (a : Ste K U (args ++ List.replicate n .un) (σ0 ++ List.replicate n none) H env' σ' H') (hp : H p = none) (sp : SA K (Up U p) env' σ' H') :
    SA K (Up U p) (mergeA args env') σ0 H' ∧ ∀ x, Ux (Up U p) (mergeA args env') σ0 x → Ux (Up U p) env' σ' x := by
  -- each parameter that the caller sees is still in its slot
  have io : ∀ (i : Nat) (o : Ob), args[i]? = some (.io o) → ∃ o' : Ob, env'[i]? = some (.io o') ∧ σ'[i]? = σ0[i]? := fun i o h => by
    obtain ⟨o', h1, h2⟩ := a.io i o (get_padr h)
    refine ⟨o', h1, h2.trans ?_⟩
    have hi : i < σ0.length := by rw [← sa.len]; exact (List.getElem?_eq_some_iff.mp h).1
    rw [List.getElem?_append_left hi]
  have mg : ∀ (i : Nat) (s : Sl), (mergeA args env')[i]? = some s → (∃ o o' : Ob, s = .io o' ∧ args[i]? = some (.io o) ∧ env'[i]? = some (.io o')) ∨ (∃ d, s = .v d ∧ args[i]? = some (.v d)) := by
    have core : ∀ (a e : En) (hio : ∀ (i : Nat) (o : Ob), a[i]? = some (.io o) → ∃ o' : Ob, e[i]? = some (.io o')) (hv : ∀ s ∈ a, s.arg = true) (i : Nat) (s : Sl), (mergeA a e)[i]? = some s →
        (∃ o o' : Ob, s = .io o' ∧ a[i]? = some (.io o) ∧ e[i]? = some (.io o')) ∨ (∃ d, s = .v d ∧ a[i]? = some (.v d)) := by
      intro a
      induction a with
      | nil => intro e _ _ i s h; cases e <;> simp [mergeA] at h
      | cons x r ih =>
        intro e hio hv i s h
        cases e with
        | nil =>
          rw [mergeA_nil] at h
          cases s with
          | io o => obtain ⟨o', q⟩ := hio i o h; simp at q
          | v d => exact .inr ⟨d, rfl, h⟩
          | un => exact absurd (hv _ (List.mem_of_getElem? h)) (by simp [Sl.arg])
          | ow o => exact absurd (hv _ (List.mem_of_getElem? h)) (by simp [Sl.arg])
        | cons t e =>
          cases i with
          | succ i =>
            have q := ih e (fun i o h => hio (i + 1) o h) (fun s hs => hv s (List.mem_cons_of_mem _ hs)) i s (by cases x <;> cases t <;> simpa [mergeA] using h)
            exact q
          | zero =>
            cases x with
            | io o =>
              obtain ⟨o', q⟩ := hio 0 o rfl
              obtain rfl : t = .io o' := by simpa using q
              left
              refine ⟨o, o', ?_, rfl, rfl⟩
              simpa [mergeA] using h.symm
            | v d =>
              right
              refine ⟨d, ?_, rfl⟩
              cases t <;> simpa [mergeA] using h.symm
            | un => exact absurd (hv _ List.mem_cons_self) (by simp [Sl.arg])
            | ow o => exact absurd (hv _ List.mem_cons_self) (by simp [Sl.arg])
    exact core args env' (fun i o h => let ⟨o', h1, _⟩ := io i o h; ⟨o', h1⟩) har
  have rm : ∀ (i : Nat) (s : Sl), args[i]? = some s → ∃ s', (mergeA args env')[i]? = some s' := by
    have core : ∀ (a e : En) (i : Nat) (s : Sl), a[i]? = some s → ∃ s', (mergeA a e)[i]? = some s' := by
      intro a
      induction a with
      | nil => intro e i s h; simp at h
      | cons x r ih =>
        intro e i s h
        cases e with
        | nil => rw [mergeA_nil]; exact ⟨s, h⟩
        | cons t e =>
          cases i with
          | zero => cases x <;> cases t <;> exact ⟨_, rfl⟩
          | succ i =>
            obtain ⟨s', q⟩ := ih e i s h
            exact ⟨s', by cases x <;> cases t <;> simpa [mergeA] using q⟩
    exact core args env'
  have lenM : (mergeA args env').length = args.length := by
    have core : ∀ (a e : En), (mergeA a e).length = a.length := by
      intro a
      induction a with
      | nil => intro e; cases e <;> rfl
      | cons x r ih => intro e; cases e with
        | nil => rw [mergeA_nil]
        | cons t e => cases x <;> cases t <;> simp [mergeA, ih]
    exact core args env'
  have ch1 : ∀ x, Chg (mergeA args env') σ0 x → Chg env' σ' x ∧ Chg args σ0 x := by
    rintro x ⟨i, s, o, h1, h2, h3⟩
    rcases mg i s h1 with ⟨o1, o', rfl, e1, e2⟩ | ⟨d, rfl, _⟩
    · obtain ⟨o2, e3, e4⟩ := io i o1 e1
      exact ⟨⟨i, _, o', e2, rfl, e4.trans h3⟩, ⟨i, _, o1, e1, rfl, h3⟩⟩
    · cases h2
  have ch2 : ∀ x, Chg args σ0 x → Chg (mergeA args env') σ0 x := by
    rintro x ⟨i, s, o, h1, h2, h3⟩
    cases s with
    | un => cases h2
    | v d => cases h2
    | ow o => exact absurd (har _ (List.mem_of_getElem? h1)) (by simp [Sl.arg])
    | io o1 =>
      obtain ⟨s', q⟩ := rm i _ h1
      rcases mg i s' q with ⟨o2, o', rfl, _, _⟩ | ⟨d, rfl, e⟩
      · exact ⟨i, _, o', q, rfl, h3⟩
      · rw [h1] at e; cases e
  have sub : ∀ x, Ux U (mergeA args env') σ0 x → Ux U env' σ' x := fun x h => h.imp id fun c => (ch1 x c).1
  have grA : Gr (Chg args σ0) H H' := fun x o nn h => a.gr x o (fun c => nn ((chg_pad sa.len x).mp c)) h
  have subP : ∀ x, Ux (Up U p) (mergeA args env') σ0 x → Ux (Up U p) env' σ' x := fun x h => h.imp id fun c => (ch1 x c).1
  refine ⟨⟨lenM.trans sa.len, sp.al, fun x c z => sp.nu x (ch1 x c).1 z, fun i j s t o p x h1 h2 h3 h4 h5 h6 => ?_, fun i d h => ?_, fun i s o h1 h2 => ?_⟩, subP⟩
  · rcases mg i s h1 with ⟨o1, o', rfl, e1, e2⟩ | ⟨d, rfl, _⟩
    · rcases mg j t h3 with ⟨o3, o4, rfl, e3, e4⟩ | ⟨d, rfl, _⟩
      · exact sa.inj i j _ _ _ _ x e1 rfl e3 rfl h5 h6
      · cases h4
    · cases h2
  · rcases mg i _ h with ⟨o1, o', q, _, _⟩ | ⟨d', q, e⟩
    · cases q
    · cases q
      obtain ⟨v, e1, r⟩ := sa.val i d e
      refine ⟨v, e1, Rep.to (fun x o nn h => grA x o (fun c => nn (.inr c)) h) (fun x o nn hx q => ?_) d v r⟩
      rcases q with (q | q) | q
      · exact nn (.inl q)
      · rw [q, hp] at hx; cases hx
      · exact nn (.inr (ch1 x q).2)
  · rcases mg i s h1 with ⟨o1, o', rfl, e1, e2⟩ | ⟨d, rfl, _⟩
    · cases h2
      obtain ⟨x, e3, r⟩ := sp.ob i _ _ e2 rfl
      obtain ⟨o2, e4, e5⟩ := io i o1 e1
      exact ⟨x, e5.symm.trans e3, RepO.to (fun _ _ _ q => q) (fun y o nn _ q => nn (subP y q)) (fun _ q => q) r⟩
    · cases h2
end
section
variable {K : PySem.W.Frag} {U U' : Addr → Prop} {env : En} {σ : St} {H : Hp} {as : List Ar} {vs : List V}
theorem call_bridgeP {args : En} (sa : SA K U env σ H) (ra : RAr K (Ux U env σ) σ H as vs) (nd : (inrs as).Nodup) (mk : mkArgs env as = some args) :
    ∃ U', SA K U' args (vs.map some) H ∧ (∀ s ∈ args, s.arg = true) ∧ (∀ a, U a → U' a) ∧ ∀ args' H', Ste K U' args (vs.map some) H args' (vs.map some) H' →
      (Ste K U env σ H (putBack env as args') σ H' ∧ ∀ x, Ux U (putBack env as args') σ x → Ux U' args' (vs.map some) x) ∧ ∀ p, H p = none → SA K (Up U' p) args' (vs.map some) H' →
        SA K (Up U p) (putBack env as args') σ H' ∧ ∀ x, Ux (Up U p) (putBack env as args') σ x → Ux (Up U' p) args' (vs.map some) x := by
  obtain ⟨hl, hto⟩ := mkArgs_to mk
  have hof := mkArgs_of mk
  have vget : ∀ {j : Nat} {v : V}, (vs.map some)[j]? = some (some v) → vs[j]? = some v := fun {j v} h => by
    rw [List.getElem?_map] at h
    cases e : vs[j]? with
    | none => rw [e] at h; cases h
    | some w => rw [e] at h; cases h; rfl
  have vput : ∀ {j : Nat} {v : V}, vs[j]? = some v → (vs.map some)[j]? = some (some v) := fun {j v} h => by rw [List.getElem?_map, h]; rfl
  -- the arguments, one by one
  have ioOf : ∀ {j : Nat} {s : Sl} {o : Ob}, args[j]? = some s → s.ob = some o → ∃ i t, as[j]? = some (.inr i) ∧ env[i]? = some t ∧ t.ob = some o ∧ s = .io o := fun {j s o} h1 h2 => by
    obtain ⟨a, h3, h4⟩ := hof j s h1
    cases a with
    | inl d => simp [argOf] at h4; subst h4; cases h2
    | inr i =>
      simp only [argOf] at h4
      cases e : env[i]? with
      | none => rw [e] at h4; cases h4
      | some t =>
        rw [e] at h4
        cases e2 : t.ob with
        | none => simp [e2] at h4
        | some o' =>
          simp [e2] at h4
          subst h4
          cases h2
          exact ⟨i, t, h3, e, e2, rfl⟩
  have vOf : ∀ {j : Nat} {d : D}, args[j]? = some (.v d) → as[j]? = some (.inl d) := fun {j d} h1 => by
    obtain ⟨a, h3, h4⟩ := hof j _ h1
    cases a with
    | inl d' => simp [argOf] at h4; subst h4; exact h3
    | inr i =>
      simp only [argOf] at h4
      cases e : env[i]? with
      | none => rw [e] at h4; cases h4
      | some t =>
        rw [e] at h4
        cases e2 : t.ob with
        | none => simp [e2] at h4
        | some o' => simp [e2] at h4
  let Pa : Addr → Prop := fun a => ∃ (j i : Nat), as[j]? = some (.inr i) ∧ σ[i]? = some (some (V.ref a))
  have ownAt : ∀ {j i : Nat}, as[j]? = some (.inr i) → ∃ t o a, env[i]? = some t ∧ t.ob = some o ∧ args[j]? = some (.io o) ∧ σ[i]? = some (some (V.ref a)) ∧ vs[j]? = some (V.ref a) ∧ RepO K (Ux U env σ) H o a := fun {j i} h => by
    obtain ⟨s, h1, h2⟩ := hto j _ h
    simp only [argOf] at h2
    cases e : env[i]? with
    | none => rw [e] at h2; cases h2
    | some t =>
      rw [e] at h2
      cases e2 : t.ob with
      | none => simp [e2] at h2
      | some o =>
        simp [e2] at h2
        subst h2
        obtain ⟨a, h3, r⟩ := sa.ob i t o e e2
        obtain ⟨v, h4, h5⟩ := ra.at j _ h
        have h5 : σ[i]? = some (some v) := h5
        rw [h3] at h5
        cases h5
        exact ⟨t, o, a, rfl, e2, h1, h3, h4, r⟩
  have paChg : ∀ {a : Addr}, Pa a → Chg env σ a := fun {a} ⟨j, i, h1, h2⟩ => by
    obtain ⟨t, o, b, e1, e2, _, e3, _, _⟩ := ownAt h1
    exact ⟨i, t, o, e1, e2, h2⟩
  have chgPa : ∀ {a : Addr}, Chg args (vs.map some) a → Pa a := fun {a} ⟨j, s, o, h1, h2, h3⟩ => by
    obtain ⟨i, t, q1, q2, q3, _⟩ := ioOf h1 h2
    obtain ⟨t', o', b, e1, e2, _, e3, e4, _⟩ := ownAt q1
    have h4 := vget h3
    rw [e4] at h4
    cases h4
    exact ⟨j, i, q1, e3⟩
  have paArgs : ∀ {a : Addr}, Pa a → Chg args (vs.map some) a := fun {a} ⟨j, i, h1, h2⟩ => by
    obtain ⟨t, o, b, e1, e2, e5, e3, e4, _⟩ := ownAt h1
    rw [h2] at e3
    cases e3
    exact ⟨j, _, o, e5, rfl, vput e4⟩
  let U' : Addr → Prop := fun a => U a ∨ (Chg env σ a ∧ ¬ Pa a)
  have uxI : ∀ x, Ux U env σ x → Ux U' args (vs.map some) x := fun x h => by
    by_cases p : Pa x
    · exact .inr (paArgs p)
    · exact .inl (h.elim .inl fun c => .inr ⟨c, p⟩)
  have uxO : ∀ x, Ux U' args (vs.map some) x → Ux U env σ x := fun x h => h.elim (fun h => h.elim .inl fun c => .inr c.1) fun c => .inr (paChg (chgPa c))
  have sa' : SA K U' args (vs.map some) H := by
    refine ⟨by rw [List.length_map, hl, ra.len], fun a h => h.elim (sa.al a) fun c => sa.alx (.inr c.1), fun a c h => ?_, fun i j s t o p a h1 h2 h3 h4 h5 h6 => ?_, fun i d h => ?_, fun i s o h1 h2 => ?_⟩
    · have p := chgPa c
      exact h.elim (sa.nu a (paChg p)) fun q => q.2 p
    · obtain ⟨i1, t1, q1, q2, q3, _⟩ := ioOf h1 h2
      obtain ⟨i2, t2, q4, q5, q6, _⟩ := ioOf h3 h4
      obtain ⟨_, _, b, _, _, _, e3, e4, _⟩ := ownAt q1
      obtain ⟨_, _, b', _, _, _, e5, e6, _⟩ := ownAt q4
      have z1 := vget h5
      have z2 := vget h6
      rw [e4] at z1
      rw [e6] at z2
      cases z1
      cases z2
      have e := sa.inj i1 i2 t1 t2 o p a q2 q3 q5 q6 e3 e5
      subst e
      exact inr_uniq nd q1 q4
    · obtain ⟨v, e1, r⟩ := ra.at i _ (vOf h)
      exact ⟨v, vput e1, Rep.to (fun _ _ _ q => q) (fun x o n _ q => n (uxO x q)) d v r⟩
    · obtain ⟨k, t, q1, q2, q3, q4⟩ := ioOf h1 h2
      obtain ⟨t', o', b, e1, e2, e5, e3, e4, r⟩ := ownAt q1
      rw [q2] at e1
      cases e1
      rw [q3] at e2
      cases e2
      exact ⟨b, vput e4, RepO.to (fun _ _ _ q => q) (fun x o n _ q => n (uxO x q)) (fun _ q => q) r⟩
  refine ⟨U', sa', fun s hs => ?_, fun a h => .inl h, fun args' H' a => ?_⟩
  · obtain ⟨j, hj⟩ := List.mem_iff_getElem?.mp hs
    obtain ⟨x, h1, h2⟩ := hof j s hj
    cases x with
    | inl d => simp [argOf] at h2; subst h2; rfl
    | inr i =>
      obtain ⟨_, o, _, _, _, e, _⟩ := ownAt h1
      rw [hj] at e
      cases e
      rfl
  have pget : ∀ (i : Nat), (putBack env as args')[i]? = (env[i]?).map fun s => match lookIo as args' i with
      | some o => s.put o
      | none => s := fun i => by unfold putBack; rw [List.getElem?_mapIdx] <;> rfl
  have putOb : ∀ {s : Sl} {o o' : Ob}, s.ob = some o → (s.put o').ob = some o' := fun {s o o'} h => by cases s <;> first | rfl | cases h
  have putNone : ∀ {s : Sl} {o' : Ob}, s.ob = none → s.put o' = s := fun {s o'} h => by cases s <;> first | rfl | cases h
  have passIo : ∀ {j i : Nat}, as[j]? = some (.inr i) → ∃ o', args'[j]? = some (.io o') ∧ lookIo as args' i = some o' := fun {j i} h => by
    obtain ⟨_, o, b, _, _, e, _⟩ := ownAt h
    obtain ⟨o', h1, _⟩ := a.io j o e
    exact ⟨o', h1, lookIo_of nd h h1⟩
  have chgB : ∀ x, Chg (putBack env as args') σ x ↔ Chg env σ x := fun x => by
    constructor
    · rintro ⟨i, s, o, h1, h2, h3⟩
      rw [pget] at h1
      cases e : env[i]? with
      | none => rw [e] at h1; cases h1
      | some t =>
        rw [e] at h1
        cases e2 : t.ob with
        | none =>
          have : s = t := by
            cases e3 : lookIo as args' i with
            | none => simp [e3] at h1; exact h1.symm
            | some o' => simp [e3, putNone e2] at h1; exact h1.symm
          rw [this, e2] at h2
          cases h2
        | some o' => exact ⟨i, t, o', e, e2, h3⟩
    · rintro ⟨i, s, o, h1, h2, h3⟩
      cases e3 : lookIo as args' i with
      | none => exact ⟨i, s, o, by rw [pget, h1, e3]; rfl, h2, h3⟩
      | some o' => exact ⟨i, s.put o', o', by rw [pget, h1, e3]; rfl, putOb h2, h3⟩
  have sub : ∀ x, Ux U (putBack env as args') σ x → Ux U' args' (vs.map some) x := fun x h => by
    by_cases p : Pa x
    · obtain ⟨j, i, h1, h2⟩ := p
      obtain ⟨_, o, b, _, _, _, e3, e4, _⟩ := ownAt h1
      obtain ⟨o', h3, _⟩ := passIo h1
      rw [h2] at e3
      cases e3
      exact .inr ⟨j, _, o', h3, rfl, vput e4⟩
    · exact .inl (h.elim .inl fun c => .inr ⟨(chgB x).mp c, p⟩)
  have kept : ∀ x o, ¬ Pa x → H x = some o → H' x = some o := fun x o n h => a.gr x o (fun c => n (chgPa c)) h
  have old : Ste K U env σ H (putBack env as args') σ H' ∧ ∀ x, Ux U (putBack env as args') σ x → Ux U' args' (vs.map some) x := by
      refine ⟨⟨⟨?_, fun x h => a.sa.al x (.inl h), fun x c => sa.nu x ((chgB x).mp c), fun i j s t o p x h1 h2 h3 h4 h5 h6 => ?_, fun i d h => ?_, fun i s o h1 h2 => ?_⟩, fun x o n h => kept x o (fun p => n (paChg p)) h, fun x c => .inl ((chgB x).mp c), fun i o h => ?_⟩, sub⟩
      · unfold putBack
        rw [List.length_mapIdx]
        exact sa.len
      · obtain ⟨i1, s1, o1, q1, q2, q3⟩ := (chgB x).mp ⟨i, s, o, h1, h2, h5⟩
        have g : ∀ {i : Nat} {s : Sl} {o : Ob}, (putBack env as args')[i]? = some s → s.ob = some o → ∃ t o', env[i]? = some t ∧ t.ob = some o' := fun {i s o} h1 h2 => by
          rw [pget] at h1
          cases e : env[i]? with
          | none => rw [e] at h1; cases h1
          | some t =>
            rw [e] at h1
            cases e2 : t.ob with
            | none =>
              have : s = t := by
                cases e3 : lookIo as args' i with
                | none => simp [e3] at h1; exact h1.symm
                | some o' => simp [e3, putNone e2] at h1; exact h1.symm
              rw [this, e2] at h2
              cases h2
            | some o' => exact ⟨t, o', rfl, e2⟩
        obtain ⟨t1, p1, e1, e2⟩ := g h1 h2
        obtain ⟨t2, p2, e3, e4⟩ := g h3 h4
        exact sa.inj i j t1 t2 p1 p2 x e1 e2 e3 e4 h5 h6
      · rw [pget] at h
        cases e : env[i]? with
        | none => rw [e] at h; cases h
        | some t =>
          rw [e] at h
          have et : t = .v d := by
            cases e3 : lookIo as args' i with
            | none => simp [e3] at h; exact h
            | some o' =>
              simp [e3] at h
              cases t <;> simp [Sl.put] at h
              exact congrArg _ h
          subst et
          obtain ⟨v, e1, r⟩ := sa.val i d e
          exact ⟨v, e1, Rep.to (fun x o n h => kept x o (fun p => n (.inr (paChg p))) h) (fun x o n _ q => n (q.imp id fun c => (chgB x).mp c)) d v r⟩
      · rw [pget] at h1
        cases e : env[i]? with
        | none => rw [e] at h1; cases h1
        | some t =>
          rw [e] at h1
          cases e3 : lookIo as args' i with
          | none =>
            simp [e3] at h1
            subst h1
            obtain ⟨x, e1, r⟩ := sa.ob i t o e h2
            refine ⟨x, e1, RepO.to (fun x o n h => kept x o (fun p => n (.inr (paChg p))) h) (fun x o n _ q => n (q.imp id fun c => (chgB x).mp c)) (fun u h => kept x u (fun p => ?_) h) r⟩
            obtain ⟨j, k, p1, p2⟩ := p
            obtain ⟨t', o', b, z1, z2, _, z3, _, _⟩ := ownAt p1
            rw [p2] at z3
            cases z3
            have ek := sa.inj i k t t' o o' x e h2 z1 z2 e1 p2
            subst ek
            obtain ⟨o2, _, y⟩ := passIo p1
            rw [e3] at y
            cases y
          | some o' =>
            simp [e3] at h1
            obtain ⟨j, p1, p2⟩ := lookIo_spec e3
            obtain ⟨t', o1, b, z1, z2, _, z3, z4, _⟩ := ownAt p1
            rw [e] at z1
            cases z1
            subst h1
            rw [putOb z2] at h2
            cases h2
            obtain ⟨x, e1, r⟩ := a.sa.ob j _ _ p2 rfl
            have e2 := vget e1
            rw [z4] at e2
            cases e2
            exact ⟨_, z3, RepO.to (fun _ _ _ q => q) (fun x o n _ q => n (sub x q)) (fun _ q => q) r⟩
      · cases e3 : lookIo as args' i with
        | none => exact ⟨o, by rw [pget, h, e3]; rfl, rfl⟩
        | some o' => exact ⟨o', by rw [pget, h, e3]; rfl, rfl⟩
  refine ⟨old, fun p hp sp => ?_⟩
  have subP : ∀ x, Ux (Up U p) (putBack env as args') σ x → Ux (Up U' p) args' (vs.map some) x := fun x h => by
    rcases h with (h | h) | h
    · exact (sub x (.inl h)).elim (fun z => .inl (.inl z)) .inr
    · exact .inl (.inr h)
    · exact (sub x (.inr h)).elim (fun z => .inl (.inl z)) .inr
  have nP : ∀ x o, ¬ Ux U env σ x → H x = some o → ¬ Ux (Up U p) (putBack env as args') σ x := fun x o n h q => by
    rcases q with (q | q) | q
    · exact n (.inl q)
    · rw [q, hp] at h; cases h
    · exact n (.inr ((chgB x).mp q))
  have so := old.1.sa
  refine ⟨⟨so.len, fun x h => h.elim (so.al x) fun e => sp.al x (.inr e), fun x c z => ?_, so.inj, fun i d h => ?_, fun i s o h1 h2 => ?_⟩, subP⟩
  · rcases z with z | z
    · exact so.nu x c z
    · obtain ⟨u, hu⟩ := sa.alx (.inr ((chgB x).mp c))
      rw [z, hp] at hu
      cases hu
  · rw [pget] at h
    cases e : env[i]? with
    | none => rw [e] at h; cases h
    | some t =>
      rw [e] at h
      have et : t = .v d := by
        cases e3 : lookIo as args' i with
        | none => simp [e3] at h; exact h
        | some o' =>
          simp [e3] at h
          cases t <;> simp [Sl.put] at h
          exact congrArg _ h
      subst et
      obtain ⟨v, e1, r⟩ := sa.val i d e
      exact ⟨v, e1, Rep.to (fun x o n h => kept x o (fun p => n (.inr (paChg p))) h) nP d v r⟩
  · rw [pget] at h1
    cases e : env[i]? with
    | none => rw [e] at h1; cases h1
    | some t =>
      rw [e] at h1
      cases e3 : lookIo as args' i with
      | none =>
        simp [e3] at h1
        subst h1
        obtain ⟨x, e1, r⟩ := sa.ob i t o e h2
        refine ⟨x, e1, RepO.to (fun x o n h => kept x o (fun p => n (.inr (paChg p))) h) nP (fun u h => kept x u (fun p => ?_) h) r⟩
        obtain ⟨j, k, p1, p2⟩ := p
        obtain ⟨t', o', b, z1, z2, _, z3, _, _⟩ := ownAt p1
        rw [p2] at z3
        cases z3
        have ek := sa.inj i k t t' o o' x e h2 z1 z2 e1 p2
        subst ek
        obtain ⟨o2, _, y⟩ := passIo p1
        rw [e3] at y
        cases y
      | some o' =>
        simp [e3] at h1
        obtain ⟨j, p1, p2⟩ := lookIo_spec e3
        obtain ⟨t', o1, b, z1, z2, _, z3, z4, _⟩ := ownAt p1
        rw [e] at z1
        cases z1
        subst h1
        rw [putOb z2] at h2
        cases h2
        obtain ⟨x, e1, r⟩ := sp.ob j _ _ p2 rfl
        have e2 := vget e1
        rw [z4] at e2
        cases e2
        exact ⟨_, z3, RepO.to (fun _ _ _ q => q) (fun x o n _ q => n (subP x q)) (fun _ q => q) r⟩
end
/-! ### the promise of such a def -/
def spO (K : PySem.W.Frag) (n : Nat) (m : En → Rs Ob) : Sp := fun vs H Q E => ∃ U args, vs.length = n ∧ SA K U args (vs.map some) H ∧ (∀ s ∈ args, s.arg = true) ∧ match m args with
  | .ok o args' => ∀ p H', Ste K U args (vs.map some) H args' (vs.map some) H' → H p = none → SA K (Up U p) args' (vs.map some) H' → RepO K (Ux (Up U p) args' (vs.map some)) H' o p → Q (.ref p) H'
  | .er x args' => ∀ cls dd H', Ste K U args (vs.map some) H args' (vs.map some) H' → ExR K (Ux U args' (vs.map some)) H' x cls dd → E cls dd H'
  | .bad => False
def mDefO (n N : Nat) (mb : En → Rs Ob) : En → Rs Ob := fun args => match mb (args ++ List.replicate (N - n) .un) with
  | .ok o env => .ok o (mergeA args env)
  | .er x env => .er x (mergeA args env)
  | .bad => .bad
theorem okO {P : Program} {w : World} {K : PySem.W.Frag} {mg : Str → Option Value} {base : Heap} {x qual : Str} {st : Stmt} {f : Addr} {fd : FuncData} {N ps : List Str} {k : Nat} {mb : En → Rs Ob} (F : Fun K x qual st f fd) (S : FnScope N ps (defScope st))
    (hbody : ∀ (cdv : Value) (A : Around) (outer : List PySem.Env) (s : Shared) (H : Hp) (E : XK) (W : WX), Co (cxOf (L2.CX P w) P w K mg base N qual (defScope st) f cdv A outer s H E) k → Takes (cxOf (L2.CX P w) P w K mg base N qual (defScope st) f cdv A outer s H E) W →
      EvSN (cxOf (L2.CX P w) P w K mg base N qual (defScope st) f cdv A outer s H E) W (defBody st) mb) : FnG P w K mg base (k + 1) f fd ps (spO K ps.length (mDefO ps.length N.length mb)) := by
  refine fnG_of F S (fun vs H Q E h => ?_) fun cdv A outer s H vs Q E co h => ⟨tSN K (fun c d _ H' => E c d H') mb, hbody cdv A outer s H E _ co (takes_of rfl rfl rfl rfl), ?_⟩
  · obtain ⟨U, args, hl, _⟩ := h
    exact hl
  obtain ⟨U, args, hl, sa, har, po⟩ := h
  rw [pad_len]
  have hl2 : N.length - vs.length = N.length - ps.length := by rw [hl]
  rw [hl2]
  refine ⟨U, args ++ List.replicate (N.length - ps.length) .un, sa.pad, ?_⟩
  unfold mDefO at po
  cases hm : mb (args ++ List.replicate (N.length - ps.length) .un) with
  | bad => simp only [hm] at po
  | er y e =>
    simp only [hm] at po
    intro cls dd σ' H' a ex
    obtain ⟨a', sub⟩ := a.leave sa har
    refine po cls dd H' a' ?_
    obtain ⟨h1, h2⟩ := ex
    refine ⟨h1, h2.imp id ?_⟩
    rintro ⟨q, xs, e1, e2, e3, r⟩
    exact ⟨q, xs, e1, e2, e3, Reps.to (fun _ _ _ q => q) (fun y o nn _ q => nn (sub y q)) _ _ r⟩
  | ok o e =>
    simp only [hm] at po
    intro σ' H1 env1 a p H' fr
    obtain ⟨s1, _⟩ := fr.ste a.sa
    have b := a.trans s1
    -- the new object is none of the caller's
    have ioE : ∀ (i : Nat) (u : Ob), args[i]? = some (.io u) → ∃ o' : Ob, e[i]? = some (.io o') ∧ σ'[i]? = (vs.map some)[i]? := fun i u h => by
      obtain ⟨o', h1, h2⟩ := b.io i u (get_padr h)
      refine ⟨o', h1, h2.trans ?_⟩
      have hi : i < (vs.map some).length := by rw [← sa.len]; exact (List.getElem?_eq_some_iff.mp h).1
      rw [List.getElem?_append_left hi]
    have nc : ¬ Chg args (vs.map some) p := fun ⟨i, s, u, h1, h2, h3⟩ => by
      cases s with
      | io u' =>
        obtain ⟨o', g1, g2⟩ := ioE i u' h1
        exact fr.sa.nu p ⟨i, _, o', g1, rfl, g2.trans h3⟩ (.inr rfl)
      | ow u' => exact absurd (har _ (List.mem_of_getElem? h1)) (by simp [Sl.arg])
      | _ => cases h2
    have hp : H p = none := by
      have keep : ∀ u, H p = some u → H1 p = some u := fun u z => a.gr p u (fun c => nc ((chg_pad sa.len p).mp c)) z
      rcases fr.nw with q | q
      · exact (a.fr p q).elim (fun c => (nc ((chg_pad sa.len p).mp c)).elim) id
      · cases z : H p with
        | none => rfl
        | some u => rw [keep u z] at q; cases q
    obtain ⟨a', sub⟩ := b.leave sa har
    obtain ⟨sp, subP⟩ := b.leaveP sa har hp fr.sa
    exact po p H' a' hp sp (RepO.to (fun _ _ _ q => q) (fun x o n _ q => n (subP x q)) (fun _ q => q) fr.ob)
def xCallO (m : En → Rs Ob) (ma : En → Rs (List Ar)) : En → Rs Ob := fun env => (ma env).bind fun as env1 =>
  if (inrs as).Nodup then (match mkArgs env1 as with
    | none => .bad
    | some args => match m args with
      | .ok o args' => .ok o (putBack env1 as args')
      | .er x args' => .er x (putBack env1 as args')
      | .bad => .bad) else .bad
section
variable {X : Cx} {W : WX} {k n : Nat} {f : Addr} {fd : FuncData} {ps : List Str} {x : Str} {p pos : Pos} {e : Expr} {es : List Expr} {m : En → Rs Ob} {mq : En → Rs (List Ar)}
theorem ef_callO (F : FnG X.prog X.w X.K X.mg X.base k f fd ps (spO X.K (n + 1) m)) (c : Co X k) (tk : Takes X W) (hm : X.mg x = some (.ref f)) (hk : PySem.W.keepIn X.K (.ref f) = true) (hb : Binds X.K fd ps [])
    (ha : EvQ X W (e :: es) (n + 1) mq) (hg : Gl X x := by rfl) (hdb : (x == ("__debug__" : Str)) = false := by decide) (he : starEach (e :: es) X.env = (false, eval e X.env) :: starEach es X.env := by rfl)
    (hpl : (backTo pos (starEach es X.env)).any (·.1) = false := by rfl) : EvF X W (.Call (.Name x p) (e :: es) [] pos) (xCallO m mq) := by
  refine PE_imp (pe_cg F c tk hm hk hb .nil ha.pa hg hdb he hpl) fun σ H Q ⟨U, env, sa, po⟩ => ⟨U, env, sa, ?_⟩
  unfold xCallO at po
  cases hm : mq env with
  | bad => rw [hm] at po; exact po
  | er x e => rw [hm] at po; exact po
  | ok as e1 =>
    rw [hm] at po
    simp only [Rs.bind_ok] at po
    intro vs H1 a ra
    have ra : RAr X.K (Ux U e1 σ) σ H1 as vs := ra
    rw [List.append_nil]
    by_cases nd : (inrs as).Nodup
    · rw [if_pos nd] at po
      cases mk : mkArgs e1 as with
      | none => rw [mk] at po; exact po.elim
      | some args =>
        rw [mk] at po
        obtain ⟨U', sa', har, hsub, back⟩ := call_bridgeP a.sa ra nd mk
        refine ⟨U', args, by rw [ra.len, ha.len _ _ _ hm], sa', har, ?_⟩
        cases hr : m args with
        | bad => simp only [hr] at po; exact po
        | ok o args' =>
          simp only [hr] at po
          intro q H' b hq sp ro
          obtain ⟨⟨b', _⟩, bP⟩ := back args' H' b
          obtain ⟨sP, subP⟩ := bP q hq sp
          refine po q H' (Fre.pre a ⟨.inr hq, fun z => ?_, sP, b'.gr, b'.fr, fun i u h => let ⟨o', h1, _⟩ := b'.io i u h; ⟨o', h1⟩, RepO.to (fun _ _ _ q => q) (fun x o n _ q => n (subP x q)) (fun _ q => q) ro⟩)
          obtain ⟨u, hu⟩ := a.sa.al q z
          rw [hq] at hu
          cases hu
        | er y args' =>
          simp only [hr] at po
          intro cls dd H' b ex
          obtain ⟨⟨b', sub⟩, _⟩ := back args' H' b
          refine po cls dd H' (a.trans b') ?_
          obtain ⟨h1, h2⟩ := ex
          refine ⟨h1, h2.imp id ?_⟩
          rintro ⟨q, xs, e1, e2, e3, r⟩
          exact ⟨q, xs, e1, e2, e3, Reps.to (fun _ _ _ q => q) (fun b u nb _ z => nb (sub b z)) _ _ r⟩
    · rw [if_neg nd] at po; exact po.elim
end
end Mi

set_option Elab.async false
set_option linter.all false
set_option maxRecDepth 100000
set_option maxHeartbeats 4000000
/-! Mi39: the larger and the smaller of two texts; of a list of ints -/
namespace Mi
open PySem PySem.Spec L2
section
variable {prog : Program} {w : World} {A : Around} {E : Value → Shared → Prop} {s : Shared}
def strV : Value → Str
  | .str x _ => x
  | _ => ""
theorem cmpS_gt (vs : Array Value) (hn : ∀ v ∈ vs, ∃ x t, v = .str x t) :
    CmpOf prog w A .Gt (fun i v => vs[i]? = some v) (fun i j => sLt (strV (vs.getD j .none)) (strV (vs.getD i .none))) := fun i j vi vj s Q E hi hj h => by
  have e1 : vs.getD i .none = vi := by simp [Array.getD_eq_getD_getElem?, hi]
  have e2 : vs.getD j .none = vj := by simp [Array.getD_eq_getD_getElem?, hj]
  simp only [e1, e2] at h
  obtain ⟨x, t, rfl⟩ := hn _ (Array.mem_of_getElem? hi)
  obtain ⟨y, t', rfl⟩ := hn _ (Array.mem_of_getElem? hj)
  exact PySem.P.gt_str h
theorem cmpS_lt (vs : Array Value) (hn : ∀ v ∈ vs, ∃ x t, v = .str x t) :
    CmpOf prog w A .Lt (fun i v => vs[i]? = some v) (fun i j => sLt (strV (vs.getD i .none)) (strV (vs.getD j .none))) := fun i j vi vj s Q E hi hj h => by
  have e1 : vs.getD i .none = vi := by simp [Array.getD_eq_getD_getElem?, hi]
  have e2 : vs.getD j .none = vj := by simp [Array.getD_eq_getD_getElem?, hj]
  simp only [e1, e2] at h
  obtain ⟨x, t, rfl⟩ := hn _ (Array.mem_of_getElem? hi)
  obtain ⟨y, t', rfl⟩ := hn _ (Array.mem_of_getElem? hj)
  exact PyProof.Rows.lt_str h
theorem max_two_str {Q : Value → Shared → Prop} {x y : Str} {t t' : Tok} (hh : A.handled = none)
    (h : ∀ h' tk, (∀ c o, s.heap.get? c = some o → h'.get? c = some o) → Q (if sLt x y then .str y t' else .str x t) { s with heap := h', toks := tk }) :
    wpAny (model prog w) A (call (.builtin "max") [.str x t, .str y t']) Q E s := by
  have hT : (s.heap.push { cls := .type "tuple", data := .seq #[.str x t, .str y t'] }).IsTuple s.heap.objs.size #[.str x t, .str y t'] := ⟨_, Heap.get?_push_size _ rfl, rfl, 0, rfl⟩
  refine call_max_two (wpAny_pyIter_tuple hT ?_)
  have hsz : (s.heap.push { cls := .type "tuple", data := .seq #[.str x t, .str y t'] }).objs.size = s.heap.objs.size + 1 := Heap.size_push ..
  refine ⟨_, [_, s.heap.objs.size], [_], _, _, _, _, rfl, Walks.tuple (A := A.in1) hh _ s.heap.objs.size (by rw [hsz]; exact Nat.ne_of_lt (Nat.lt_succ_self _)) #[.str x t, .str y t'],
    ⟨⟨_, Heap.get?_push_size _ rfl, rfl, rfl⟩, hT.push _⟩, fun c hc => ?_, by simp, cmpS_gt #[.str x t, .str y t'] (by simp), fun v h' tk hP hk => ?_⟩
  · show c < ((s.heap.push _).push _).objs.size
    rw [Heap.size_push, hsz]
    rcases List.mem_cons.mp hc with rfl | hc
    · rw [hsz]; exact Nat.lt_succ_self _
    · rcases List.mem_cons.mp hc with rfl | hc
      · exact Nat.lt_succ_of_lt (Nat.lt_succ_self _)
      · cases hc
  · have hold : ∀ c o, s.heap.get? c = some o → h'.get? c = some o := fun c o e => by
      refine hk c o (fun hm => ?_) (Heap.get?_push_of_some _ (Heap.get?_push_of_some _ e))
      rcases List.mem_cons.mp hm with e1 | hm
      · have := Heap.lt_size e; rw [e1, hsz] at this; exact Nat.lt_irrefl _ (Nat.lt_of_succ_lt this)
      · cases hm
    have := h h' tk hold
    have hv : v = if sLt x y then .str y t' else .str x t := by
      cases hc : sLt x y <;> simp [argBest, strV, hc] at hP <;> simp [hP]
    rw [hv]; exact this
theorem min_two_str {Q : Value → Shared → Prop} {x y : Str} {t t' : Tok} (hh : A.handled = none)
    (h : ∀ h' tk, (∀ c o, s.heap.get? c = some o → h'.get? c = some o) → Q (if sLt y x then .str y t' else .str x t) { s with heap := h', toks := tk }) :
    wpAny (model prog w) A (call (.builtin "min") [.str x t, .str y t']) Q E s := by
  have hT : (s.heap.push { cls := .type "tuple", data := .seq #[.str x t, .str y t'] }).IsTuple s.heap.objs.size #[.str x t, .str y t'] := ⟨_, Heap.get?_push_size _ rfl, rfl, 0, rfl⟩
  refine call_min_two (wpAny_pyIter_tuple hT ?_)
  have hsz : (s.heap.push { cls := .type "tuple", data := .seq #[.str x t, .str y t'] }).objs.size = s.heap.objs.size + 1 := Heap.size_push ..
  refine ⟨_, [_, s.heap.objs.size], [_], _, _, _, _, rfl, Walks.tuple (A := A.in1) hh _ s.heap.objs.size (by rw [hsz]; exact Nat.ne_of_lt (Nat.lt_succ_self _)) #[.str x t, .str y t'],
    ⟨⟨_, Heap.get?_push_size _ rfl, rfl, rfl⟩, hT.push _⟩, fun c hc => ?_, by simp, cmpS_lt #[.str x t, .str y t'] (by simp), fun v h' tk hP hk => ?_⟩
  · show c < ((s.heap.push _).push _).objs.size
    rw [Heap.size_push, hsz]
    rcases List.mem_cons.mp hc with rfl | hc
    · rw [hsz]; exact Nat.lt_succ_self _
    · rcases List.mem_cons.mp hc with rfl | hc
      · exact Nat.lt_succ_of_lt (Nat.lt_succ_self _)
      · cases hc
  · have hold : ∀ c o, s.heap.get? c = some o → h'.get? c = some o := fun c o e => by
      refine hk c o (fun hm => ?_) (Heap.get?_push_of_some _ (Heap.get?_push_of_some _ e))
      rcases List.mem_cons.mp hm with e1 | hm
      · have := Heap.lt_size e; rw [e1, hsz] at this; exact Nat.lt_irrefl _ (Nat.lt_of_succ_lt this)
      · cases hm
    have := h h' tk hold
    have hv : v = if sLt y x then .str y t' else .str x t := by
      cases hc : sLt y x <;> simp [argBest, strV, hc] at hP <;> simp [hP]
    rw [hv]; exact this
end
/-! two ints or two texts -/
def gBest2 (f : Int → Int → Int) (g : Str → Str → Str) : List D → Option D
  | [.int i, .int j] => some (.int (f i j))
  | [.str i, .str j] => some (.str (g i j))
  | _ => none
def rBest2 (f : Int → Int → Int) (g : Str → Str → Str) : List V → Hp → VK → Prop := fun xs H Q => (∃ i j, xs = [.int i, .int j] ∧ Q (.int (f i j)) H) ∨ ∃ i j, xs = [.str i, .str j] ∧ Q (.str (g i j)) H
theorem n_best {K : PySem.W.Frag} {f : Int → Int → Int} {g : Str → Str → Str} : SndN K (gBest2 f g) (rBest2 f g) := by
  intro U H xs ds z Q al r hz q
  match ds, hz, r with
  | [], hz, _ => cases hz
  | [_], hz, _ => simp [gBest2] at hz
  | _ :: _ :: _ :: _, hz, _ => simp [gBest2] at hz
  | [d, e], hz, r =>
    obtain ⟨x, y, rfl, rx, ry⟩ := r.two
    cases d <;> cases e <;> simp [gBest2] at hz
    · subst hz
      exact .inl ⟨_, _, by rw [show x = _ from rx, show y = _ from ry], q _ H (Same.refl H) rfl⟩
    · subst hz
      exact .inr ⟨_, _, by rw [show x = _ from rx, show y = _ from ry], q _ H (Same.refl H) rfl⟩
def sMax (x y : Str) : Str := if sLt x y then y else x
def sMin (x y : Str) : Str := if sLt y x then y else x
abbrev gMaxB : List D → Option D := gBest2 (fun i j => if j > i then j else i) sMax
abbrev gMinB : List D → Option D := gBest2 (fun i j => if j < i then j else i) sMin
theorem call_maxB {X : Cx} (hc : X.calm = true) : CallR X (.builtin "max") (rBest2 (fun i j => if j > i then j else i) sMax) := by
  refine CallR.or (call_max2 hc) ?_
  intro pins s σ H xs us Q I r h
  obtain ⟨i, j, rfl, q⟩ := h
  obtain ⟨u, w', rfl, ⟨t, rfl⟩, ⟨t', rfl⟩⟩ := vals2 r
  refine max_two_str (I.ok.hd hc) fun h' tk k => ⟨_, H, I.kept k, ?_, q⟩
  unfold sMax
  by_cases hj : sLt i j = true
  · rw [if_pos hj, if_pos hj]; exact ⟨_, rfl⟩
  · rw [if_neg hj, if_neg hj]; exact ⟨_, rfl⟩
theorem call_minB {X : Cx} (hc : X.calm = true) : CallR X (.builtin "min") (rBest2 (fun i j => if j < i then j else i) sMin) := by
  refine CallR.or (call_min2 hc) ?_
  intro pins s σ H xs us Q I r h
  obtain ⟨i, j, rfl, q⟩ := h
  obtain ⟨u, w', rfl, ⟨t, rfl⟩, ⟨t', rfl⟩⟩ := vals2 r
  refine min_two_str (I.ok.hd hc) fun h' tk k => ⟨_, H, I.kept k, ?_, q⟩
  unfold sMin
  by_cases hj : sLt j i = true
  · rw [if_pos hj, if_pos hj]; exact ⟨_, rfl⟩
  · rw [if_neg hj, if_neg hj]; exact ⟨_, rfl⟩
/-! of a list, of a tuple -/
section
variable {prog : Program} {w : World} {A : Around} {E : Value → Shared → Prop} {s : Shared}
open PyProof.Rows PyProof.V PySem.W
theorem bestT_fp {ax : Addr} {items : Array Value} (ht : s.heap.IsTuple ax items) (o : Obj) : ∀ b ∈ [s.heap.objs.size, ax], b < (s.heap.push o).objs.size := fun b hb => by
  obtain ⟨o', ho, _⟩ := id ht
  rw [Heap.size_push]
  rcases List.mem_cons.mp hb with rfl | hb
  · exact Nat.lt_succ_self _
  · obtain rfl := List.mem_singleton.mp hb
    exact Nat.lt_succ_of_lt (Heap.lt_size ho)
theorem bestT_ne {ax : Addr} {items : Array Value} (ht : s.heap.IsTuple ax items) : ax ≠ s.heap.objs.size := by
  obtain ⟨o', ho, _⟩ := id ht
  exact Nat.ne_of_lt (Heap.lt_size ho)
theorem bestT_old {o : Obj} {h' : Heap} (hk : ∀ b o', b ∉ [s.heap.objs.size] → (s.heap.push o).get? b = some o' → h'.get? b = some o') : ∀ b o', s.heap.get? b = some o' → h'.get? b = some o' := fun b o' e =>
  hk b o' (fun hb => absurd (Heap.lt_size e) ((List.mem_singleton.mp hb) ▸ Nat.lt_irrefl _)) (Heap.get?_push_of_some _ e)
theorem min_intTup {t : Addr} {xs : Array (Int × Tok)} {Q : Value → Shared → Prop} (hh : A.handled = none) (ht : s.heap.IsTuple t (intItems xs)) (hne : 0 < xs.size)
    (h : ∀ v h' tk, (intItems xs)[argBest (fun i j => decide (numAt xs i < numAt xs j)) (xs.size - 1)]? = some v → (∀ b o, s.heap.get? b = some o → h'.get? b = some o) → Q v { s with heap := h', toks := tk }) :
    wpAny (model prog w) A (call (.builtin "min") [.ref t]) Q E s := by
  refine call_min_walk (wpAny_pyIter_tuple ht ?_)
  refine ⟨s.heap.objs.size, _, _, _, _, _, _, rfl, Walks.tuple (A := A.in1) hh _ t (bestT_ne ht) (intItems xs), ⟨⟨_, Heap.get?_push_size _ rfl, rfl, rfl⟩, ht.at fun o e => Heap.get?_push_of_some _ e⟩, bestT_fp ht _, by simpa [intItems] using hne, CmpOf.ints_lt (numAt xs) (fun _ _ => intItems_at), fun v h' tk hP hk => ?_⟩
  exact h v h' tk (by simpa [intItems] using hP) (bestT_old hk)
theorem max_intTup {t : Addr} {xs : Array (Int × Tok)} {Q : Value → Shared → Prop} (hh : A.handled = none) (ht : s.heap.IsTuple t (intItems xs)) (hne : 0 < xs.size)
    (h : ∀ v h' tk, (intItems xs)[argBest (fun i j => decide (numAt xs i > numAt xs j)) (xs.size - 1)]? = some v → (∀ b o, s.heap.get? b = some o → h'.get? b = some o) → Q v { s with heap := h', toks := tk }) :
    wpAny (model prog w) A (call (.builtin "max") [.ref t]) Q E s := by
  refine call_max_walk (wpAny_pyIter_tuple ht ?_)
  refine ⟨s.heap.objs.size, _, _, _, _, _, _, rfl, Walks.tuple (A := A.in1) hh _ t (bestT_ne ht) (intItems xs), ⟨⟨_, Heap.get?_push_size _ rfl, rfl, rfl⟩, ht.at fun o e => Heap.get?_push_of_some _ e⟩, bestT_fp ht _, by simpa [intItems] using hne, CmpOf.ints_gt (numAt xs) (fun _ _ => intItems_at), fun v h' tk hP hk => ?_⟩
  exact h v h' tk (by simpa [intItems] using hP) (bestT_old hk)
theorem max_rawT {l : Addr} {its : List Value} {ns : List Int} {Q : Value → Shared → Prop} (hh : A.handled = none) (hl : s.heap.IsTuple l its.toArray) (hi : IntsAre its ns) (hne : 0 < ns.length)
    (h : ∀ h' tk M t', (∀ b o, s.heap.get? b = some o → h'.get? b = some o) → M ∈ ns → (∀ a, a ∈ ns → a ≤ M) → Q (.int M t') { s with heap := h', toks := tk }) : wpAny (model prog w) A (call (.builtin "max") [.ref l]) Q E s := by
  obtain ⟨xs, e⟩ := hi.allInts.items
  have hn : numsOf (intItems xs).toList = ns := by rw [← e]; exact hi.numsOf
  rw [nums_intItems] at hn
  subst hn
  rw [e] at hl
  have hsz : 0 < xs.size := by simpa using hne
  refine max_intTup hh hl hsz fun v h' tk hv hk => ?_
  obtain ⟨t, rfl⟩ := intItems_at hv
  obtain ⟨h1, h2⟩ := argBest_gt (numAt xs) (xs.size - 1)
  refine h h' tk _ t hk ?_ fun a ha => ?_
  · rw [numAt_eq]; exact PySem.getD_mem (by rw [List.length_map, Array.length_toList]; omega)
  · obtain ⟨j, hj, rfl⟩ := mem_getD ha
    rw [List.length_map, Array.length_toList] at hj
    rw [← numAt_eq]; exact h2 j (by omega)
theorem min_rawT {l : Addr} {its : List Value} {ns : List Int} {Q : Value → Shared → Prop} (hh : A.handled = none) (hl : s.heap.IsTuple l its.toArray) (hi : IntsAre its ns) (hne : 0 < ns.length)
    (h : ∀ h' tk M t', (∀ b o, s.heap.get? b = some o → h'.get? b = some o) → M ∈ ns → (∀ a, a ∈ ns → M ≤ a) → Q (.int M t') { s with heap := h', toks := tk }) : wpAny (model prog w) A (call (.builtin "min") [.ref l]) Q E s := by
  obtain ⟨xs, e⟩ := hi.allInts.items
  have hn : numsOf (intItems xs).toList = ns := by rw [← e]; exact hi.numsOf
  rw [nums_intItems] at hn
  subst hn
  rw [e] at hl
  have hsz : 0 < xs.size := by simpa using hne
  refine min_intTup hh hl hsz fun v h' tk hv hk => ?_
  obtain ⟨t, rfl⟩ := intItems_at hv
  obtain ⟨h1, h2⟩ := argBest_lt (numAt xs) (xs.size - 1)
  refine h h' tk _ t hk ?_ fun a ha => ?_
  · rw [numAt_eq]; exact PySem.getD_mem (by rw [List.length_map, Array.length_toList]; omega)
  · obtain ⟨j, hj, rfl⟩ := mem_getD ha
    rw [List.length_map, Array.length_toList] at hj
    rw [← numAt_eq]; exact h2 j (by omega)
end
def rMaxM (K : PySem.W.Frag) : List V → Hp → VK → Prop := fun vs H Q => ∃ (a : Addr) (ns : List Int), vs = [V.ref a] ∧ (SqL K H a (ns.map V.int) ∨ SqT K H a (ns.map V.int)) ∧ 0 < ns.length ∧ ∀ m, m ∈ ns → (∀ y, y ∈ ns → y ≤ m) → Q (.int m) H
def rMinM (K : PySem.W.Frag) : List V → Hp → VK → Prop := fun vs H Q => ∃ (a : Addr) (ns : List Int), vs = [V.ref a] ∧ (SqL K H a (ns.map V.int) ∨ SqT K H a (ns.map V.int)) ∧ 0 < ns.length ∧ ∀ m, m ∈ ns → (∀ y, y ∈ ns → m ≤ y) → Q (.int m) H
theorem cr_maxM {X : Cx} (hc : X.calm = true) : CallR X (.builtin "max") (rMaxM X.K) := by
  intro pins s σ H vs us Q I r h
  obtain ⟨a, ns, rfl, hs, hne, q⟩ := h
  rcases hs with hs | hs
  · exact cr_max hc pins s σ H _ us Q I r ⟨a, ns, rfl, hs, hne, q⟩
  · obtain ⟨its, rv, hl, _⟩ := I.tuple hs
    rw [Vals.ref1 r]
    exact max_rawT (I.ok.hd hc) hl rv.ints hne fun h' tk m t' hk h1 h2 => ⟨.int _, H, I.kept hk, ⟨_, rfl⟩, q m h1 h2⟩
theorem cr_minM {X : Cx} (hc : X.calm = true) : CallR X (.builtin "min") (rMinM X.K) := by
  intro pins s σ H vs us Q I r h
  obtain ⟨a, ns, rfl, hs, hne, q⟩ := h
  rcases hs with hs | hs
  · exact cr_min hc pins s σ H _ us Q I r ⟨a, ns, rfl, hs, hne, q⟩
  · obtain ⟨its, rv, hl, _⟩ := I.tuple hs
    rw [Vals.ref1 r]
    exact min_rawT (I.ok.hd hc) hl rv.ints hne fun h' tk m t' hk h1 h2 => ⟨.int _, H, I.kept hk, ⟨_, rfl⟩, q m h1 h2⟩
def gBest1 (f : List Int → Option Int) : List D → Option D
  | [.lst ds] => ((intsD ds).bind f).map .int
  | [.tup ds] => ((intsD ds).bind f).map .int
  | _ => none
abbrev gMax1 : List D → Option D := gBest1 List.max?
abbrev gMin1 : List D → Option D := gBest1 List.min?
theorem n_best1 {K : PySem.W.Frag} {f : List Int → Option Int} {P : List Int → Int → Prop} (hf : ∀ ns m, f ns = some m → 0 < ns.length ∧ ∀ m', P ns m' → m' = m) : SndN K (gBest1 f) (fun vs H Q => ∃ (a : Addr) (ns : List Int), vs = [V.ref a] ∧ (SqL K H a (ns.map V.int) ∨ SqT K H a (ns.map V.int)) ∧ 0 < ns.length ∧ ∀ m, P ns m → Q (.int m) H) := by
  intro U H xs ds z Q al r hz q
  match ds, hz, r with
  | [], hz, _ => cases hz
  | _ :: _ :: _, hz, _ => simp [gBest1] at hz
  | [d], hz, r =>
    obtain ⟨x, rfl, rx⟩ := r.one
    cases d with
    | lst ds =>
      simp only [gBest1, Option.map_eq_some_iff, Option.bind_eq_some_iff] at hz
      obtain ⟨m, ⟨ns, e, hm⟩, rfl⟩ := hz
      obtain ⟨a, vs, rfl, h, _, rs⟩ := rx.lst_sq
      rw [intsD_v e rs] at h
      exact ⟨a, ns, rfl, .inl (.of h), (hf ns m hm).1, fun m' hm' => by rw [(hf ns m hm).2 m' hm']; exact q _ H (Same.refl H) rfl⟩
    | tup ds =>
      simp only [gBest1, Option.map_eq_some_iff, Option.bind_eq_some_iff] at hz
      obtain ⟨m, ⟨ns, e, hm⟩, rfl⟩ := hz
      obtain ⟨a, vs, rfl, h, _, rs⟩ := rx.tup_sq
      rw [intsD_v e rs] at h
      exact ⟨a, ns, rfl, .inr (.of h), (hf ns m hm).1, fun m' hm' => by rw [(hf ns m hm).2 m' hm']; exact q _ H (Same.refl H) rfl⟩
    | _ => simp [gBest1] at hz
theorem n_max1 {K : PySem.W.Frag} : SndN K gMax1 (rMaxM K) := by
  have := n_best1 (K := K) (f := List.max?) (P := fun ns m => m ∈ ns ∧ ∀ y, y ∈ ns → y ≤ m) fun ns m hm => by
    obtain ⟨h1, h2⟩ := List.max?_eq_some_iff.mp hm
    exact ⟨List.length_pos_of_mem h1, fun m' k => Int.le_antisymm (h2 _ k.1) (k.2 _ h1)⟩
  intro U H xs ds z Q al r hz q
  obtain ⟨a, ns, e, h, hn, hq⟩ := this U H xs ds z Q al r hz q
  exact ⟨a, ns, e, h, hn, fun m h1 h2 => hq m ⟨h1, h2⟩⟩
theorem n_min1 {K : PySem.W.Frag} : SndN K gMin1 (rMinM K) := by
  have := n_best1 (K := K) (f := List.min?) (P := fun ns m => m ∈ ns ∧ ∀ y, y ∈ ns → m ≤ y) fun ns m hm => by
    obtain ⟨h1, h2⟩ := List.min?_eq_some_iff.mp hm
    exact ⟨List.length_pos_of_mem h1, fun m' k => Int.le_antisymm (k.2 _ h1) (h2 _ k.1)⟩
  intro U H xs ds z Q al r hz q
  obtain ⟨a, ns, e, h, hn, hq⟩ := this U H xs ds z Q al r hz q
  exact ⟨a, ns, e, h, hn, fun m h1 h2 => hq m ⟨h1, h2⟩⟩
end Mi

set_option Elab.async false
set_option linter.all false
set_option maxRecDepth 100000
set_option maxHeartbeats 4000000
/-! Mi40: a target a[x], x a name -/
namespace Mi
open PySem PySem.Spec L2
def gStoV (i j : Nat) (g : Ob → D → D → Option Ob) : D → En → Option En := fun d env => match env[i]? with
  | some s => match s.ob with
    | some o => match env[j]? with
      | some (.v kd) => (g o kd d).map fun o' => env.set i (s.put o')
      | _ => none
    | none => none
  | none => none
theorem eg_subV {X : Cx} {tg : Expr} {i j : Nat} {g : Ob → D → D → Option Ob} {t : TSet} (hg : Sto X.K g t) (h : PG X tg (L2.gSub (tVar i) (tVar j) t)) : EvG X tg [] (gStoV i j g) :=
  PG_imp h fun v σ H Q ⟨U, env, d, env', sa, r, hm, q⟩ => by
    unfold gStoV at hm
    cases hi : env[i]? with
    | none => simp only [hi] at hm; cases hm
    | some s =>
      simp only [hi] at hm
      cases ho : s.ob with
      | none => simp only [ho] at hm; cases hm
      | some o =>
        simp only [ho] at hm
        cases hj : env[j]? with
        | none => simp only [hj] at hm; cases hm
        | some sj =>
          cases sj with
          | v kd =>
            simp only [hj, Option.map_eq_some_iff] at hm
            obtain ⟨o', hz, rfl⟩ := hm
            obtain ⟨p, ep, ro⟩ := sa.ob i s o hi ho
            obtain ⟨kv, ek, rk⟩ := sa.val j kd hj
            refine ⟨.ref p, ep, kv, ek, ?_⟩
            refine hg _ H p o kd d kv v o' _ sa.alU (.inr ⟨i, s, o, hi, ho, ep⟩) ro rk r hz fun hob ro' => ?_
            obtain ⟨st, _⟩ := Ste.write2 sa hi ho ep ro'
            exact q σ _ st ⟨rfl, fun _ _ => rfl⟩
          | _ => simp only [hj] at hm; cases hm
/-- a text's method, its arguments known from the call alone -/
theorem ev_tmJ {X : Cx} {W : WX} {e : Expr} {g : D → List D → Option D} {r : V → List V → Hp → VK → Prop} {mo : En → Rs D} {ma : En → Rs (List D)} (hs : SndM X.K g r) (h : PE X e (tBM X.K "str" r (tE X.K W mo) (tA X.K W ma))) : Ev X W e (xTm g mo ma) :=
  PE_imp h fun σ H Q ⟨U, env, sa, po⟩ => ⟨U, env, sa, Po.step po fun v H1 d e1 a rv po1 => by
    by_cases ht : isStrT d = true
    · rw [if_pos ht] at po1
      refine ⟨isStrT_v ht rv, U, e1, a.sa, Po.step po1 fun vs H2 ds e2 a2 rs po2 => ?_⟩
      obtain ⟨z, hz, q⟩ := Po.of_some a2.sa po2
      exact hs _ _ _ _ _ _ _ _ a2.sa.alU (a2.rep a.sa rv) rs hz q
    · rw [if_neg ht] at po1; exact po1.elim⟩
end Mi

set_option Elab.async false
set_option linter.all false
set_option maxRecDepth 100000
set_option maxHeartbeats 4000000
/-! Mi41: len(o), o of an own class with __len__ -/
namespace Mi
open PySem PySem.Spec PyProof.Rows L2
def okLen (i : Int) : Prop := 0 ≤ i ∧ i < 2 ^ 63
section
variable {X : Cx} {W : WX} {k : Nat} {C g : Addr} {fd : FuncData} {ps : List Str} {sp : Sp}
theorem call_lenO (hs : PySem.W.findIn X.K (.ref C) "__len__" = some (some (.ref g))) (hf : PySem.W.isFn X.K (.ref g) = true) (F : FnG X.prog X.w X.K X.mg X.base k g fd ps sp) (co : Co X (k + 1)) (hb : Binds X.K fd ps []) :
    CallR X (.builtin "len") (fun xs H Q => ∃ a dx fs, xs = [.ref a] ∧ H a = some (.ins C dx fs) ∧ sp [.ref a] H (fun v H' => ∃ i, v = .int i ∧ okLen i ∧ Q (.int i) H') fun _ _ _ => False) := by
  intro pins s σ H xs us Q I r h
  obtain ⟨a, dx, fs, rfl, ea, h⟩ := h
  rw [Vals.ref1 r]
  obtain ⟨mA, O, _, _, _, _⟩ := ins_get I.hok ea
  obtain ⟨od, J, _⟩ := O.look
  obtain ⟨m, hF⟩ := I.fr
  have hl : ([Value.ref a] ++ ([] : List Value)).length = ps.length := by
    rw [← F.len _ _ _ _ h]; rfl
  have bd := hb s [.ref a] I.kIn hl
  rw [List.append_nil] at bd
  refine PySem.W.len_K hF I.ok.mod.kin J hs hf (wpAny_call ?_)
  refine codeAny_mono (F.run X.A.in1 X.stack s H ⟨[.ref a], []⟩ [.ref a] [.ref a] _ (fun _ _ _ => False) co.hr.in1 (in1_guards.trans co.hg) I.env0.in1 bd (.cons rfl .nil) h) fun r s' hq => ?_
  cases r with
  | error er =>
    obtain ⟨_, _, _, _, _, _, _, _, _, _, _, _, _, _, _, _, z⟩ := XE.of_call (W := W0) I (fun _ _ _ z => z) hq
    exact z.elim
  | ok fl =>
    cases fl with
    | ret u =>
      obtain ⟨v, H', I3, rv, i, rfl, h0, q3⟩ := I.after hq
      obtain ⟨t, rfl⟩ := rv
      exact ⟨h0, .int i, H', I3.tok _, ⟨_, rfl⟩, q3⟩
    | next => exact False.elim hq
    | brk => exact False.elim hq
    | cont => exact False.elim hq
end
def lenI (z : D) (e : En) : Rs D := match z with
  | .int i => if 0 ≤ i ∧ i.natAbs < 2 ^ 60 then .ok (.int i) e else .bad
  | _ => .bad
def lenV (c : Str) (m : En → Rs D) (d : D) (e : En) : Rs D := match d with
  | .obj c' ns vs => if c' = c then (callV0 m [.obj c' ns vs] e).bind lenI else .bad
  | _ => .bad
def lenVs (c : Str) (m : En → Rs D) (ds : List D) (e : En) : Rs D := match ds with
  | [d] => lenV c m d e
  | _ => .bad
def xLenO (c : Str) (m : En → Rs D) (ma : En → Rs (List D)) : En → Rs D := fun env => (ma env).bind (lenVs c m)
section
variable {X : Cx} {W : WX} {k n : Nat} {c x : Str} {g : Addr} {fd : FuncData} {ps : List Str} {e : Expr} {p pos : Pos} {m : En → Rs D} {ma : En → Rs (List D)}
theorem ev_lenO (hs : PySem.W.findIn X.K (.ref (He.ga X.K c)) "__len__" = some (some (.ref g))) (hf : PySem.W.isFn X.K (.ref g) = true) (F : FnG X.prog X.w X.K X.mg X.base k g fd ps (spM X.K 1 m)) (co : Co X (k + 1)) (hb : Binds X.K fd ps [])
    (hm : X.mg "len" = none) (ha : EvN X W [e] n ma) (hg : Gl X "len" := by rfl)
    (he : starEach [e] X.env = (false, eval e X.env) :: starEach [] X.env := by rfl) (hpl : (backTo pos (starEach [] X.env)).any (·.1) = false := by rfl) : Ev X W (.Call (.Name "len" p) [e] [] pos) (xLenO c m ma) :=
  PE_imp (pe_callB (call_lenO hs hf F co hb) hg hm (by decide +kernel) ha.pa (by decide) (by decide) he hpl) fun σ H Q ⟨U, env, sa, po⟩ => ⟨U, env, sa, Po.step po fun vs H1 ds e1 a rs po1 => by
    have rs : Reps X.K (Ux U e1 σ) H1 ds vs := rs
    unfold lenVs at po1
    match ds, rs, po1 with
    | [], _, po1 => exact False.elim po1
    | _ :: _ :: _, _, po1 => exact False.elim po1
    | [d], rs, po1 =>
      obtain ⟨v, rfl, r⟩ := rs.one
      have po2 : Po (RD X.K) X.K W U e1 σ H1 (lenV c m d e1) Q := po1
      clear po1
      cases d with
      | obj c' ns vs0 =>
        simp only [lenV] at po2
        by_cases hcc : c' = c
        · rw [if_pos hcc] at po2
          subst hcc
          have r0 := r
          obtain ⟨p, dx, xs, rfl, nu, h, hl, rs⟩ := r0
          refine ⟨p, dx, _, rfl, h, sp_vals (W := W0) a.sa (ds := [D.obj c' ns vs0]) ⟨_, _, rfl, r, rfl⟩ rfl ?_⟩
          unfold callV0 at po2
          cases hm : m ([D.obj c' ns vs0].map Sl.v) with
          | bad => rw [hm] at po2; exact False.elim po2
          | er x e2 => rw [hm] at po2; exact False.elim po2
          | ok z e2 =>
            rw [hm] at po2
            have po3 : Po (RD X.K) X.K W U e1 σ H1 (lenI z e1) Q := po2
            clear po2
            cases z with
            | int i =>
              simp only [lenI] at po3
              by_cases hi : 0 ≤ i ∧ i.natAbs < 2 ^ 60
              · rw [if_pos hi] at po3
                exact fun v H' a2 r2 => ⟨i, r2, ⟨hi.1, by have := hi.2; omega⟩, po3 (.int i) H' a2 rfl⟩
              · rw [if_neg hi] at po3; exact False.elim po3
            | _ => exact False.elim po3
        · rw [if_neg hcc] at po2; exact False.elim po2
      | _ => exact False.elim po2⟩
end
end Mi

set_option Elab.async false
set_option linter.all false
set_option maxRecDepth 100000
set_option maxHeartbeats 4000000
/-! Mi42: a comprehension over the keys of a dict: the dict is locked meanwhile -/
namespace Mi
open PySem PySem.Spec L2
structure Lk (d : Addr) (kvs : List (Key × V)) (H H' : Hp) : Prop where
  ne : ∀ a, a ≠ d → H' a = H a
  a : Rd H d (.dK kvs)
  b : Rd H' d (.dK kvs)
section
variable {K : PySem.W.Frag} {U : Addr → Prop} {d : Addr} {kvs : List (Key × V)} {H H' : Hp}
theorem Lk.away (l : Lk d kvs H H') {a : Addr} {u : HO} (h : H a = some u) (n1 : u ≠ .dK kvs) (n2 : ∀ o, u ≠ .frz o (.dK kvs)) : a ≠ d := fun e => by
  subst e
  rcases l.a with q | ⟨o, q⟩
  · rw [h] at q; cases q; exact n1 rfl
  · rw [h] at q; cases q; exact n2 o rfl
theorem Lk.to (l : Lk d kvs H H') {a : Addr} {u : HO} (h : H a = some u) (n1 : u ≠ .dK kvs) (n2 : ∀ o, u ≠ .frz o (.dK kvs)) : H' a = some u := by
  rw [l.ne a (l.away h n1 n2)]; exact h
mutual
theorem Rep.lk (l : Lk d kvs H H') : ∀ (x : D) (v : V), Rep K U H x v → Rep K U H' x v
  | .non, _, h => h
  | .bl _, _, h => h
  | .int _, _, h => h
  | .str _, _, h => h
  | .tup ds, v, h => by
    obtain ⟨a, xs, e, ⟨h1, h3⟩, h2⟩ := h
    exact ⟨a, xs, e, ⟨l.to h1 (fun e => nomatch e) (fun _ e => nomatch e), h3⟩, Reps.lk l ds xs h2⟩
  | .lst ds, v, h => by
    obtain ⟨a, xs, e, ⟨h1, h3⟩, h2⟩ := h
    exact ⟨a, xs, e, ⟨l.to h1 (fun e => nomatch e) (fun _ e => nomatch e), h3⟩, Reps.lk l ds xs h2⟩
  | .dct false ks ds, v, h => by
    obtain ⟨a, xs, e, h3, ⟨kvs2, h1, q⟩, h2⟩ := h
    refine ⟨a, xs, e, h3, ⟨kvs2, ?_, q⟩, Reps.lk l ds xs h2⟩
    by_cases hd : a = d
    · subst hd
      have : kvs2 = kvs := by
        rcases l.a with q1 | ⟨o, q1⟩ <;> rcases h1 with q2 | ⟨o2, q2⟩ <;> rw [q1] at q2 <;> cases q2 <;> rfl
      rw [this]
      exact l.b
    · exact rd_to h1 fun o q => by rw [l.ne a hd]; exact q
  | .dct true ks ds, v, h => by
    obtain ⟨a, xs, e, h3, ⟨kvs2, h1, q⟩, h2⟩ := h
    refine ⟨a, xs, e, h3, ⟨kvs2, ?_, q⟩, Reps.lk l ds xs h2⟩
    rcases h1 with h1 | ⟨o, h1⟩
    · exact .inl (l.to h1 (fun e => nomatch e) (fun _ e => nomatch e))
    · exact .inr ⟨o, l.to h1 (fun e => nomatch e) (fun _ e => by cases e)⟩
  | .obj c ns ds, v, h => by
    obtain ⟨a, dx, xs, e, h3, h1, hl, h2⟩ := h
    exact ⟨a, dx, xs, e, h3, l.to h1 (fun e => nomatch e) (fun _ e => nomatch e), hl, Reps.lk l ds xs h2⟩
  | .fz ds, v, h => by
    obtain ⟨a, xs, e, h1, h2⟩ := h
    refine ⟨a, xs, e, ?_, Reps.lk l ds xs h2⟩
    rcases h1 with ⟨o, h1, n⟩ | h1
    · exact .inl ⟨o, l.to h1 (fun e => nomatch e) (fun _ e => by cases e), n⟩
    · exact .inr h1
theorem Reps.lk (l : Lk d kvs H H') : ∀ (ds : List D) (xs : List V), Reps K U H ds xs → Reps K U H' ds xs
  | [], _, h => h
  | x :: ds, xs, h => by
    obtain ⟨y, r, e, h1, h2⟩ := h
    exact ⟨y, r, e, Rep.lk l x y h1, Reps.lk l ds r h2⟩
end
theorem RepO.lk (l : Lk d kvs H H') {o : Ob} {a : Addr} (ha : a ≠ d) (h : RepO K U H o a) : RepO K U H' o a := by
  cases o with
  | lst ds => obtain ⟨xs, h, r⟩ := h; exact ⟨xs, by rw [l.ne a ha]; exact h, Reps.lk l _ _ r⟩
  | dct t ks ds => obtain ⟨xs, h, r⟩ := h; exact ⟨xs, h.to fun o q => by rw [l.ne a ha]; exact q, Reps.lk l _ _ r⟩
  | ins c ns ds => obtain ⟨dx, xs, h, hl, r⟩ := h; exact ⟨dx, xs, by rw [l.ne a ha]; exact h, hl, Reps.lk l _ _ r⟩
theorem SA.lk {env : En} {σ : St} (sa : SA K U env σ H) (l : Lk d kvs H H') (nd : ¬ Ux U env σ d) : SA K U env σ H' := by
  refine ⟨sa.len, fun a h => ?_, sa.nu, sa.inj, fun i x h => ?_, fun i s o h1 h2 => ?_⟩
  · rw [l.ne a fun e => nd (.inl (e ▸ h))]
    exact sa.al a h
  · obtain ⟨v, e, r⟩ := sa.val i x h
    exact ⟨v, e, Rep.lk l x v r⟩
  · obtain ⟨a, e, r⟩ := sa.ob i s o h1 h2
    exact ⟨a, e, RepO.lk l (fun z => nd (.inr ⟨i, s, o, h1, h2, z ▸ e⟩)) r⟩
/-- what was made while the dict was locked -/
theorem Fre.unlk {env env' : En} {σ : St} {o : Ob} {p : Addr} {od : Obj} (h : H d = some (.dK kvs)) (nd : ¬ Ux U env σ d) (f : Fre K U env σ (upd H d (.frz od (.dK kvs))) env' H' o p) :
    H' d = some (.frz od (.dK kvs)) ∧ Fre K U env σ H env' (upd H' d (.dK kvs)) o p := by
  have e1 : (upd H d (.frz od (.dK kvs))) d = some (.frz od (.dK kvs)) := upd_same
  have ne : ∀ a, a ≠ d → (upd H d (.frz od (.dK kvs))) a = H a := fun a q => upd_ne q
  have nc : ¬ Chg env σ d := fun q => nd (.inr q)
  have hf : H' d = some (.frz od (.dK kvs)) := f.gr d _ nc e1
  have l : Lk d kvs H' (upd H' d (.dK kvs)) := ⟨fun a q => upd_ne q, .inr ⟨od, hf⟩, .inl upd_same⟩
  have pd : p ≠ d := fun e => by
    subst e
    rcases f.nw with q | q
    · exact nc q
    · rw [e1] at q; cases q
  have nd' : ¬ Ux (Up U p) env' σ d := fun q => by
    rcases ux_up.mp q with (q | q) | q
    · exact nd (.inl q)
    · rcases f.fr d q with q | q
      · exact nc q
      · rw [e1] at q; cases q
    · exact pd q.symm
  have back : ∀ a, (upd H d (.frz od (.dK kvs))) a = none → H a = none := fun a q => by
    by_cases e : a = d
    · subst e; rw [e1] at q; cases q
    · rw [ne a e] at q; exact q
  refine ⟨hf, f.nw.imp id (back p), f.nu, f.sa.lk l nd', fun a u n q => ?_, fun a q => (f.fr a q).imp id (back a), f.io, RepO.lk l pd f.ob⟩
  by_cases e : a = d
  · subst e
    rw [h] at q
    cases q
    exact upd_same
  · rw [upd_ne e]
    exact f.gr a u n (by rw [ne a e]; exact q)
end
/-! ### the keys -/
def keysD : D → Option (List D)
  | .dct false ks _ => (strKs ks).map fun l => l.map .str
  | _ => none
def xIterK (j : Nat) : En → Rs (List D) := fun env => match env[j]? with
  | some (.v d) => .of (keysD d) env
  | _ => .bad
theorem itok_keys {K : PySem.W.Frag} {U : Addr → Prop} {H : Hp} {d : Addr} {o : Obj} {kvs : List (Key × V)} {t : List Str} (h : H d = some (.frz o (.dK kvs))) (nu : ¬ U d) (e : kvs.map (·.1) = t.map Sum.inr) : ItOk K U H (t.map .str) (Itk d o kvs) := by
  have hl : kvs.length = t.length := by simpa using congrArg List.length e
  refine ⟨fun i H2 hi k _ => ⟨k _ _ nu h, by simp at hi; omega⟩, fun i H2 hi k => ⟨k _ _ nu h, by simp at hi; omega⟩, fun i x H2 H3 y U' hd k ku al ⟨e1, q⟩ => ?_⟩
  subst e1
  obtain ⟨k', v, h1, rfl⟩ := q
  refine ⟨Same.refl _, ?_⟩
  rw [List.getElem?_map] at hd
  obtain ⟨z, hz, rfl⟩ := Option.map_eq_some_iff.mp hd
  have := congrArg (·[i]?) e
  simp only [List.getElem?_map, h1, hz, Option.map_some, Option.some.injEq] at this
  rw [this]
  rfl
theorem keys_imp {K : PySem.W.Frag} {W : WX} {j : Nat} {σ : St} {H : Hp} {R : It → Hp → Prop} {d : Addr} {o : Obj} {kvs : List (Key × V)} (hs : σ[j]? = some (some (V.ref d))) (hf : H d = some (.frz o (.dK kvs))) (h : tM (RI K) K W (xIterK j) σ H R) : iKeys (tVar j) σ H R := by
  obtain ⟨U, env, sa, po⟩ := h
  unfold xIterK at po
  cases hi : env[j]? with
  | none => simp only [hi] at po; exact po.elim
  | some s =>
    cases s with
    | v x =>
      simp only [hi] at po
      cases x with
      | dct t ks vs =>
        cases t with
        | true => exact False.elim po
        | false =>
          obtain ⟨v, e1, a, xs, rfl, nu, ⟨kvs2, h1, h2, _⟩, _⟩ := sa.val j _ hi
          rw [hs] at e1
          cases e1
          have : kvs2 = kvs := by
            rcases h1 with q | ⟨o2, q⟩
            · rw [hf] at q; cases q
            · rw [hf] at q; cases q; rfl
          subst this
          cases ht : strKs ks with
          | none => simp only [keysD, ht] at po; exact False.elim po
          | some t =>
            simp only [keysD, ht] at po
            exact ⟨.ref d, hs, d, o, rfl, .inl ⟨kvs2, hf, po _ H (.refl sa) (itok_keys hf nu (strKs_v ht h2))⟩⟩
      | _ => exact False.elim po
    | _ => simp only [hi] at po; exact False.elim po
theorem pe_lockOr {X : Cx} {e : Expr} {t : TE} (h : PE X e t) : PE X e (fun σ H Q => tLockE t σ H Q ∨ t σ H Q) :=
  ⟨fun pins s σ H Q I q => q.elim ((pe_lock h).run pins s σ H Q I) (h.run pins s σ H Q I)⟩
section
variable {X : Cx} {W : WX} {elt tg : Expr} {ifs : List Expr} {scope : Scope} {own : List (Str × Nat)} {pos p : Pos} {x : Str} {j : Nat} {is : List Nat} {mg : D → En → Option En} {mt : En → Rs Bool} {me : En → Rs D}
theorem lcK_imp {K : PySem.W.Frag} {σ : St} {H : Hp} {Q : VK} (sub : ∀ i ∈ is, i ∈ own.map (·.2)) (h : tN K W (mLc (own.map (·.2)) (xIterK j) mg mt (lcPush me)) σ H Q) :
    tLockE (tLc (iKeys (tVar j)) (tGt K is mg) (tT K W0 mt) (tE K W0 me) (own.map (·.2))) σ H Q ∨ tLc (iKeys (tVar j)) (tGt K is mg) (tT K W0 mt) (tE K W0 me) (own.map (·.2)) σ H Q := by
  obtain ⟨U, env, sa, po⟩ := h
  cases hi : env[j]? with
  | none => unfold mLc xIterK at po; simp only [hi] at po; exact False.elim po
  | some s =>
    cases s with
    | v y =>
      cases y with
      | dct t ks vs =>
        cases t with
        | true => unfold mLc xIterK at po; simp only [hi] at po; exact False.elim po
        | false =>
          obtain ⟨v, e1, d, xs, rfl, nu, ⟨kvs, h1, _, _⟩, _⟩ := sa.val j _ hi
          rcases h1 with h1 | ⟨o, h1⟩
          · refine .inl ⟨d, .dK kvs, h1, trivial, fun od => ?_⟩
            have l : Lk d kvs H (upd H d (.frz od (.dK kvs))) := ⟨fun a q => upd_ne q, .inl h1, .inr ⟨od, upd_same⟩⟩
            have ner : ∀ z e, mLc (own.map (·.2)) (xIterK j) mg mt (lcPush me) env ≠ .er z e := fun z e => by
              unfold mLc xIterK
              simp only [hi]
              cases keysD (.dct false ks vs) with
              | none => exact fun q => nomatch q
              | some ds =>
                show (if okVs env (own.map (·.2)) = true then _ else _) ≠ _
                split
                · split
                  · exact fun q => nomatch q
                  · exact fun q => nomatch q
                · exact fun q => nomatch q
            have po' : PoN K W U env σ (upd H d (.frz od (.dK kvs))) (mLc (own.map (·.2)) (xIterK j) mg mt (lcPush me) env) (fun v H' => H' d = some (.frz od (.dK kvs)) ∧ Q v (upd H' d (.dK kvs))) := by
              cases hm : mLc (own.map (·.2)) (xIterK j) mg mt (lcPush me) env with
              | bad => rw [hm] at po; exact po
              | er z e => exact (ner z e hm).elim
              | ok ob e2 =>
                rw [hm] at po
                intro q H' f
                obtain ⟨f1, f2⟩ := Fre.unlk h1 nu f
                exact ⟨f1, po q _ f2⟩
            exact keys_imp e1 upd_same (lc_imp sub ⟨U, env, sa.lk l nu, po'⟩)
          · exact .inr (keys_imp e1 h1 (lc_imp sub ⟨U, env, sa, po⟩))
      | _ => unfold mLc xIterK at po; simp only [hi] at po; exact False.elim po
    | _ => unfold mLc xIterK at po; simp only [hi] at po; exact False.elim po
theorem ef_lcK (hc : X.calm = true) (hN : X.N.Nodup) (hv : PE X (.Name x p) (tVar j)) (ok : BlkOk X.N X.env.scope scope own)
    (hg : ∀ (s : Shared) (H : Hp) (C : Addr) (cl : List (Str × Addr)) (fp : List Addr), EvG (X.blk s H scope (compEnvC scope cl C X.env) fp) tg is mg) (ht : ∀ (s : Shared) (H : Hp) (C : Addr) (cl : List (Str × Addr)) (fp : List Addr), EvTs (X.blk s H scope (compEnvC scope cl C X.env) fp) ifs mt)
    (he : ∀ (s : Shared) (H : Hp) (C : Addr) (cl : List (Str × Addr)) (fp : List Addr), Ev (X.blk s H scope (compEnvC scope cl C X.env) fp) W0 elt me) (sub : ∀ i ∈ is, i ∈ own.map (·.2)) (hs : ∀ y, foldedSetIterable (.Name x p) X.env y = pure y := by intro _; rfl) :
    EvF X W (.ListComp elt [⟨tg, .Name x p, ifs, 0⟩] scope pos) (mLc (own.map (·.2)) (xIterK j) mg mt (lcPush me)) :=
  PE_imp (pe_lockOr (pe_lc (g := tGt X.K is mg) (tt := tT X.K W0 mt) (te := tE X.K W0 me) hc hN (pi_keys hv) ok hg ht he hs)) fun σ H Q h => lcK_imp sub h
end
end Mi

set_option Elab.async false
set_option linter.all false
set_option maxRecDepth 100000
set_option maxHeartbeats 4000000
/-! Mi43: for over the keys of a dict: the dict is locked meanwhile -/
namespace Mi
open PySem PySem.Spec L2
section
variable {K : PySem.W.Frag} {W : WX} {U : Addr → Prop} {d : Addr} {kvs : List (Key × V)} {H H' : Hp}
theorem Ste.unlk {env env' : En} {σ σ' : St} {od : Obj} (h : H d = some (.dK kvs)) (nd : ¬ Ux U env σ d) (f : Ste K U env σ (upd H d (.frz od (.dK kvs))) env' σ' H') :
    H' d = some (.frz od (.dK kvs)) ∧ Lk d kvs H' (upd H' d (.dK kvs)) ∧ Ste K U env σ H env' σ' (upd H' d (.dK kvs)) := by
  have e1 : (upd H d (.frz od (.dK kvs))) d = some (.frz od (.dK kvs)) := upd_same
  have ne : ∀ a, a ≠ d → (upd H d (.frz od (.dK kvs))) a = H a := fun a q => upd_ne q
  have nc : ¬ Chg env σ d := fun q => nd (.inr q)
  have hf : H' d = some (.frz od (.dK kvs)) := f.gr d _ nc e1
  have l : Lk d kvs H' (upd H' d (.dK kvs)) := ⟨fun a q => upd_ne q, .inr ⟨od, hf⟩, .inl upd_same⟩
  have nd' : ¬ Ux U env' σ' d := fun q => by
    rcases q with q | q
    · exact nd (.inl q)
    · rcases f.fr d q with q | q
      · exact nc q
      · rw [e1] at q; cases q
  have back : ∀ a, (upd H d (.frz od (.dK kvs))) a = none → H a = none := fun a q => by
    by_cases e : a = d
    · subst e; rw [e1] at q; cases q
    · rw [ne a e] at q; exact q
  refine ⟨hf, l, f.sa.lk l nd', fun a u n q => ?_, fun a q => (f.fr a q).imp id (back a), f.io⟩
  by_cases e : a = d
  · subst e
    rw [h] at q
    cases q
    exact upd_same
  · rw [upd_ne e]
    exact f.gr a u n (by rw [ne a e]; exact q)
end
section
variable {X : Cx} {W : WX} {tg : Expr} {body : List Stmt} {mi : En → Rs (List D)} {is : List Nat} {mg : D → En → Option En} {mb : En → Rs Fl} {pos p : Pos} {x : Str} {j : Nat}
theorem for_imp {K : PySem.W.Frag} {Dn : Ends} {σ : St} {H : Hp} (h : tS K W (mFor mi mg mb) Dn σ H) : tFor (tM (RI K) K W mi) (tGt K is mg) (tS K W mb) Dn σ H := by
  obtain ⟨U, env, sa, po⟩ := h
  exact ⟨U, env, sa, PoS.step po fun J H1 ds e1 a it po1 => by
    have it : ItOk K (Ux U e1 σ) H1 ds J := it
    refine ⟨fun i m σ' H' => m = ds.length - i ∧ i ≤ ds.length ∧ ∃ e, Ste K U e1 σ H1 e σ' H' ∧ PoS K W U e σ' H' (forL mg mb (ds.drop i) e) Dn, ⟨ds.length, by simp, Nat.zero_le _, e1, .refl a.sa, po1⟩, ?_⟩
    rintro i m σ' H' ⟨rfl, hi, e, st, po2⟩
    have kp : ∀ a o, ¬ Ux U e1 σ a → H1 a = some o → H' a = some o := fun a o n h => st.gr a o (fun c => n (.inr c)) h
    by_cases hlt : i < ds.length
    · refine .inr ⟨it.go i H' hlt kp, fun σ2 H2 => ∃ e2, Ste K U e1 σ H1 e2 σ2 H2 ∧ PoS K W U e2 σ2 H2 (forL mg mb (ds.drop (i + 1)) e2) Dn, fun σ2 H2 ⟨e2, h1, h2⟩ => ⟨ds.length - (i + 1), by omega, rfl, hlt, e2, h1, h2⟩, fun x H2 y => ?_⟩
      have hd : ds[i]? = some ds[i] := by simp [hlt]
      have ku : ∀ a o, ¬ Ux U e1 σ a → H1 a = some o → ¬ Ux U e σ' a := fun a o n h q => q.elim (fun z => n (.inl z)) fun c => (st.fr a c).elim (fun z => n (.inr z)) fun z => by rw [h] at z; cases z
      obtain ⟨sm, rx⟩ := it.yld i _ H' H2 x (Ux U e σ') hd kp ku st.sa.alU y
      have st2 := st.same sm
      have po3 := PoS.shift ((Ste.refl st.sa).same sm) po2
      rw [List.drop_eq_getElem_cons hlt] at po3
      simp only [forL] at po3
      cases hg : mg ds[i] e with
      | none => simp only [hg] at po3; exact po3.elim
      | some e2 =>
        simp only [hg] at po3
        refine ⟨U, e, ds[i], e2, st2.sa, rx, hg, fun σ3 H3 s3 _ => ⟨U, e2, s3.sa, ?_⟩⟩
        have st3 := st2.trans s3
        cases hb : mb e2 with
        | bad => simp only [hb] at po3; exact po3.elim
        | er x e3 => simp only [hb] at po3; exact PoS.shift s3 po3
        | ok fl e3 =>
          simp only [hb] at po3
          cases fl with
          | nx => exact fun σ4 H4 s4 => ⟨e3, st3.trans s4, PoS.shift (s3.trans s4) po3⟩
          | ct => exact fun σ4 H4 s4 => ⟨e3, st3.trans s4, PoS.shift (s3.trans s4) po3⟩
          | bk => exact PoS.shift s3 po3
          | rt d => exact PoS.shift s3 po3
    · have e : i = ds.length := by omega
      subst e
      refine .inl ⟨it.stop _ H' (Nat.le_refl _) kp rfl, ?_⟩
      rw [List.drop_length] at po2
      exact po2 σ' H' (.refl st.sa)⟩
/-- nothing is raised within -/
def noEr (r : Rs Fl) : Rs Fl := match r with
  | .er _ _ => .bad
  | r => r
def mForK (j : Nat) (mg : D → En → Option En) (mb : En → Rs Fl) : En → Rs Fl := fun env => noEr (mFor (xIterK j) mg mb env)
theorem ps_lockOr {st : Stmt} {t : TS} (h : PS X st t) : PS X st (fun Dn σ H => tLock t Dn σ H ∨ t Dn σ H) :=
  ⟨fun pins s σ H Dn I q => q.elim ((ps_lock h).run pins s σ H Dn I) (h.run pins s σ H Dn I)⟩
theorem forK_imp {K : PySem.W.Frag} {Dn : Ends} {σ : St} {H : Hp} (h : tS K W (mForK j mg mb) Dn σ H) :
    tLock (tFor (iKeys (tVar j)) (tGt K is mg) (tS K W mb)) Dn σ H ∨ tFor (iKeys (tVar j)) (tGt K is mg) (tS K W mb) Dn σ H := by
  obtain ⟨U, env, sa, po⟩ := h
  unfold mForK at po
  cases hi : env[j]? with
  | none => unfold mFor xIterK at po; simp only [hi] at po; exact False.elim po
  | some s =>
    cases s with
    | v y =>
      cases y with
      | dct t ks vs =>
        cases t with
        | true => unfold mFor xIterK at po; simp only [hi] at po; exact False.elim po
        | false =>
          obtain ⟨v, e1, d, xs, rfl, nu, ⟨kvs, h1, _, _⟩, _⟩ := sa.val j _ hi
          rcases h1 with h1 | ⟨o, h1⟩
          · refine .inl ⟨d, .dK kvs, h1, trivial, fun od => ?_⟩
            have l : Lk d kvs H (upd H d (.frz od (.dK kvs))) := ⟨fun a q => upd_ne q, .inl h1, .inr ⟨od, upd_same⟩⟩
            refine keys_imp e1 upd_same (for_imp (W := W) ⟨U, env, sa.lk l nu, ?_⟩)
            cases hm : mFor (xIterK j) mg mb env with
            | bad => rw [hm] at po; exact po
            | er z e => rw [hm] at po; exact False.elim po
            | ok fl e2 =>
              rw [hm] at po
              intro σ' H' st
              obtain ⟨f1, l2, f2⟩ := Ste.unlk h1 nu st
              have q := po σ' _ f2
              cases fl with
              | nx => exact ⟨f1, q⟩
              | ct => exact ⟨f1, q⟩
              | bk => exact ⟨f1, q⟩
              | rt z => exact fun v r => ⟨f1, q v (Rep.lk l2 z v r)⟩
          · refine .inr (keys_imp e1 h1 (for_imp (W := W) ⟨U, env, sa, ?_⟩))
            cases hm : mFor (xIterK j) mg mb env with
            | bad => rw [hm] at po; exact po
            | er z e => rw [hm] at po; exact False.elim po
            | ok fl e2 => rw [hm] at po; exact po
      | _ => unfold mFor xIterK at po; simp only [hi] at po; exact False.elim po
    | _ => unfold mFor xIterK at po; simp only [hi] at po; exact False.elim po
theorem es_forK (hp : PassesOwn (model X.prog X.w) X.A X.env X.xe) (hc : X.calm = true) (hv : PE X (.Name x p) (tVar j)) (hg : EvG X tg is mg) (hb : EvSs X W body mb) (hs : ∀ y, foldedSetIterable (.Name x p) X.env y = pure y := by intro _; rfl) :
    EvS X W (.For tg (.Name x p) body [] pos) (mForK j mg mb) :=
  PS_imp (ps_lockOr (ps_for hp hc (pi_keys hv) hg hb hs)) fun Dn σ H h => forK_imp h
end
end Mi

set_option Elab.async false
set_option linter.all false
set_option maxRecDepth 100000
set_option maxHeartbeats 4000000
/-! Mi44: dict comprehensions of one clause, by keys of any kind -/
namespace Mi
open PySem PySem.Spec PyProof.Rows L2
theorem room_of {n : Nat} (h : n + 64 < cLine) : n < cLine := by omega
/-- an empty dict; t: its keys are to be tuples -/
def dE : Bool → HO
  | false => .dK []
  | true => .dT []
theorem dE_ok {P : Program} {w : World} {H : Hp} (h : Heap) (big : sysModules < h.objs.size) : ∀ t, ObjOk P w H (h.push { cls := .type "dict", data := .dict #[] }) h.objs.size (dE t)
  | false => dk_empty h big
  | true => dt_empty h big
/-- a store by a comprehension, whatever the key -/
theorem dput_c {X : Cx} {E : Value → Shared → Prop} {pins : List (Addr × Obj)} {σ : L2.St} {H H' : Hp} {s : Shared} {D : Addr} {y z : V} {u r : Value} {Q : Unit → Shared → Prop} (room : X.A.units < cLine) (I : Inv X pins σ H s) (ry : RelV y u) (rz : RelV z r)
    (dp : DPut H D y z H') (q : ∀ s', Inv X pins σ H' s' → Q () s') : wpAny (model X.prog X.w) X.A (dictSet D u r) Q E s := by
  rcases dp with ⟨kvs, k, at_, rfl, few, rfl⟩ | ⟨kvs, k, b, at_, rfl, kat, few, rfl⟩
  · exact d_dictSet I at_ few ry rz q
  · obtain rfl : u = Value.ref b := ry
    obtain ⟨le, sys, xs, rel, here⟩ := dt_of I.hok at_
    have le' : (putK kvs k z).length ≤ sizeLine := by
      have := length_putK kvs k z
      omega
    refine wpAny_dictSet_heap (knd := tupleKind (mixKind X.prog X.w)) room (key_of I.hok kat) here (fun h' here' same => q _ ?_) (by rw [← Paired.length rel]; exact le)
    obtain ⟨o, es, ep, g1, g2, g3, g4, _, g5⟩ := here'
    have kept : KT (upd H D (.dT (putK kvs k z))) (putK kvs k z) (storedH xs k b r) := (rel.put k kat rz).keeps fun c ys ec => by rw [upd_ne (ne_of ec at_ fun z => nomatch z)]; exact ec
    exact d_write I (by rw [at_]; trivial) same ⟨o, g1⟩ ⟨le', sys, _, kept, o, es, ep, g1, g2, g3, g4, g5⟩
section
variable {X : Cx} {kx vx tg iter : Expr} {ifs : List Expr} {scope : Scope} {own : List (Str × Nat)} {pos : Pos} {wi : TI} {g : TG} {tt : TT} {tk tv : TE}
/-- a turn with the item x: N is left to it -/
def dTurn (g : TG) (tt : TT) (tk tv : TE) (vs : List Nat) (σ : L2.St) (D : Addr) (N : Hp → Prop) (x : V) (H : Hp) : Prop :=
  g x (L2.wipe σ vs) H fun σ2 H2 => L2.wipe σ2 vs = L2.wipe σ vs ∧ tt σ2 H2 fun b H3 => if b = true then tk σ2 H3 fun y H4 => tv σ2 H4 fun z H5 => ∃ H6, DPut H5 D y z H6 ∧ N H6 else N H3
/-- n turns, L i ahead of the i-th -/
def tDct (t : Bool) (wi : TI) (g : TG) (tt : TT) (tk tv : TE) (vs : List Nat) : TE := fun σ H Q => wi σ H fun J H1 => ∀ D, H1 D = none → ∃ (n : Nat) (L : Nat → Hp → Prop), L 0 (upd H1 D (dE t)) ∧ (∀ H', L n H' → J.stop n H' ∧ Q (.ref D) H') ∧
  ∀ i H', i < n → L i H' → J.go i H' ∧ ∀ x H2, J.yld i H' x H2 → dTurn g tt tk tv vs σ D (L (i + 1)) x H2
abbrev InBlk (X : Cx) (scope : Scope) (P : Cx → Prop) : Prop := ∀ (s : Shared) (H : Hp) (C : Addr) (cl : List (Str × Addr)) (fp : List Addr), P (X.blk s H scope (compEnvC scope cl C X.env) fp)
theorem dct_core {t : Bool} {pins : List (Addr × Obj)} {σ : L2.St} {H : Hp} {s : Shared} {Q : VK} {pos2 : Pos} {use : Option (Value → Sem Unit)} {Qf : Value → Shared → Prop} (room : X.A.units < cLine) (hc : X.calm = true) (hN : X.N.Nodup) (I : Inv X pins σ H s) (hi : PI X tg iter wi) (ok : BlkOk X.N X.env.scope scope own) (hg : InBlk X scope fun Y => PG Y tg g) (ht : InBlk X scope fun Y => PTs Y ifs tt)
    (hk : InBlk X scope fun Y => PE Y kx tk) (hv : InBlk X scope fun Y => PE Y vx tv) (hs : ∀ x, foldedSetIterable iter X.env x = pure x) (h : tDct t wi g tt tk tv (own.map (·.2)) σ H Q)
    (ends : ∀ D C s' m G, Inv X pins σ G s' → Q (.ref D) G → s'.heap.Ns C m → FpOk X pins G C → compPost (model X.prog X.w) X.A X.xe use Qf (.ref D) C (.ok .next) s') :
    wpAny (model X.prog X.w) X.A (comprehension (.DictComp kx vx [⟨tg, iter, ifs, 0⟩] scope pos) scope X.env pos2 newDict false (eval iter X.env) use) Qf X.xe s := by
  have captured : ∀ y ∈ scope.names, y.2 = .free → ∃ c, X.env.cells.lookup y.1 = some c := fun y hy e => I.ok.has _ ((ok.free y hy e).imp id id)
  refine wpAny_comprehension_free (use := use) rfl hs (closure_ok captured) ok.kind (fun y hy e => by rw [ok.uniq y hy, e]) (thn (hi.run pins s σ H _ I h) fun src s1 h1 => thn h1 fun itv s2 h2 => ?_)
  obtain ⟨it, fp, tn, J, H2, rfl, I2, T, at0, foot, ask⟩ := h2
  refine wpAny_newObj_type (newEnv_comp ?_)
  obtain ⟨n, L, first, last, turn⟩ := ask s2.heap.objs.size (I2.hok.fresh (Nat.le_refl _))
  generalize eD : s2.heap.objs.size = D at first last turn ⊢
  generalize e3 : ({ s2 with heap := s2.heap.push { cls := .type "dict", data := .dict #[] } } : Shared) = s3
  have h3 : s3.heap = s2.heap.push { cls := .type "dict", data := .dict #[] } := by rw [← e3]
  have I3 : Inv X pins σ (upd H2 D (dE t)) s3 := by
    subst e3
    refine I2.laid (t' := s2.toks) (fun b o e => Heap.get?_push_of_some _ e) (Nat.le_of_eq eD) ?_
    rw [← eD]
    exact dE_ok s2.heap I2.big t
  have low : ∀ b ∈ fp, b < s2.heap.objs.size := fun b hb => (T.obj _ _ at0 b hb).elim fun o q => Heap.lt_size q.1
  have foot3 : ∀ b ∈ fp, FpOk X pins (upd H2 D (dE t)) b ∧ b < s3.heap.objs.size := fun b hb => by
    have lt := low b hb
    refine ⟨⟨?_, (foot b hb).2⟩, ?_⟩
    · rw [upd_ne (Nat.ne_of_lt (eD ▸ lt))]
      exact (foot b hb).1
    · rw [h3, Heap.size_push]
      exact Nat.lt_succ_of_lt lt
  have at3 : tn 0 s3.heap := T.keep _ _ _ at0 fun b _ o e => by
    rw [h3]
    exact Heap.get?_push_of_some _ e
  have I4 := block_start I3 ok hN foot3
  generalize eH : upd H2 D (dE t) = H3 at I3 I4 first foot3
  show codeAny (model X.prog X.w) X.A (.compStart (.DictComp kx vx [⟨tg, iter, ifs, 0⟩] scope pos) 0 (.ref it) (.ref D) (compEnvC scope (cellsFrom (s3.heap.objs.size + 1) scope.names (cloFrom X.env.cells scope.names [])) s3.heap.objs.size X.env))
    (compPost (model X.prog X.w) X.A X.xe use Qf (.ref D) s3.heap.objs.size) { s3 with heap := pushCells (s3.heap.push { cls := .type "dict", data := .dict #[] }) scope.names }
  have kg := hg s3 H3 s3.heap.objs.size (cellsFrom (s3.heap.objs.size + 1) scope.names (cloFrom X.env.cells scope.names [])) fp
  have kt := ht s3 H3 s3.heap.objs.size (cellsFrom (s3.heap.objs.size + 1) scope.names (cloFrom X.env.cells scope.names [])) fp
  have kk := hk s3 H3 s3.heap.objs.size (cellsFrom (s3.heap.objs.size + 1) scope.names (cloFrom X.env.cells scope.names [])) fp
  have kv := hv s3 H3 s3.heap.objs.size (cellsFrom (s3.heap.objs.size + 1) scope.names (cloFrom X.env.cells scope.names [])) fp
  have cL : (compEnvC scope (cellsFrom (s3.heap.objs.size + 1) scope.names (cloFrom X.env.cells scope.names [])) s3.heap.objs.size X.env).locals = s3.heap.objs.size := rfl
  generalize ece : compEnvC scope (cellsFrom (s3.heap.objs.size + 1) scope.names (cloFrom X.env.cells scope.names [])) s3.heap.objs.size X.env = ce at I4 kg kt kk kv cL ⊢
  generalize eC : s3.heap.objs.size = C at cL ⊢
  generalize e4 : ({ s3 with heap := pushCells (s3.heap.push { cls := .type "dict", data := .dict #[] }) scope.names } : Shared) = s4 at I4 ⊢
  have at4 : tn 0 s4.heap := T.keep _ _ _ at3 fun b _ o e => by
    rw [← e4]
    exact pushCells_keeps _ _ _ _ (Heap.get?_push_of_some _ e)
  have clear3 : ∀ b ∈ fp, H3 b = none := fun b hb => (foot3 b hb).1.1
  -- what stands ahead of the i-th turn
  let Y : Cx := X.blk s3 H3 scope ce fp
  have inner : ∀ {τ : L2.St} {G : Hp} {s' : Shared}, Inv Y [] τ G s' → (∀ b ∈ fp, G b = none) → ∀ b ∈ fp, FpOk Y [] G b := fun {τ G s'} J' free b hb =>
    ⟨free b hb, (J'.ok.exf b hb).1, J'.ok.exfs b hb, .inl hb, fun x c e => (J'.ok.exf b hb).2 x c e, fun p hp => by cases hp⟩
  have whole : codeAny (model X.prog X.w) X.A (.compLoop (.DictComp kx vx [⟨tg, iter, ifs, 0⟩] scope pos) 0 (.ref it) (.ref D) ce)
      (fun r s' => match r with
        | .ok .next => ∃ G m, Inv X pins σ G s' ∧ Q (.ref D) G ∧ s'.heap.Ns C m ∧ FpOk X pins G C
        | _ => False) s4 := by
    refine compLoop_anyD (fun k s' => ∃ i G, k = n - i ∧ i ≤ n ∧ Inv Y [] (L2.wipe σ (own.map (·.2))) G s' ∧ tn i s'.heap ∧ (∀ b ∈ fp, G b = none) ∧ L i G) ?_ n ⟨0, H3, by simp, Nat.zero_le _, I4, at4, clear3, first⟩
    rintro k s5 ⟨i, G5, rfl, le, I5, at5, cl5, l5⟩
    by_cases lt : i < n
    · obtain ⟨go, step⟩ := turn i G5 lt l5
      refine thnF (T.item Y rfl rfl rfl hc i [] s5 _ G5 (fun _ _ => False) I5 (inner I5 cl5) at5 go) fun r s6 ⟨u, er, h6⟩ => ?_
      subst er
      refine thnF h6 fun _ s7 ⟨x, G7, I7, rx, y7, at7, cl7⟩ => ?_
      have pinned := I7.pinned (inner I7 cl7) (T.obj _ _ at7)
      refine thnF (kg.run _ s7 _ G7 x u _ pinned rx (step x G7 y7)) fun _ s8 ⟨σ8, G8, I8, w8, q8⟩ => ?_
      refine thnF (kt.run _ s8 σ8 G8 _ I8 q8) fun b s9 ⟨G9, I9, q9⟩ => ?_
      have next : ∀ {s' : Shared} {G' : Hp}, Inv Y ([] ++ pinsAt fp s7.heap) σ8 G' s' → L (i + 1) G' → ∃ m, m < n - i ∧ ∃ j G, m = n - j ∧ j ≤ n ∧ Inv Y [] (L2.wipe σ (own.map (·.2))) G s' ∧ tn j s'.heap ∧ (∀ b ∈ fp, G b = none) ∧ L j G := fun {s' G'} J' l' => by
        have still : ∀ b ∈ fp, ∀ o, s7.heap.get? b = some o → s'.heap.get? b = some o ∧ G' b = none := fun b hb o e => (J'.pin (b, o) (List.mem_append_right _ (List.mem_append_right _ (mem_pinsAt hb e)))).imp id fun q => q.1
        have len : (L2.wipe σ (own.map (·.2))).length = σ8.length := by rw [← w8, wipe_length]
        refine ⟨n - (i + 1), by omega, i + 1, G', rfl, lt, (J'.unpinned (pins := [])).weak len (fun j v e => (wipe_some (by rw [w8]; exact e)).1), T.keep _ _ _ at7 fun b hb o e => (still b hb o e).1, fun b hb => ?_, l'⟩
        obtain ⟨o, e, _⟩ := T.obj _ _ at7 b hb
        exact (still b hb o e).2
      cases b with
      | false => exact next I9 q9
      | true =>
        refine thnF (kk.run _ s9 σ8 G9 _ I9 q9) fun ku s10 ⟨y, G10, I10, ry, q10⟩ => ?_
        refine thnF (kv.run _ s10 σ8 G10 _ I10 q10) fun vu s11 ⟨z, G11, I11, rz, G12, dp, l'⟩ => ?_
        exact dput_c (X := Y) room I11 ry rz dp fun s12 I12 => next I12 l'
    · have e : i = n := by omega
      subst e
      obtain ⟨stop, done⟩ := last G5 l5
      refine thnF (T.done Y rfl rfl rfl hc i [] s5 _ G5 (fun _ _ => False) I5 (inner I5 cl5) at5 stop) fun r s6 ⟨er, I6⟩ => ?_
      subst er
      have back : Inv X pins σ G5 s6 := I3.call' (ch := fp) I6.os I6.base I6.hok I6.bare fun b hb => let q := (foot3 b hb).1; ⟨q.2.2.2.1, q.2.1, q.2.2.2.2.1, q.2.2.2.2.2⟩
      have free : G5 C = none := by
        rw [← cL]
        exact I6.free
      obtain ⟨m, ns, _⟩ := I6.loc
      refine ⟨G5, m, back, done, ?_, I3.fpOk (Nat.le_of_eq eC) free⟩
      rw [← cL]
      exact ns
  have fine : codeAny (model X.prog X.w) X.A (.compLoop (.DictComp kx vx [⟨tg, iter, ifs, 0⟩] scope pos) 0 (.ref it) (.ref D) ce) (compPost (model X.prog X.w) X.A X.xe use Qf (.ref D) C) s4 := codeAny_mono whole fun r s' hr => by
    match r, hr with
    | .ok .next, ⟨G, m, J', q, ns, f⟩ => exact ends D C s' m G J' q ns f
  exact codeAny_compStart_dict fine (T.self X.A 0 _ _ _ at4 fine)
/-- as a value -/
theorem pe_dct {t : Bool} (room : X.A.units < cLine) (hc : X.calm = true) (hN : X.N.Nodup) (hi : PI X tg iter wi) (ok : BlkOk X.N X.env.scope scope own) (hg : InBlk X scope fun Y => PG Y tg g) (ht : InBlk X scope fun Y => PTs Y ifs tt)
    (hk : InBlk X scope fun Y => PE Y kx tk) (hv : InBlk X scope fun Y => PE Y vx tv) (hs : ∀ x, foldedSetIterable iter X.env x = pure x) : PE X (.DictComp kx vx [⟨tg, iter, ifs, 0⟩] scope pos) (tDct t wi g tt tk tv (own.map (·.2))) := by
  refine ⟨fun pins s σ H Q I h => ?_⟩
  rw [arm_eval_DictComp]
  refine dct_core room hc hN I hi ok hg ht hk hv hs h fun D C s' m G J' q ns f => ⟨m, ns, fun h'' sb => ?_⟩
  obtain ⟨f0, f1, f2, f3, f4, f5⟩ := f
  exact ⟨.ref D, G, J'.turned (t' := s'.toks) (fun b o hb e => (sb.2 b hb).trans e) f0 f1 f3 f4 f5, rfl, q⟩
/-- name = {..} where the name is a local, both on one line -/
theorem ps_setDct {t : Bool} {i : Nat} {y : Str} {py spos : Pos} (room : X.A.units < cLine) (hc : X.calm = true) (hN : X.N.Nodup) (hy : X.N[i]? = some y) (hyl : X.env.scope.names.lookup y = some .local) (hsw : swapsWith (.DictComp kx vx [⟨tg, iter, ifs, 0⟩] scope pos) (some (.Name y py)) spos.line X.env = pure true)
    (hi : PI X tg iter wi) (ok : BlkOk X.N X.env.scope scope own) (hg : InBlk X scope fun Y => PG Y tg g) (ht : InBlk X scope fun Y => PTs Y ifs tt) (hk : InBlk X scope fun Y => PE Y kx tk) (hv : InBlk X scope fun Y => PE Y vx tv) (hs : ∀ x, foldedSetIterable iter X.env x = pure x) :
    PS X (.Assign [.Name y py] (.DictComp kx vx [⟨tg, iter, ifs, 0⟩] scope pos) spos) (tAsg (tDct t wi g tt tk tv (own.map (·.2))) (gName i)) := by
  refine ⟨fun pins s σ H Dn I h => ?_⟩
  have h : tDct t wi g tt tk tv (own.map (·.2)) σ H (fun x G => gName i x σ G Dn.nx) := h
  rw [exec_Assign_Name_used _ _ _ _ hsw]
  refine wpAny_bind (wpAny_standAt (wpAny_bind (wpAny_bind (thn (dct_core (use := some (assign (.Name y py) X.env)) (Qf := fun _ s' => SP X pins Dn .next s') room hc hN I hi ok hg ht hk hv hs h fun D C s' m G J' q ns f => ?_) fun _ s' hq => wpAny_pure (wpAny_pure hq)))))
  obtain ⟨f0, f1, f2, f3, f4, f5⟩ := f
  show wpAny _ _ (assign (.Name y py) X.env (.ref D)) _ _ _
  refine wpAny_assign_Name (store_ok2 (v := V.ref D) J' hN hy (.inl hyl) rfl (fun s2 I2 ⟨a, sb, ha⟩ => ?_) (.inr hyl))
  have apart : C ≠ a := ha.elim (fun z => by rw [z]; exact f1) fun z e => f4 y a z e.symm
  exact ⟨m, ns.sameBut sb apart, fun h3 sb3 => ⟨_, G, I2.turned (t' := s2.toks) (fun b o hb e => (sb3.2 b hb).trans e) f0 f1 f3 f4 f5, q⟩⟩
theorem sw_dct {gs : List Comprehension} {py : Pos} {y : Str} {l : Nat} {env : Env} (hk : env.scope.kind = .function) (hy : env.scope.names.lookup y = some .local) (hl : (py.line == pos.line) = true)
    (ha : (scope.names.any fun (n, k) => n == y && (k == .local || k == .cell)) = false) : swapsWith (.DictComp kx vx gs scope pos) (some (.Name y py)) l env = pure true := by
  have hy : env.kindOf y = some .local := hy
  have hb : env.blockKind = .function := by
    unfold Env.blockKind
    rw [hk]
    rfl
  simp only [swapsWith, hb, hy, ha, Expr.pos, hl]
  rfl
end

/-! ### the mirror -/
section
variable {K : PySem.W.Frag} {U : Addr → Prop} {env : En} {σ : L2.St} {H : Hp}
/-- a new object at p is being filled -/
structure NwI (K : PySem.W.Frag) (U : Addr → Prop) (env : En) (σ : L2.St) (H : Hp) (p : Addr) (e : En) (σ' : L2.St) (H' : Hp) (o : Ob) : Prop where
  sa : SA K (Up U p) e σ' H'
  gr : Gr (Chg env σ) H H'
  fr : ∀ a, Chg e σ' a → Chg env σ a ∨ H a = none
  io : ∀ (i : Nat) (u : Ob), env[i]? = some (.io u) → ∃ o' : Ob, e[i]? = some (.io o') ∧ σ'[i]? = σ[i]?
  ob : RepO K (Ux (Up U p) e σ') H' o p
  nw : H p = none
variable {p : Addr} {e e2 : En} {σ' σ2 : L2.St} {H' H2 : Hp} {o : Ob}
theorem NwI.step (l : NwI K U env σ H p e σ' H' o) (st : Ste K (Up U p) e σ' H' e2 σ2 H2) : NwI K U env σ H p e2 σ2 H2 o where
  sa := st.sa
  gr := fun a u n h => st.gr a u (fun c => (l.fr a c).elim n fun z => by rw [h] at z; cases z) (l.gr a u n h)
  fr := fun a c => by
    rcases st.fr a c with q | q
    · exact l.fr a q
    · by_cases n : Chg env σ a
      · exact .inl n
      · refine .inr ?_
        cases z : H a with
        | none => rfl
        | some o =>
          rw [l.gr a o n z] at q
          cases q
  io := fun i u h => by
    obtain ⟨o1, h1, e1⟩ := l.io i u h
    obtain ⟨o2, h2, e2⟩ := st.io i o1 h1
    exact ⟨o2, h2, e2.trans e1⟩
  ob := RepO.to (fun x u n h => st.gr x u (fun c => n (.inr c)) h) (fun x u n h q => q.elim (fun z => n (.inl z)) fun c => (st.fr x c).elim (fun z => n (.inr z)) fun z => by rw [h] at z; cases z) (fun u h => st.gr p u (fun c => l.sa.nu p c (.inr rfl)) h) l.ob
  nw := l.nw
theorem NwI.wipe (l : NwI K U env σ H p e σ' H' o) (vs : List Nat) (ok : okVs env vs = true) : NwI K U env σ H p (wipeE e vs) (wipe σ' vs) H' o where
  sa := l.sa.wipe vs
  gr := l.gr
  fr := fun a c => l.fr a (chg_wipe c)
  io := fun i u h => by
    have n : i ∉ vs := fun m => by
      have := List.all_eq_true.mp ok i m
      rw [h] at this
      cases this
    obtain ⟨o', h1, h2⟩ := l.io i u h
    exact ⟨o', by rw [wipeE_out n]; exact h1, by rw [wipe_out n]; exact h2⟩
  ob := RepO.to (fun _ _ _ q => q) (fun x u n _ q => n (q.imp id chg_wipe)) (fun _ q => q) l.ob
  nw := l.nw
theorem NwI.fin {vs : List Nat} (sa : SA K U env σ H) (ok : okVs env vs = true) (l : NwI K U env σ H p e (L2.wipe σ vs) H' o) : Fre K U env σ H (backE env e vs) H' o p := by
  have notob : ∀ {i : Nat} {s : Sl} {o : Ob}, env[i]? = some s → i ∈ vs → s.ob = some o → False := fun {i s o} h1 h2 h3 => by
    have := List.all_eq_true.mp ok i h2
    rw [h1] at this
    cases s <;> first | (cases h3; done) | (simp at this; done)
  -- an object's slot is outside vs
  have obs : ∀ {i : Nat} {s : Sl} {o : Ob}, (backE env e vs)[i]? = some s → s.ob = some o → e[i]? = some s ∧ (i ∉ vs ∨ env[i]? = none) := fun {i s o} h1 h2 => by
    rcases backE_get h1 with q | ⟨q, m⟩
    · exact q
    · exact (notob q m h2).elim
  have le : e.length = env.length := by rw [l.sa.len, wipe_length, sa.len]
  have none_lt : ∀ {i : Nat} {s : Sl}, e[i]? = some s → env[i]? = none → False := fun {i s} h1 h2 => by
    have a := (List.getElem?_eq_some_iff.mp h1).1
    have b := List.getElem?_eq_none_iff.mp h2
    omega
  have obs2 : ∀ {i : Nat} {s : Sl} {o : Ob}, (backE env e vs)[i]? = some s → s.ob = some o → e[i]? = some s ∧ i ∉ vs := fun {i s o} h1 h2 => by
    obtain ⟨a, b⟩ := obs h1 h2
    exact ⟨a, b.resolve_right fun n => none_lt a n⟩
  have ch : ∀ a, Chg (backE env e vs) σ a → Chg e (L2.wipe σ vs) a := fun a ⟨i, s, o, h1, h2, h3⟩ => by
    obtain ⟨q, n⟩ := obs2 h1 h2
    exact ⟨i, s, o, q, h2, by rw [wipe_out n]; exact h3⟩
  have sub : ∀ {V : Addr → Prop} x, Ux V (backE env e vs) σ x → Ux V e (L2.wipe σ vs) x := fun x h => h.imp id (ch x)
  have kp : ∀ a o, ¬ Ux U env σ a → H a = some o → H' a = some o := fun a o n h => l.gr a o (fun c => n (.inr c)) h
  have ku : ∀ a o, ¬ Ux U env σ a → H a = some o → ¬ Ux (Up U p) (backE env e vs) σ a := fun a o n h q => by
    rcases ux_up.mp (sub a q) with q | q
    · rcases q with q | q
      · exact n (.inl q)
      · exact (l.fr a q).elim (fun c => n (.inr c)) fun z => by rw [h] at z; cases z
    · rw [q, l.nw] at h
      cases h
  refine ⟨.inr l.nw, fun h => ?_, ⟨by rw [backE_len, le, sa.len], l.sa.al, fun a c => l.sa.nu a (ch a c), fun i j s t o q a h1 h2 h3 h4 h5 h6 => ?_, fun i d h => ?_, fun i s o h1 h2 => ?_⟩, l.gr, fun a c => l.fr a (ch a c), fun i o h => ?_, ?_⟩
  · obtain ⟨o, z⟩ := sa.al p h
    rw [l.nw] at z
    cases z
  · obtain ⟨q1, n1⟩ := obs2 h1 h2
    obtain ⟨q2, n2⟩ := obs2 h3 h4
    exact l.sa.inj i j s t o q a q1 h2 q2 h4 (by rw [wipe_out n1]; exact h5) (by rw [wipe_out n2]; exact h6)
  · rcases backE_get h with ⟨q, n⟩ | ⟨q, m⟩
    · have n := n.resolve_right fun z => none_lt q z
      obtain ⟨v, e1, r⟩ := l.sa.val i d q
      rw [wipe_out n] at e1
      exact ⟨v, e1, Rep.to (fun _ _ _ q => q) (fun x o n _ q => n (sub x q)) d v r⟩
    · obtain ⟨v, e1, r⟩ := sa.val i d q
      exact ⟨v, e1, Rep.to kp ku d v r⟩
  · obtain ⟨q, n⟩ := obs2 h1 h2
    obtain ⟨a, e1, r⟩ := l.sa.ob i s o q h2
    rw [wipe_out n] at e1
    exact ⟨a, e1, RepO.to (fun _ _ _ q => q) (fun x o n _ q => n (sub x q)) (fun _ q => q) r⟩
  · obtain ⟨o', h1, _⟩ := l.io i o h
    refine ⟨o', ?_⟩
    rw [backE_out (fun m => notob h m rfl)]
    exact h1
  · exact RepO.to (fun _ _ _ q => q) (fun x o n _ q => n (sub x q)) (fun _ q => q) l.ob

theorem NwI.start {ho : HO} (sa : SA K U env σ H) (hp : H p = none) (vs : List Nat) (ok : okVs env vs = true) (r : RepO K (Ux (Up U p) env σ) (upd H p ho) o p) : NwI K U env σ H p (wipeE env vs) (L2.wipe σ vs) (upd H p ho) o := by
  have f := Fre.new (o := o) (ho := ho) sa hp r
  have l : NwI K U env σ H p env σ (upd H p ho) o := ⟨f.sa, f.gr, f.fr, fun i u h => ⟨u, h, rfl⟩, f.ob, hp⟩
  exact l.wipe vs ok
theorem NwI.put {t : Bool} {ks : List Ky} {ds : List D} {kd d : D} {kv v : V} {o' : Ob} (l : NwI K U env σ H p e σ' H' (.dct t ks ds)) (rk : Rep K (Ux (Up U p) e σ') H' kd kv) (rd : Rep K (Ux (Up U p) e σ') H' d v) (hg : gSto (.dct t ks ds) kd d = some o') :
    ∃ H2, DPut H' p kv v H2 ∧ NwI K U env σ H p e σ' H2 o' := by
  have up : Up U p p := .inr rfl
  have st : rSetM (.ref p) kv v H' fun H2 => NwI K U env σ H p e σ' H2 o' := st_m (K := K) (Ux (Up U p) e σ') H' p _ kd d kv v o' _ l.sa.alU (.inl up) l.ob rk rd hg fun ho r => ⟨l.sa.updU up, fun a u n h => by
    rw [upd_ne (fun z => by rw [z, l.nw] at h; cases h)]
    exact l.gr a u n h, l.fr, l.io, r, l.nw⟩
  rcases st with ⟨a, xs, k0, j0, ea, _, h1, _⟩ | ⟨a, H2, ea, dp, q⟩
  · cases ea
    obtain ⟨ys, dat, _⟩ := l.ob
    cases t with
    | false => obtain ⟨kvs, h2, _⟩ := dat; rw [h1] at h2; cases h2
    | true => obtain ⟨kvs, h2, _⟩ := dat; rw [h1] at h2; cases h2
  · cases ea
    exact ⟨H2, dp, q⟩
end
def dcStep (vs : List Nat) (mg : D → En → Option En) (mt : En → Rs Bool) (mk mv : En → Rs D) (d : D) (o : Ob) (e : En) : Rs Ob := match mg d e with
  | none => .bad
  | some e2 => match mt e2 with
    | .ok false e3 => .ok o (wipeE e3 vs)
    | .ok true e3 => match mk e3 with
      | .ok k e4 => match mv e4 with
        | .ok z e5 => match gSto o k z with
          | some o' => .ok o' (wipeE e5 vs)
          | none => .bad
        | _ => .bad
      | _ => .bad
    | _ => .bad
def dcL (vs : List Nat) (mg : D → En → Option En) (mt : En → Rs Bool) (mk mv : En → Rs D) : List D → Ob → En → Rs Ob
  | [], o, e => .ok o e
  | d :: r, o, e => match dcStep vs mg mt mk mv d o e with
    | .ok o' e' => dcL vs mg mt mk mv r o' e'
    | _ => .bad
/-- {k: v for .. in .. if ..} -/
def mDc (t : Bool) (vs : List Nat) (mi : En → Rs (List D)) (mg : D → En → Option En) (mt : En → Rs Bool) (mk mv : En → Rs D) : En → Rs Ob := fun env => (mi env).bind fun ds e1 => if okVs e1 vs = true then (match dcL vs mg mt mk mv ds (.dct t [] []) (wipeE e1 vs) with
  | .ok o e2 => .ok o (backE e1 e2 vs)
  | _ => .bad) else .bad
theorem dct_sto {t : Bool} {ks : List Ky} {ds : List D} {k z : D} {o' : Ob} (h : gSto (.dct t ks ds) k z = some o') : ∃ ks' ds', o' = .dct t ks' ds' := by
  cases t with
  | false =>
    have h : (if ks.length < sizeLine ∧ ks.Nodup then (keyOf k).map fun k => let r := putKy (kyOf k) z ks ds; Ob.dct false r.1 r.2 else none) = some o' := by cases k <;> exact h
    simp only [Option.ite_none_right_eq_some] at h
    obtain ⟨k, _, e⟩ := Option.map_eq_some_iff.mp h.2
    exact ⟨_, _, e.symm⟩
  | true =>
    cases k <;> simp only [gSto, reduceCtorEq, Option.ite_none_right_eq_some] at h
    obtain ⟨k, _, e⟩ := Option.map_eq_some_iff.mp h.2
    exact ⟨_, _, e.symm⟩
section
variable {X : Cx} {W : WX} {kx vx tg iter : Expr} {ifs : List Expr} {scope : Scope} {own : List (Str × Nat)} {pos : Pos} {mi : En → Rs (List D)} {is : List Nat} {mg : D → En → Option En} {mt : En → Rs Bool} {mk mv : En → Rs D}
theorem nw_turn {K : PySem.W.Frag} {U : Addr → Prop} {e1 e : En} {σ τ : L2.St} {H1 H' : Hp} {p : Addr} {o : Ob} {ds : List D} {J : It} {i : Nat} {x : V} {H2 : Hp} {d : D} (it : ItOk K (Ux U e1 σ) H1 ds J) (l : NwI K U e1 σ H1 p e τ H' o) (hd : ds[i]? = some d) (y : J.yld i H' x H2) :
    NwI K U e1 σ H1 p e τ H2 o ∧ Rep K (Ux (Up U p) e τ) H2 d x := by
  have ku : ∀ a u, ¬ Ux U e1 σ a → H1 a = some u → ¬ Ux (Up U p) e τ a := fun a u n h q => by
    rcases ux_up.mp q with (q | q) | q
    · exact n (.inl q)
    · exact (l.fr a q).elim (fun c => n (.inr c)) fun z => by rw [h] at z; cases z
    · rw [q, l.nw] at h; cases h
  obtain ⟨sm, rx⟩ := it.yld i _ H' H2 x _ hd (fun a u n h => l.gr a u (fun c => n (.inr c)) h) ku l.sa.alU y
  exact ⟨l.step ((Ste.refl l.sa).same sm), rx⟩
theorem dc_imp {K : PySem.W.Frag} {t : Bool} {σ : L2.St} {H : Hp} {Q : VK} (sub : ∀ i ∈ is, i ∈ own.map (·.2)) (h : tN K W (mDc t (own.map (·.2)) mi mg mt mk mv) σ H Q) : tDct t (tM (RI K) K W mi) (tGt K is mg) (tT K W0 mt) (tE K W0 mk) (tE K W0 mv) (own.map (·.2)) σ H Q := by
  obtain ⟨U, env, sa, po⟩ := h
  refine ⟨U, env, sa, PoN.step po fun J H1 ds e1 a it po1 => fun p hp => ?_⟩
  have it : ItOk K (Ux U e1 σ) H1 ds J := it
  generalize own.map (·.2) = vs at sub po1 ⊢
  by_cases okv : okVs e1 vs = true
  · rw [if_pos okv] at po1
    cases hr : dcL vs mg mt mk mv ds (.dct t [] []) (wipeE e1 vs) with
    | bad => simp only [hr] at po1; exact po1.elim
    | er x e => simp only [hr] at po1; exact po1.elim
    | ok o0 e0 =>
      simp only [hr] at po1
      have r0 : RepO K (Ux (Up U p) e1 σ) (upd H1 p (dE t)) (.dct t [] []) p := by
        cases t with
        | false => exact ⟨[], ⟨[], upd_same, rfl, rfl⟩, rfl⟩
        | true => exact ⟨[], ⟨[], upd_same, rfl, rfl⟩, rfl⟩
      have keep : ∀ {e : En} {H' : Hp} {o : Ob}, NwI K U e1 σ H1 p e (L2.wipe σ vs) H' o → ∀ a u, ¬ Ux U e1 σ a → H1 a = some u → H' a = some u := fun l a u n h => l.gr a u (fun c => n (.inr c)) h
      refine ⟨ds.length, fun i H' => ∃ e ks vs', NwI K U e1 σ H1 p e (L2.wipe σ vs) H' (.dct t ks vs') ∧ dcL vs mg mt mk mv (ds.drop i) (.dct t ks vs') e = .ok o0 e0, ⟨_, [], [], NwI.start a.sa hp vs okv r0, hr⟩, ?_, ?_⟩
      · rintro H' ⟨e, ks, vs', l, hk⟩
        rw [List.drop_length] at hk
        cases hk
        exact ⟨it.stop _ H' (Nat.le_refl _) (keep l) rfl, po1 p H' ((l.fin a.sa okv).pre (.refl a.sa))⟩
      · rintro i H' hlt ⟨e, ks, vs', l, hk⟩
        refine ⟨it.go i H' hlt (keep l), fun x H2 y => ?_⟩
        obtain ⟨l, rx⟩ := nw_turn it l (by simp [hlt] : ds[i]? = some ds[i]) y
        rw [List.drop_eq_getElem_cons hlt] at hk
        unfold dcL dcStep at hk
        cases hg : mg ds[i] e with
        | none => simp only [hg] at hk; cases hk
        | some e2 =>
          simp only [hg] at hk
          refine ⟨Up U p, e, ds[i], e2, l.sa, rx, hg, fun σ2 H3 st bt => ?_⟩
          have ew : L2.wipe σ2 vs = L2.wipe σ vs := (wipe_btw bt sub).trans (wipe_btw (btw_wipe σ vs) fun i h => h)
          have l2 := l.step st
          refine ⟨ew, Up U p, e2, st.sa, ?_⟩
          cases hb : mt e2 with
          | bad => simp only [hb] at hk; cases hk
          | er x e3 => simp only [hb] at hk; cases hk
          | ok b e3 =>
            simp only [hb] at hk
            intro b' H4 st2 rb
            obtain rfl : b' = b := rb
            have l3 := l2.step st2
            cases b' with
            | false =>
              refine iteF ⟨_, ks, vs', ?_, hk⟩
              rw [← ew]
              exact l3.wipe vs okv
            | true =>
              refine iteT ⟨Up U p, e3, l3.sa, ?_⟩
              cases hz : mk e3 with
              | bad => simp only [hz] at hk; cases hk
              | er x e4 => simp only [hz] at hk; cases hk
              | ok k e4 =>
                simp only [hz] at hk
                intro kv H5 st3 rk
                have l4 := l3.step st3
                refine ⟨Up U p, e4, l4.sa, ?_⟩
                cases hy : mv e4 with
                | bad => simp only [hy] at hk; cases hk
                | er x e5 => simp only [hy] at hk; cases hk
                | ok z e5 =>
                  simp only [hy] at hk
                  intro zv H6 st4 rz
                  have l5 := l4.step st4
                  have rk := st4.rep l4.sa rk
                  cases hs : gSto (.dct t ks vs') k z with
                  | none => simp only [hs] at hk; cases hk
                  | some o' =>
                    simp only [hs] at hk
                    obtain ⟨H7, dp, l6⟩ := l5.put rk rz hs
                    obtain ⟨ks2, vs2, rfl⟩ := dct_sto hs
                    refine ⟨H7, dp, _, ks2, vs2, ?_, hk⟩
                    rw [← ew]
                    exact l6.wipe vs okv
  · rw [if_neg okv] at po1
    exact po1.elim
theorem ef_dc {t : Bool} (room : X.A.units < cLine) (hc : X.calm = true) (hN : X.N.Nodup) (hi : EvI X W tg iter mi) (ok : BlkOk X.N X.env.scope scope own)
    (hg : ∀ (s : Shared) (H : Hp) (C : Addr) (cl : List (Str × Addr)) (fp : List Addr), EvG (X.blk s H scope (compEnvC scope cl C X.env) fp) tg is mg) (ht : ∀ (s : Shared) (H : Hp) (C : Addr) (cl : List (Str × Addr)) (fp : List Addr), EvTs (X.blk s H scope (compEnvC scope cl C X.env) fp) ifs mt)
    (hk : ∀ (s : Shared) (H : Hp) (C : Addr) (cl : List (Str × Addr)) (fp : List Addr), Ev (X.blk s H scope (compEnvC scope cl C X.env) fp) W0 kx mk) (hv : ∀ (s : Shared) (H : Hp) (C : Addr) (cl : List (Str × Addr)) (fp : List Addr), Ev (X.blk s H scope (compEnvC scope cl C X.env) fp) W0 vx mv)
    (sub : ∀ i ∈ is, i ∈ own.map (·.2)) (hs : ∀ x, foldedSetIterable iter X.env x = pure x := by intro _; rfl) :
    EvF X W (.DictComp kx vx [⟨tg, iter, ifs, 0⟩] scope pos) (mDc t (own.map (·.2)) mi mg mt mk mv) :=
  PE_imp (pe_dct (t := t) (g := tGt X.K is mg) (tt := tT X.K W0 mt) (tk := tE X.K W0 mk) (tv := tE X.K W0 mv) room hc hN hi ok hg ht hk hv hs) fun σ H Q h => dc_imp sub h
theorem es_setDcV {t : Bool} {i : Nat} {y : Str} {py spos : Pos} (room : X.A.units < cLine) (hc : X.calm = true) (hN : X.N.Nodup) (hy : X.N[i]? = some y) (hyl : X.env.scope.names.lookup y = some .local) (hsw : swapsWith (.DictComp kx vx [⟨tg, iter, ifs, 0⟩] scope pos) (some (.Name y py)) spos.line X.env = pure true) (hi : EvI X W tg iter mi) (ok : BlkOk X.N X.env.scope scope own)
    (hg : ∀ (s : Shared) (H : Hp) (C : Addr) (cl : List (Str × Addr)) (fp : List Addr), EvG (X.blk s H scope (compEnvC scope cl C X.env) fp) tg is mg) (ht : ∀ (s : Shared) (H : Hp) (C : Addr) (cl : List (Str × Addr)) (fp : List Addr), EvTs (X.blk s H scope (compEnvC scope cl C X.env) fp) ifs mt)
    (hk : ∀ (s : Shared) (H : Hp) (C : Addr) (cl : List (Str × Addr)) (fp : List Addr), Ev (X.blk s H scope (compEnvC scope cl C X.env) fp) W0 kx mk) (hv : ∀ (s : Shared) (H : Hp) (C : Addr) (cl : List (Str × Addr)) (fp : List Addr), Ev (X.blk s H scope (compEnvC scope cl C X.env) fp) W0 vx mv)
    (sub : ∀ i ∈ is, i ∈ own.map (·.2)) (hs : ∀ x, foldedSetIterable iter X.env x = pure x := by intro _; rfl) :
    EvS X W (.Assign [.Name y py] (.DictComp kx vx [⟨tg, iter, ifs, 0⟩] scope pos) spos) (mAsg (gSet i) (xVal (mDc t (own.map (·.2)) mi mg mt mk mv))) :=
  PS_imp (ps_setDct (t := t) (g := tGt X.K is mg) (tt := tT X.K W0 mt) (tk := tE X.K W0 mk) (tv := tE X.K W0 mv) room hc hN hy hyl hsw hi ok hg ht hk hv hs) fun Dn σ H h => dc_imp sub (val_imp h)
theorem es_setDcO {t : Bool} {i : Nat} {y : Str} {py spos : Pos} (room : X.A.units < cLine) (hc : X.calm = true) (hN : X.N.Nodup) (hy : X.N[i]? = some y) (hyl : X.env.scope.names.lookup y = some .local) (hsw : swapsWith (.DictComp kx vx [⟨tg, iter, ifs, 0⟩] scope pos) (some (.Name y py)) spos.line X.env = pure true) (hi : EvI X W tg iter mi) (ok : BlkOk X.N X.env.scope scope own)
    (hg : ∀ (s : Shared) (H : Hp) (C : Addr) (cl : List (Str × Addr)) (fp : List Addr), EvG (X.blk s H scope (compEnvC scope cl C X.env) fp) tg is mg) (ht : ∀ (s : Shared) (H : Hp) (C : Addr) (cl : List (Str × Addr)) (fp : List Addr), EvTs (X.blk s H scope (compEnvC scope cl C X.env) fp) ifs mt)
    (hk : ∀ (s : Shared) (H : Hp) (C : Addr) (cl : List (Str × Addr)) (fp : List Addr), Ev (X.blk s H scope (compEnvC scope cl C X.env) fp) W0 kx mk) (hv : ∀ (s : Shared) (H : Hp) (C : Addr) (cl : List (Str × Addr)) (fp : List Addr), Ev (X.blk s H scope (compEnvC scope cl C X.env) fp) W0 vx mv)
    (sub : ∀ i ∈ is, i ∈ own.map (·.2)) (hs : ∀ x, foldedSetIterable iter X.env x = pure x := by intro _; rfl) :
    EvS X W (.Assign [.Name y py] (.DictComp kx vx [⟨tg, iter, ifs, 0⟩] scope pos) spos) (mOw i (mDc t (own.map (·.2)) mi mg mt mk mv)) :=
  PS_imp (ps_setDct (t := t) (g := tGt X.K is mg) (tt := tT X.K W0 mt) (tk := tE X.K W0 mk) (tv := tE X.K W0 mv) room hc hN hy hyl hsw hi ok hg ht hk hv hs) fun Dn σ H h => dc_imp sub (own_imp h)
end
end Mi

set_option Elab.async false
set_option linter.all false
set_option maxRecDepth 100000
set_option maxHeartbeats 4000000
/-! Mi45: f-strings; d.get(k, x) -/
namespace Mi
open PySem PySem.Spec PyProof.Rows L2
/-- {x} in an f-string -/
def gFmt : D → Option D
  | .str y => if y.length ≤ sizeLine then some (.str y) else none
  | .int i => if i.natAbs.log2 < 1920 then some (.str (toString i : String)) else none
  | _ => none
section
variable {X : Cx} {W : WX} {e v1 v2 : Expr} {es : List Expr} {m : En → Rs D} {pos : Pos}
theorem ev_fmt (h : Ev X W e m) : Ev X W (.FormattedValue e (-1) none pos) (x1 gFmt m) :=
  PE_imp (pe_fmt h) fun σ H Q ⟨U, env, sa, po⟩ => ⟨U, env, sa, Po.step po fun v H1 d e1 a r po1 => by
    obtain ⟨z, hz, q⟩ := Po.of_some a.sa po1
    have r : Rep X.K (Ux U e1 σ) H1 d v := r
    cases d with
    | str y =>
      obtain rfl : v = .str y := r
      simp only [gFmt, Option.ite_none_right_eq_some, Option.some.injEq] at hz
      obtain ⟨hl, rfl⟩ := hz
      exact .inl ⟨y, rfl, hl, q _ _ (Same.refl H1) rfl⟩
    | int i =>
      obtain rfl : v = .int i := r
      simp only [gFmt, Option.ite_none_right_eq_some, Option.some.injEq] at hz
      obtain ⟨hl, rfl⟩ := hz
      exact .inr ⟨i, rfl, hl, q _ _ (Same.refl H1) rfl⟩
    | _ => simp [gFmt] at hz⟩
theorem ev_fstr1 (h : Ev X W e m) : Ev X W (.JoinedStr [e] pos) m := pe_joined1 h
/-! ### several parts -/
def jNil : Str → En → Rs Str := fun acc env => .ok acc env
def jCons (m : En → Rs D) (r : Str → En → Rs Str) : Str → En → Rs Str := fun acc env => (m env).bind fun d e1 => match d with
  | .str y => if (acc ++ y).length ≤ sizeLine then r (acc ++ y) e1 else .bad
  | _ => .bad
def RS : (Addr → Prop) → L2.St → Hp → Str → Str → Prop := fun _ _ _ a b => b = a
structure EvJ (X : Cx) (W : WX) (es : List Expr) (mj : Str → En → Rs Str) : Prop where
  ex : ∃ ts, PJ X es ts ∧ ∀ (acc : Str) (U : Addr → Prop) (env : En) (σ : L2.St) (H : Hp) (Q : Str → Hp → Prop), SA X.K U env σ H → Po RS X.K W U env σ H (mj acc env) Q → tJs ts acc σ H Q
theorem ej_nil : EvJ X W [] jNil := ⟨[], .nil, fun acc U env σ H Q sa po => po acc H (Ste.refl sa) rfl⟩
theorem ej_cons {mj : Str → En → Rs Str} (h : Ev X W e m) (r : EvJ X W es mj) : EvJ X W (e :: es) (jCons m mj) := by
  obtain ⟨ts, hj, k⟩ := r.ex
  refine ⟨_ :: ts, .cons h hj, fun acc U env σ H Q sa po => ⟨U, env, sa, Po.step po fun v H1 d e1 a r po1 => ?_⟩⟩
  have r : Rep X.K (Ux U e1 σ) H1 d v := r
  cases d with
  | str y =>
    obtain rfl : v = .str y := r
    simp only at po1
    by_cases hl : (acc ++ y).length ≤ sizeLine
    · rw [if_pos hl] at po1
      exact ⟨y, rfl, hl, k _ _ _ _ _ _ a.sa po1⟩
    · rw [if_neg hl] at po1
      exact po1.elim
  | _ => exact po1.elim
def xFstr (mj : Str → En → Rs Str) : En → Rs D := fun env => (mj Str.empty env).bind fun s e => .ok (.str s) e
theorem ev_fstr {mj : Str → En → Rs Str} (h : EvJ X W (v1 :: v2 :: es) mj) : Ev X W (.JoinedStr (v1 :: v2 :: es) pos) (xFstr mj) := by
  obtain ⟨ts, hj, k⟩ := h.ex
  exact PE_imp (pe_joined hj) fun σ H Q ⟨U, env, sa, po⟩ => k _ _ _ _ _ _ sa (by
    refine Po.step (R1 := RS) po fun v H1 d e1 a r po1 => ?_
    obtain rfl : v = d := r
    exact po1 _ _ (Ste.refl a.sa) rfl)
/-! ### d.get(k, x) -/
def gGet2 (d k z : D) : Option D := (getK d k).map fun o => o.getD z
def xGet2 (md mk mz : En → Rs D) : En → Rs D := fun env => (md env).bind fun d e1 => match d with
  | .dct _ _ _ => (mk e1).bind fun k e2 => (mz e2).bind fun z e3 => .of (gGet2 d k z) e3
  | _ => .bad
theorem rep_isD {K : PySem.W.Frag} {U : Addr → Prop} {H : Hp} {t : Bool} {ks : List Ky} {ds : List D} {v : V} (r : Rep K U H (.dct t ks ds) v) : ∃ a, v = .ref a ∧ IsD H a := by
  obtain ⟨a, xs, rfl, nu, dr, rs⟩ := r
  cases t with
  | false => obtain ⟨kvs, h, _⟩ := dr; exact ⟨a, rfl, .inl ⟨kvs, h⟩⟩
  | true => obtain ⟨kvs, h, _⟩ := dr; exact ⟨a, rfl, .inr ⟨kvs, h⟩⟩
theorem get2_v {K : PySem.W.Frag} {U : Addr → Prop} {H : Hp} {d k z r : D} {x y v : V} {a : Addr} (rx : Rep K U H d x) (ry : Rep K U H k y) (rz : Rep K U H z v) (ea : x = .ref a) (h : gGet2 d k z = some r) : ∃ o, DGet H a y o ∧ Rep K U H r (o.getD v) := by
  obtain ⟨o, ho, rfl⟩ := Option.map_eq_some_iff.mp h
  obtain ⟨a', r', e, g, rr⟩ := getK_get rx ry ho
  rw [ea] at e
  cases e
  refine ⟨r', g, ?_⟩
  cases o with
  | none =>
    cases r' with
    | none => exact rz
    | some _ => exact rr.elim
  | some w =>
    cases r' with
    | none => exact rr.elim
    | some _ => exact rr
section
variable {o f : Expr} {apos cpos : Pos} {md mk mz : En → Rs D} {k : Nat}
theorem ev_get2 (c : Co X k) (ho : Ev X W o md) (he : Ev X W e mk) (hf : Ev X W f mz) (m2 : M2 X o "get" apos e f cpos) : Ev X W (.Call (.Attribute o "get" apos) [e, f] [] cpos) (xGet2 md mk mz) :=
  PE_imp (pe_dget2 (by have := c.hr.units; omega) ho he hf m2) fun σ H Q ⟨U, env, sa, po⟩ => ⟨U, env, sa, Po.step po fun v H1 d e1 a r po1 => by
    have r : Rep X.K (Ux U e1 σ) H1 d v := r
    cases d with
    | dct t ks ds =>
      obtain ⟨p, ep, isd⟩ := rep_isD r
      refine ⟨p, ep, isd, U, e1, a.sa, Po.step po1 fun y H2 kd e2 a2 rk po2 => ⟨U, e2, a2.sa, Po.step po2 fun w H3 zd e3 a3 rz po3 => ?_⟩⟩
      obtain ⟨z, hz, q⟩ := Po.of_some a3.sa po3
      obtain ⟨o', g, rr⟩ := get2_v (a3.rep a2.sa (a2.rep a.sa r)) (a3.rep a2.sa rk) rz ep hz
      exact ⟨o', g, q _ _ (Same.refl _) rr⟩
    | _ => exact po1.elim⟩
def pGet2 (md mk mz : En → Option D) : En → Option D := fun env => (md env).bind fun d => match d with
  | .dct _ _ _ => (mk env).bind fun k => (mz env).bind fun z => gGet2 d k z
  | _ => none
theorem ep_get2 {pd pk pz : En → Option D} (c : Co X k) (ho : EvP X o pd) (he : EvP X e pk) (hf : EvP X f pz) (m2 : M2 X o "get" apos e f cpos) : EvP X (.Call (.Attribute o "get" apos) [e, f] [] cpos) (pGet2 pd pk pz) :=
  PE_imp (pe_dget2 (by have := c.hr.units; omega) ho he hf m2) fun σ H Q ⟨U, env, r, sa, h, q⟩ => by
    obtain ⟨d, hd, h⟩ := Option.bind_eq_some_iff.mp h
    cases d with
    | dct t ks ds =>
      simp only at h
      obtain ⟨kd, hk, h⟩ := Option.bind_eq_some_iff.mp h
      obtain ⟨zd, hz, h⟩ := Option.bind_eq_some_iff.mp h
      refine ⟨U, env, _, sa, hd, fun x H1 s1 rx => ?_⟩
      obtain ⟨p, ep, isd⟩ := rep_isD rx
      refine ⟨p, ep, isd, U, env, _, sa.same s1, hk, fun y H2 s2 ry => ⟨U, env, _, (sa.same s1).same s2, hz, fun w H3 s3 rz => ?_⟩⟩
      obtain ⟨o', g, rr⟩ := get2_v ((rx.same s2).same s3) (ry.same s3) rz ep h
      exact ⟨o', g, q _ _ ((s1.trans s2).trans s3) rr⟩
    | _ => cases h
end
end
end Mi

set_option Elab.async false
set_option linter.all false
set_option maxRecDepth 100000
set_option maxHeartbeats 4000000
/-! the mirrors of the defs that several laws share; printed by cm.py -/
namespace Cm
open PySem Mi
def m_law_draw_b : En → Rs Fl :=
  (mSeq (mSto 0 gSto (x2 Mi.gAdd (xBor (p2 gIx (pVar 0) (pC (.int 2)))) (xC (.int 1))) (xC (.int 2)))
  (mSeq (mIf (tB1 (x2 gGt (xBor (p2 gIx (pVar 0) (pC (.int 0)))) (xC (.int 0)))) (mSeq (mAsg (gSet 2) (x2 Mi.gMod (xN gInt (xCons (xBor (p2 gIx (pVar 0) (pC (.int 0)))) xNil)) (xVar 1)))
  (mSeq (mSto 0 gSto (x2 Mi.gFdiv (xBor (p2 gIx (pVar 0) (pC (.int 0)))) (xVar 1)) (xC (.int 0)))
  (mRet (xVar 2)))) mNx)
  (mSeq (mAsg (gSet 3) (x2 Mi.gAdd (xN gInt (xCons (xBor (p2 gIx (pVar 0) (pC (.int 1)))) xNil)) (x2 Mi.gMul (xC (.int 65003)) (xBor (p2 gIx (pVar 0) (pC (.int 2)))))))
  (mSeq (mAsg (gSet 4) (x2 Mi.gAdd (x2 Mi.gMod (xN gInt (xCons (xVar 3) xNil)) (xC (.int 60013))) (xC (.int 49003))))
  (mSeq (mSto 0 gSto (x2 Mi.gMod (xN gInt (xCons (x2 Mi.gAdd (x2 Mi.gAdd (x2 Mi.gMul (xVar 3) (xVar 4)) (x2 Mi.gMul (xC (.int 11)) (xBor (p2 gIx (pVar 0) (pC (.int 2)))))) (xC (.int 19))) xNil)) (xC (.int 2147483549))) (xC (.int 1)))
  (mRet (x2 Mi.gMod (x2 Mi.gFdiv (xN gInt (xCons (xBor (p2 gIx (pVar 0) (pC (.int 1)))) xNil)) (xC (.int 509))) (xVar 1))))))))
def m_law_draw : En → Rs D := mDef 2 5 m_law_draw_b
def m_law_marks_b : En → Rs Fl :=
  (mSeq (mOw 2 (fLst (xCons (xC (.str "a")) (xCons (xC (.str "b")) (xCons (xC (.str "c")) (xCons (xC (.str "ab")) (xCons (xC (.str "lamp")) (xCons (xC (.str "marks")) (xCons (xC (.str "nona")) (xCons (xC (.str "x")) (xCons (xC (.str "abcdefgh")) (xCons (xC (.str "aa")) (xCons (xC (.str "z")) (xCons (xC (.str "kind")) (xCons (xC (.str "y")) (xCons (xC (.str "ba")) xNil))))))))))))))))
  (mRet (xN gTuple (xCons (xVal (mLc [3] (xRng1 (xCons (xVar 1) xNil)) (gSet 3) ttYes (lcPush (xMeth 2 gPopAt (xCons (xCall Cm.m_law_draw (qIo 0 (qVal (xBor (pN gLen (psCons (pVar 2) psNil))) qNil))) xNil))))) xNil))))
def m_law_marks : En → Rs D := mDef 2 4 m_law_marks_b
def m_law_one_b : En → Rs Fl :=
  (mRet (x2 gIx (xVar 1) (xCall Cm.m_law_draw (qIo 0 (qVal (xN gLen (xCons (xVar 1) xNil)) qNil)))))
def m_law_one : En → Rs D := mDef 2 2 m_law_one_b
def m_law_rows_b : En → Rs Fl :=
  (mSeq (mAsg (gSet 1) (xLst (xCons (xC (.str "")) xNil)))
  (mSeq (mFor (xRng1 (xCons (xVar 0) xNil)) (gSet 2) (mSeq (mAsg (gSet 3) (xLst xNil))
  (mSeq (mFor (xIter (xVar 1)) (gSet 4) (mAsg (gSet 3) (x2 Mi.gAdd (xVar 3) (xLst (xCons (x2 Mi.gAdd (xVar 4) (xC (.str "0"))) (xCons (x2 Mi.gAdd (xVar 4) (xC (.str "1"))) xNil))))))
  (mAsg (gSet 1) (xVar 3)))))
  (mRet (xVar 1))))
def m_law_rows : En → Rs D := mDef 1 5 m_law_rows_b
def m_is_name_b : En → Rs Fl :=
  (mSeq (mIf (ttOr (ttNot (ttTru (xIsi (isAnyD ["Shares"] isStrD) (xVar 0)))) (ttNot (tB1 (xChain gLe gLe (xC (.int 1)) (xN gLen (xCons (xVar 0) xNil)) (xC (.int 8)))))) (mRet (xC (.bl false))) mNx)
  (mRet (xN gAll (xCons (xVal (mLc [1] (xIter (xVar 0)) (gSet 1) ttYes (lcPush (x2 gIn (xVar 1) (xC (.str "abcdefghijklmnopqrstuvwxyz")))))) xNil))))
def m_is_name : En → Rs D := mDef 1 2 m_is_name_b
def m_wrong_mark_b : En → Rs Fl :=
  (mSeq (mFor (xEnum (xCons (xVar 0) xNil)) (gUnp 2 (gsCons (gSet 1) (gsCons (gSet 2) gsNil))) (mIf (ttOr (tB1 (x2 gEq (xVar 1) (xC (.int 4)))) (ttOr (ttNot (ttTru (xCall Cm.m_is_name (qVal (xVar 2) qNil)))) (tB1 (x2 gIn (xVar 2) (xSl (xVar 0) oNone (oSome (xVar 1))))))) (mRet (xVar 1)) mNx))
  (mRet (xC .non)))
def m_wrong_mark : En → Rs D := mDef 1 3 m_wrong_mark_b
def m_check_marks_b : En → Rs Fl :=
  (mSeq (mIf (ttOr (ttNot (ttTru (xIsi (isAnyD ["Shares"] isTupD) (xVar 0)))) (tB1 (x2 gEq (xVar 0) (xTup xNil)))) mBad mNx)
  (mSeq (mAsg (gSet 1) (xCall Cm.m_wrong_mark (qVal (xVar 0) qNil)))
  (mIf (tB1 (x2 gNotN (xVar 1) (xC .non))) mBad mNx)))
def m_check_marks : En → Rs D := mDef 1 2 m_check_marks_b
def m_is_integer_b : En → Rs Fl :=
  (mRet (xAnd (xIsi (isAnyD ["Shares"] isIntD) (xVar 0)) (xNot (xIsi (isAnyD ["Shares"] isBoolD) (xVar 0)))))
def m_is_integer : En → Rs D := mDef 1 1 m_is_integer_b
def m_is_between_b : En → Rs Fl :=
  (mRet (xAnd (xCall Cm.m_is_integer (qVal (xVar 0) qNil)) (xChain gLe gLe (xVar 1) (xVar 0) (xVar 2))))
def m_is_between : En → Rs D := mDef 3 3 m_is_between_b
def m_wrong_number_b : En → Rs Fl :=
  (mSeq (mFor (xEnum (xCons (xVar 0) xNil)) (gUnp 2 (gsCons (gSet 1) (gsCons (gSet 2) gsNil))) (mIf (ttNot (ttTru (xCall Cm.m_is_between (qVal (xVar 2) (qVal (xC (.int 0)) (qVal (xC (.int 1000000000000)) qNil)))))) (mRet (xVar 1)) mNx))
  (mRet (xC .non)))
def m_wrong_number : En → Rs D := mDef 1 3 m_wrong_number_b
def m_check_numbers_b : En → Rs Fl :=
  (mSeq (mIf (ttOr (ttNot (ttTru (xIsi (isAnyD ["Shares"] isTupD) (xVar 0)))) (tB1 (x2 gLt (xN gLen (xCons (xVar 0) xNil)) (xVar 1)))) mBad mNx)
  (mSeq (mAsg (gSet 2) (xCall Cm.m_wrong_number (qVal (xSl (xVar 0) oNone (oSome (xVar 1))) qNil)))
  (mSeq (mIf (tB1 (x2 gNotN (xVar 2) (xC .non))) mBad mNx)
  (mSeq (mIf (tB1 (x2 gGt (xN gLen (xCons (xVar 0) xNil)) (xVar 1))) mBad mNx)
  (mIf (tB1 (x2 gEq (xN gSum (xCons (xVar 0) xNil)) (xC (.int 0)))) mBad mNx)))))
def m_check_numbers : En → Rs D := mDef 2 3 m_check_numbers_b
def m_all_rows_b : En → Rs Fl :=
  (mSeq (mAsg (gSet 1) (xLst (xCons (xC (.str "")) xNil)))
  (mSeq (mFor (xRng1 (xCons (xVar 0) xNil)) (gSet 2) (mAsg (gSet 1) (xVal (mLc [3, 4] (xIter (xVar 1)) (gSet 3) ttYes (lcIn [4] (xIter (xC (.str "01"))) (gSet 4) ttYes (lcPush (x2 Mi.gAdd (xVar 3) (xVar 4))))))))
  (mRet (xVar 1))))
def m_all_rows : En → Rs D := mDef 1 5 m_all_rows_b
def m_Shares___init___b : En → Rs Fl :=
  (mSeq (mDrop (xCall Cm.m_check_marks (qVal (xVar 1) qNil)))
  (mSeq (mDrop (xCall Cm.m_check_numbers (qVal (xVar 2) (qVal (xN gLen (xCons (xCall Cm.m_all_rows (qVal (xN gLen (xCons (xVar 1) xNil)) qNil)) xNil)) qNil))))
  (mSeq (mFld 0 "Shares" "marks" (xVar 1))
  (mSeq (mFld 0 "Shares" "numbers" (xVar 2))
  (mSeq (mFld 0 "Shares" "total" (xN gSum (xCons (xVar 2) xNil)))
  (mFld 0 "Shares" "known" (xVal (xNF gZipD (xCons (xCall Cm.m_all_rows (qVal (xN gLen (xCons (xVar 1) xNil)) qNil)) (xCons (xVar 2) xNil))))))))))
def m_Shares___init__ : En → Rs D := mDef 3 3 m_Shares___init___b
def m_is_row_b : En → Rs Fl :=
  (mRet (xAnd (xIsi (isAnyD ["Shares"] isStrD) (xVar 0)) (xAnd (x2 gEq (xN gLen (xCons (xVar 0) xNil)) (xVar 1)) (xN gAll (xCons (xVal (mLc [2] (xIter (xVar 0)) (gSet 2) ttYes (lcPush (x2 gIn (xVar 2) (xC (.str "01")))))) xNil)))))
def m_is_row : En → Rs D := mDef 2 3 m_is_row_b
def m_Shares_many_b : En → Rs Fl :=
  (mRet (xN gLen (xCons (x1 (gFld "Shares" "marks") (xVar 0)) xNil)))
def m_Shares_many : En → Rs D := mDef 1 1 m_Shares_many_b
def m_law_lot_b : En → Rs Fl :=
  (mSeq (mAsg (gSet 2) (xCall Cm.m_law_one (qIo 0 (qVal (xLst (xCons (xC (.int 2)) (xCons (xC (.int 2)) (xCons (xC (.int 3)) (xCons (xC (.int 5)) xNil))))) qNil))))
  (mRet (xN gTuple (xCons (xVal (mLc [3] (xIter (xCall Cm.m_law_rows (qVal (xVar 1) qNil))) (gSet 3) (tB1 (x2 gEq (xCall Cm.m_law_draw (qIo 0 (qVal (xVar 2) qNil))) (xC (.int 0)))) (lcPush (xVar 3)))) xNil))))
def m_law_lot : En → Rs D := mDef 2 4 m_law_lot_b
def m_wrong_in_lot_b : En → Rs Fl :=
  (mSeq (mFor (xEnum (xCons (xVar 0) xNil)) (gUnp 2 (gsCons (gSet 2) (gsCons (gSet 3) gsNil))) (mIf (ttOr (ttNot (ttTru (xCall Cm.m_is_row (qVal (xVar 3) (qVal (xVar 1) qNil))))) (ttAnd (tB1 (x2 gGt (xVar 2) (xC (.int 0)))) (tB1 (x2 gLe (xVar 3) (x2 gIx (xVar 0) (x2 Mi.gSub (xVar 2) (xC (.int 1)))))))) (mRet (xVar 2)) mNx))
  (mRet (xC .non)))
def m_wrong_in_lot : En → Rs D := mDef 2 4 m_wrong_in_lot_b
def m_check_lot_b : En → Rs Fl :=
  (mSeq (mIf (ttNot (ttTru (xIsi (isAnyD ["Shares"] isTupD) (xVar 0)))) mBad mNx)
  (mSeq (mAsg (gSet 2) (xCall Cm.m_wrong_in_lot (qVal (xVar 0) (qVal (xVar 1) qNil))))
  (mIf (tB1 (x2 gNotN (xVar 2) (xC .non))) mBad mNx)))
def m_check_lot : En → Rs D := mDef 2 3 m_check_lot_b
def m_Shares_added_b : En → Rs Fl :=
  (mRet (xN gSum (xCons (xVal (mLc [2] (xIter (xVar 1)) (gSet 2) ttYes (lcPush (x2 gIx (x1 (gFld "Shares" "known") (xVar 0)) (xVar 2))))) xNil)))
def m_Shares_added : En → Rs D := mDef 2 3 m_Shares_added_b
def m_is_over_b : En → Rs Fl :=
  (mRet (xN gAll (xCons (xVal (mLc [2, 3] (xZip (xCons (xVar 0) (xCons (xVar 1) xNil))) (gUnp 2 (gsCons (gSet 2) (gsCons (gSet 3) gsNil))) ttYes (lcPush (x2 gGe (xVar 2) (xVar 3))))) xNil)))
def m_is_over : En → Rs D := mDef 2 4 m_is_over_b
def m_lacking_row_b : En → Rs Fl :=
  (mSeq (mFor (xIter (xVar 0)) (gSet 2) (mIf (ttTru (xN gAny (xCons (xVal (mLc [3] (xIter (xCall Cm.m_all_rows (qVal (xVar 1) qNil))) (gSet 3) ttYes (lcPush (xAnd (xCall Cm.m_is_over (qVal (xVar 3) (qVal (xVar 2) qNil))) (x2 gNotIn (xVar 3) (xVar 0)))))) xNil))) (mRet (xVar 2)) mNx))
  (mRet (xC .non)))
def m_lacking_row : En → Rs D := mDef 2 4 m_lacking_row_b
def m_risen_b : En → Rs Fl :=
  (mRet (xN gTuple (xCons (xVal (mLc [2] (xIter (xCall Cm.m_all_rows (qVal (xVar 1) qNil))) (gSet 2) (ttTru (xN gAny (xCons (xVal (mLc [3] (xIter (xVar 0)) (gSet 3) ttYes (lcPush (xCall Cm.m_is_over (qVal (xVar 2) (qVal (xVar 3) qNil)))))) xNil))) (lcPush (xVar 2)))) xNil)))
def m_risen : En → Rs D := mDef 2 4 m_risen_b
def m_least_of_b : En → Rs Fl :=
  (mRet (xN gTuple (xCons (xVal (mLc [1] (xIter (xVar 0)) (gSet 1) (ttNot (ttTru (xN gAny (xCons (xVal (mLc [2] (xIter (xVar 0)) (gSet 2) ttYes (lcPush (xAnd (x2 gNe (xVar 2) (xVar 1)) (xCall Cm.m_is_over (qVal (xVar 1) (qVal (xVar 2) qNil))))))) xNil)))) (lcPush (xVar 1)))) xNil)))
def m_least_of : En → Rs D := mDef 1 3 m_least_of_b
def m_rising_lots_b : En → Rs Fl :=
  (mSeq (mAsg (gSet 1) (xLst (xCons (xTup xNil) (xCons (xTup (xCons (xC (.str "")) xNil)) xNil))))
  (mSeq (mFor (xRng1 (xCons (xVar 0) xNil)) (gSet 2) (mSeq (mOw 3 (fLst xNil))
  (mSeq (mFor (xIter (xVar 1)) (gSet 4) (mFor (xIter (xVar 1)) (gSet 5) (mIf (ttTru (xN gAll (xCons (xVal (mLc [6] (xIter (xVar 4)) (gSet 6) ttYes (lcPush (x2 gIn (xVar 6) (xVar 5))))) xNil))) (mDrop (xMeth 3 gApp (xCons (xN gTuple (xCons (x2 Mi.gAdd (xVal (mLc [6] (xIter (xVar 4)) (gSet 6) ttYes (lcPush (x2 Mi.gAdd (xC (.str "0")) (xVar 6))))) (xVal (mLc [6] (xIter (xVar 5)) (gSet 6) ttYes (lcPush (x2 Mi.gAdd (xC (.str "1")) (xVar 6)))))) xNil)) xNil))) mNx)))
  (mAsg (gSet 1) (xVar 3)))))
  (mRet (xN gSortX (xCons (xVar 1) xNil)))))
def m_rising_lots : En → Rs D := mDef 1 7 m_rising_lots_b
def m_law_over_2_b : En → Rs Fl :=
  (mRet (x2 gEq (xVal (mLc [2] (xRng1 (xCons (xN gLen (xCons (xVar 0) xNil)) xNil)) (gSet 2) (tB1 (x2 gLt (x2 gIx (xVar 0) (xVar 2)) (x2 gIx (xVar 1) (xVar 2)))) (lcPush (xVar 2)))) (xLst xNil)))
def m_law_over_2 : En → Rs D := mDef 2 3 m_law_over_2_b
def m_law_risen_b : En → Rs Fl :=
  (mRet (xN gTuple (xCons (xVal (mLc [2] (xIter (xCall Cm.m_law_rows (qVal (xVar 0) qNil))) (gSet 2) (tB1 (x2 gNe (xVal (mLc [3] (xIter (xVar 1)) (gSet 3) (ttTru (xCall Cm.m_law_over_2 (qVal (xVar 2) (qVal (xVar 3) qNil)))) (lcPush (xVar 3)))) (xLst xNil))) (lcPush (xVar 2)))) xNil)))
def m_law_risen : En → Rs D := mDef 2 4 m_law_risen_b
def m_check_shares_b : En → Rs Fl :=
  (mIf (ttNot (ttTru (xIsi (isOwnD ["Shares"] "Shares") (xVar 0)))) mBad mNx)
def m_check_shares : En → Rs D := mDef 1 1 m_check_shares_b
def m_row_or_b : En → Rs Fl :=
  (mRet (xTm gJoin (xC (.str "")) (xCons (xVal (mLc [2, 3] (xZip (xCons (xVar 0) (xCons (xVar 1) xNil))) (gUnp 2 (gsCons (gSet 2) (gsCons (gSet 3) gsNil))) ttYes (lcPush (xN gMaxB (xCons (xVar 2) (xCons (xVar 3) xNil)))))) xNil)))
def m_row_or : En → Rs D := mDef 2 4 m_row_or_b
def m_row_and_b : En → Rs Fl :=
  (mRet (xTm gJoin (xC (.str "")) (xCons (xVal (mLc [2, 3] (xZip (xCons (xVar 0) (xCons (xVar 1) xNil))) (gUnp 2 (gsCons (gSet 2) (gsCons (gSet 3) gsNil))) ttYes (lcPush (xN gMinB (xCons (xVar 2) (xCons (xVar 3) xNil)))))) xNil)))
def m_row_and : En → Rs D := mDef 2 4 m_row_and_b
def m_passes_at_b : En → Rs Fl :=
  (mRet (x2 gGe (x2 Mi.gMul (x2 gIx (xVar 0) (xCall Cm.m_row_or (qVal (xVar 2) (qVal (xVar 3) qNil)))) (x2 gIx (xVar 1) (xCall Cm.m_row_and (qVal (xVar 2) (qVal (xVar 3) qNil))))) (x2 Mi.gMul (x2 gIx (xVar 0) (xVar 2)) (x2 gIx (xVar 1) (xVar 3)))))
def m_passes_at : En → Rs D := mDef 4 4 m_passes_at_b
def m_first_failing_b : En → Rs Fl :=
  (mSeq (mAsg (gSet 2) (xCall Cm.m_all_rows (qVal (xProp "Shares" Cm.m_Shares_many (xVar 0)) qNil)))
  (mSeq (mFor (xEnum (xCons (xVar 2) xNil)) (gUnp 2 (gsCons (gSet 3) (gsCons (gSet 4) gsNil))) (mFor (xIter (xSl (xVar 2) (oSome (x2 Mi.gAdd (xVar 3) (xC (.int 1)))) oNone)) (gSet 5) (mSeq (mAsg (gSet 6) (xN gLen (xCons (xVal (mLc [7, 8] (xZip (xCons (xVar 4) (xCons (xVar 5) xNil))) (gUnp 2 (gsCons (gSet 7) (gsCons (gSet 8) gsNil))) (tB1 (x2 gNe (xVar 7) (xVar 8))) (lcPush (xVar 7)))) xNil)))
  (mIf (ttAnd (ttOr (ttTru (xVar 1)) (tB1 (x2 gEq (xVar 6) (xC (.int 2))))) (ttNot (ttTru (xCall Cm.m_passes_at (qVal (x1 (gFld "Shares" "known") (xVar 0)) (qVal (x1 (gFld "Shares" "known") (xVar 0)) (qVal (xVar 4) (qVal (xVar 5) qNil)))))))) (mRet (xTup (xCons (xVar 4) (xCons (xVar 5) xNil)))) mNx))))
  (mRet (xC .non))))
def m_first_failing : En → Rs D := mDef 2 9 m_first_failing_b
def m_all_helps_b : En → Rs Fl :=
  (mSeq (mAsg (gSet 1) (xCall Cm.m_rising_lots (qVal (xProp "Shares" Cm.m_Shares_many (xVar 0)) qNil)))
  (mSeq (mAsg (gSet 2) (xVal (mDc true [9] (xIter (xVar 1)) (gSet 9) ttYes (xVar 9) (xMth "Shares" "added" Cm.m_Shares_added (xVar 0) (xCons (xVar 9) xNil)))))
  (mSeq (mOw 3 (fLst xNil))
  (mSeq (mFor (xEnum (xCons (xVar 1) xNil)) (gUnp 2 (gsCons (gSet 4) (gsCons (gSet 5) gsNil))) (mSeq (mAsg (gSet 6) (xVal (mDc false [10] (xIter (xVar 5)) (gSet 10) ttYes (xVar 10) (xC (.bl true)))))
  (mFor (xIter (xSl (xVar 1) (oSome (xVar 4)) oNone)) (gSet 7) (mSeq (mAsg (gSet 8) (xN gTuple (xCons (xVal (mLc [10] (xIter (xVar 7)) (gSet 10) (tB1 (x2 gIn (xVar 10) (xVar 6))) (lcPush (xVar 10)))) xNil)))
  (mDrop (xMeth 3 gApp (xCons (xTup (xCons (x2 Mi.gSub (x2 Mi.gMul (x1 (gFld "Shares" "total") (xVar 0)) (x2 gIx (xVar 2) (xVar 8))) (x2 Mi.gMul (x2 gIx (xVar 2) (xVar 5)) (x2 gIx (xVar 2) (xVar 7)))) (xCons (xVar 5) (xCons (xVar 7) xNil)))) xNil)))))))
  (mRet (xVar 3))))))
def m_all_helps : En → Rs D := mDef 1 11 m_all_helps_b
def m_first_hindering_b : En → Rs Fl :=
  (mSeq (mFor (xIter (xCall Cm.m_all_helps (qVal (xVar 0) qNil))) (gUnp 3 (gsCons (gSet 1) (gsCons (gSet 2) (gsCons (gSet 3) gsNil)))) (mIf (tB1 (x2 gLt (xVar 1) (xC (.int 0)))) (mRet (xTup (xCons (xVar 2) (xCons (xVar 3) xNil)))) mNx))
  (mRet (xC .non)))
def m_first_hindering : En → Rs D := mDef 1 4 m_first_hindering_b
def m_with_sign_b : En → Rs Fl :=
  (mRet (x2 Mi.gAdd (x2 Mi.gAdd (xSl (xVar 0) oNone (oSome (xVar 1))) (xVar 2)) (xSl (xVar 0) (oSome (xVar 1)) oNone)))
def m_with_sign : En → Rs D := mDef 3 3 m_with_sign_b
def m_first_less_b : En → Rs Fl :=
  (mSeq (mFor (xIter (xCall Cm.m_rising_lots (qVal (xProp "Shares" Cm.m_Shares_many (xVar 0)) qNil))) (gSet 2) (mIf (tB1 (x2 gLt (x2 Mi.gMul (xMth "Shares" "added" Cm.m_Shares_added (xVar 0) (xCons (xVar 2) xNil)) (x1 (gFld "Shares" "total") (xVar 1))) (x2 Mi.gMul (xMth "Shares" "added" Cm.m_Shares_added (xVar 1) (xCons (xVar 2) xNil)) (x1 (gFld "Shares" "total") (xVar 0))))) (mRet (xVar 2)) mNx))
  (mRet (xC .non)))
def m_first_less : En → Rs D := mDef 2 3 m_first_less_b
def m_help_between_b : En → Rs Fl :=
  (mSeq (mAsg (gSet 3) (xVal (mLc [4] (xIter (xVar 1)) (gSet 4) (tB1 (x2 gIn (xVar 4) (xVar 2))) (lcPush (xVar 4)))))
  (mRet (x2 Mi.gSub (x2 Mi.gMul (x1 (gFld "Shares" "total") (xVar 0)) (xMth "Shares" "added" Cm.m_Shares_added (xVar 0) (xCons (xVar 3) xNil))) (x2 Mi.gMul (xMth "Shares" "added" Cm.m_Shares_added (xVar 0) (xCons (xVar 1) xNil)) (xMth "Shares" "added" Cm.m_Shares_added (xVar 0) (xCons (xVar 2) xNil))))))
def m_help_between : En → Rs D := mDef 3 5 m_help_between_b
def m_help_of_b : En → Rs Fl :=
  (mSeq (mDrop (xCall Cm.m_check_shares (qVal (xVar 0) qNil)))
  (mSeq (mDrop (xCall Cm.m_check_lot (qVal (xVar 1) (qVal (xProp "Shares" Cm.m_Shares_many (xVar 0)) qNil))))
  (mSeq (mDrop (xCall Cm.m_check_lot (qVal (xVar 2) (qVal (xProp "Shares" Cm.m_Shares_many (xVar 0)) qNil))))
  (mRet (xCall Cm.m_help_between (qVal (xVar 0) (qVal (xVar 1) (qVal (xVar 2) qNil))))))))
def m_help_of : En → Rs D := mDef 3 3 m_help_of_b
def m_hindering_b : En → Rs Fl :=
  (mSeq (mDrop (xCall Cm.m_check_shares (qVal (xVar 0) qNil)))
  (mRet (xCall Cm.m_first_hindering (qVal (xVar 0) qNil))))
def m_hindering : En → Rs D := mDef 1 1 m_hindering_b
def m_most_hindering_b : En → Rs Fl :=
  (mSeq (mDrop (xCall Cm.m_check_shares (qVal (xVar 0) qNil)))
  (mSeq (mAsg (gSet 1) (xC .non))
  (mSeq (mFor (xIter (xCall Cm.m_all_helps (qVal (xVar 0) qNil))) (gUnp 3 (gsCons (gSet 2) (gsCons (gSet 3) (gsCons (gSet 4) gsNil)))) (mIf (ttAnd (tB1 (x2 gLt (xVar 2) (xC (.int 0)))) (ttOr (tB1 (x2 gIsN (xVar 1) (xC .non))) (tB1 (x2 gLt (xVar 2) (x2 gIx (xVar 1) (xC (.int 0))))))) (mAsg (gSet 1) (xTup (xCons (xVar 2) (xCons (xVar 3) (xCons (xVar 4) xNil))))) mNx))
  (mRet (xIf (tB1 (x2 gIsN (xVar 1) (xC .non))) (xC .non) (xSl (xVar 1) (oSome (xC (.int 1))) oNone))))))
def m_most_hindering : En → Rs D := mDef 1 5 m_most_hindering_b
def m_failing_b : En → Rs Fl :=
  (mSeq (mDrop (xCall Cm.m_check_shares (qVal (xVar 0) qNil)))
  (mRet (xCall Cm.m_first_failing (qVal (xVar 0) (qVal (xC (.bl true)) qNil)))))
def m_failing : En → Rs D := mDef 1 1 m_failing_b
def m_fits_b : En → Rs Fl :=
  (mRet (x2 gIsN (xCall Cm.m_failing (qVal (xVar 0) qNil)) (xC .non)))
def m_fits : En → Rs D := mDef 1 1 m_fits_b
def m_near_failing_b : En → Rs Fl :=
  (mSeq (mDrop (xCall Cm.m_check_shares (qVal (xVar 0) qNil)))
  (mRet (xCall Cm.m_first_failing (qVal (xVar 0) (qVal (xC (.bl false)) qNil)))))
def m_near_failing : En → Rs D := mDef 1 1 m_near_failing_b
def m_climbs_b : En → Rs Fl :=
  (mSeq (mDrop (xCall Cm.m_check_shares (qVal (xVar 0) qNil)))
  (mSeq (mPar [1, 2] (xCons (x1 (gFld "Shares" "known") (xVar 0)) (xCons (xCall Cm.m_all_rows (qVal (x2 Mi.gSub (xProp "Shares" Cm.m_Shares_many (xVar 0)) (xC (.int 1))) qNil)) xNil)))
  (mSeq (mFor (xRng1 (xCons (xProp "Shares" Cm.m_Shares_many (xVar 0)) xNil)) (gSet 3) (mFor (xIter (xVar 2)) (gSet 4) (mFor (xIter (xVar 2)) (gSet 5) (mIf (ttTru (xCall Cm.m_is_over (qVal (xVar 5) (qVal (xVar 4) qNil)))) (mSeq (mAsg (gSet 6) (x2 Mi.gMul (x2 gIx (xVar 1) (xCall Cm.m_with_sign (qVal (xVar 5) (qVal (xVar 3) (qVal (xC (.str "1")) qNil))))) (x2 gIx (xVar 1) (xCall Cm.m_with_sign (qVal (xVar 4) (qVal (xVar 3) (qVal (xC (.str "0")) qNil)))))))
  (mIf (tB1 (x2 gLt (xVar 6) (x2 Mi.gMul (x2 gIx (xVar 1) (xCall Cm.m_with_sign (qVal (xVar 4) (qVal (xVar 3) (qVal (xC (.str "1")) qNil))))) (x2 gIx (xVar 1) (xCall Cm.m_with_sign (qVal (xVar 5) (qVal (xVar 3) (qVal (xC (.str "0")) qNil)))))))) (mRet (xC (.bl false))) mNx)) mNx))))
  (mRet (xC (.bl true))))))
def m_climbs : En → Rs D := mDef 1 7 m_climbs_b
def m_check_two_b : En → Rs Fl :=
  (mSeq (mDrop (xCall Cm.m_check_shares (qVal (xVar 0) qNil)))
  (mSeq (mDrop (xCall Cm.m_check_shares (qVal (xVar 1) qNil)))
  (mIf (tB1 (x2 gNe (x1 (gFld "Shares" "marks") (xVar 0)) (x1 (gFld "Shares" "marks") (xVar 1)))) mBad mNx)))
def m_check_two : En → Rs D := mDef 2 2 m_check_two_b
def m_less_at_b : En → Rs Fl :=
  (mSeq (mDrop (xCall Cm.m_check_two (qVal (xVar 0) (qVal (xVar 1) qNil))))
  (mRet (xCall Cm.m_first_less (qVal (xVar 0) (qVal (xVar 1) qNil)))))
def m_less_at : En → Rs D := mDef 2 2 m_less_at_b
def m_is_above_b : En → Rs Fl :=
  (mRet (x2 gIsN (xCall Cm.m_less_at (qVal (xVar 0) (qVal (xVar 1) qNil))) (xC .non)))
def m_is_above : En → Rs D := mDef 2 2 m_is_above_b
def m_law_draw_2_b : En → Rs Fl :=
  (mSeq (mSto 0 gSto (x2 Mi.gAdd (xBor (p2 gIx (pVar 0) (pC (.int 2)))) (xC (.int 1))) (xC (.int 2)))
  (mSeq (mIf (tB1 (x2 gGt (xBor (p2 gIx (pVar 0) (pC (.int 0)))) (xC (.int 0)))) (mSeq (mAsg (gUnp 2 (gsCons (gStoK 0 gSto (.int 0)) (gsCons (gSet 2) gsNil))) (xN gDivmodW (xCons (xBor (p2 gIx (pVar 0) (pC (.int 0)))) (xCons (xVar 1) xNil))))
  (mRet (xVar 2))) mNx)
  (mSeq (mSto 0 gSto (x2 Mi.gMod (xN gInt (xCons (x2 Mi.gAdd (x2 Mi.gAdd (x2 Mi.gMul (xBor (p2 gIx (pVar 0) (pC (.int 1)))) (xC (.int 36007))) (x2 Mi.gMul (xC (.int 8111)) (xBor (p2 gIx (pVar 0) (pC (.int 2)))))) (xC (.int 5))) xNil)) (xC (.int 2147483137))) (xC (.int 1)))
  (mRet (x2 Mi.gMod (xN gInt (xCons (x2 Mi.gFdiv (xBor (p2 gIx (pVar 0) (pC (.int 1)))) (xC (.int 512))) xNil)) (xVar 1))))))
def m_law_draw_2 : En → Rs D := mDef 2 3 m_law_draw_2_b
def m_law_rows_2_b : En → Rs Fl :=
  (mSeq (mAsg (gSet 1) (xLst (xCons (xC (.str "")) xNil)))
  (mSeq (mFor (xRng1 (xCons (xVar 0) xNil)) (gSet 2) (mAsg (gSet 1) (x2 Mi.gAdd (xVal (mLc [3] (xIter (xVar 1)) (gSet 3) ttYes (lcPush (x2 Mi.gAdd (xVar 3) (xC (.str "0")))))) (xVal (mLc [3] (xIter (xVar 1)) (gSet 3) ttYes (lcPush (x2 Mi.gAdd (xVar 3) (xC (.str "1")))))))))
  (mRet (xN gSortX (xCons (xVar 1) xNil)))))
def m_law_rows_2 : En → Rs D := mDef 1 4 m_law_rows_2_b
def m_law_pick_b : En → Rs Fl :=
  (mRet (x2 gIx (xVar 1) (xCall Cm.m_law_draw_2 (qIo 0 (qVal (xN gLen (xCons (xVar 1) xNil)) qNil)))))
def m_law_pick : En → Rs D := mDef 2 2 m_law_pick_b
def m_law_fitted_b : En → Rs Ob :=
  (nSeq (mAsg (gSet 2) (xVal (mLc [4] (xRng1 (xCons (xVar 1) xNil)) (gSet 4) ttYes (lcPush (xTup (xCons (xCall Cm.m_law_draw_2 (qIo 0 (qVal (xC (.int 4)) qNil))) (xCons (xCall Cm.m_law_draw_2 (qIo 0 (qVal (xC (.int 4)) qNil))) xNil)))))))
  (nSeq (mOw 3 (fLst xNil))
  (nSeq (mFor (xRng1 (xCons (xCall Cm.m_law_draw_2 (qIo 0 (qVal (xC (.int 4)) qNil))) xNil)) (gSet 4) (mDrop (xMeth 3 gApp (xCons (xTup (xCons (xCall Cm.m_law_draw_2 (qIo 0 (qVal (xVar 1) qNil))) (xCons (xCall Cm.m_law_draw_2 (qIo 0 (qVal (xVar 1) qNil))) (xCons (x2 Mi.gAdd (xC (.int 1)) (xCall Cm.m_law_draw_2 (qIo 0 (qVal (xC (.int 3)) qNil)))) xNil)))) xNil))))
  (nSeq (mOw 5 (fDict false))
  (nSeq (mFor (xIter (xCall Cm.m_law_rows_2 (qVal (xVar 1) qNil))) (gSet 6) (mSeq (mAsg (gSet 7) (xC (.int 1)))
  (mSeq (mFor (xRng1 (xCons (xVar 1) xNil)) (gSet 4) (mAsg (gSet 7) (x2 Mi.gMul (xVar 7) (x2 gIx (x2 gIx (xVar 2) (xVar 4)) (xN gInt (xCons (x2 gIx (xVar 6) (xVar 4)) xNil))))))
  (mSeq (mFor (xIter (xVar 3)) (gUnp 3 (gsCons (gSet 8) (gsCons (gSet 9) (gsCons (gSet 10) gsNil)))) (mAsg (gSet 7) (x2 Mi.gMul (xVar 7) (xIf (tB1 (x2 gEq (x2 gIx (xVar 6) (xVar 8)) (x2 gIx (xVar 6) (xVar 9)))) (xVar 10) (xC (.int 1))))))
  (mSto 5 gSto (xVar 7) (xVar 6))))))
  (fOwn 5))))))
def m_law_fitted : En → Rs Ob := mDefO 2 11 m_law_fitted_b
def m_law_table_b : En → Rs Fl :=
  (mSeq (mPar [2, 3] (xCons (xCall Cm.m_law_draw_2 (qIo 0 (qVal (xC (.int 7)) qNil))) (xCons (xCall Cm.m_law_rows_2 (qVal (xVar 1) qNil)) xNil)))
  (mSeq (mOw 4 (fDict false))
  (mSeq (mFor (xIter (xVar 3)) (gSet 5) (mSeq (mAsg (gSet 6) (x2 gIx (xLst (xCons (xCall Cm.m_law_draw_2 (qIo 0 (qVal (xC (.int 4)) qNil))) (xCons (x2 Mi.gAdd (xC (.int 1)) (xCall Cm.m_law_draw_2 (qIo 0 (qVal (xC (.int 9)) qNil)))) (xCons (xCall Cm.m_law_pick (qIo 0 (qVal (xLst (xCons (xC (.int 0)) (xCons (xC (.int 0)) (xCons (xC (.int 0)) (xCons (xC (.int 1)) (xCons (xC (.int 2)) xNil)))))) qNil))) xNil)))) (xN gMinB (xCons (xVar 2) (xCons (xC (.int 2)) xNil)))))
  (mSto 4 gSto (xIf (tB1 (x2 gEq (xVar 2) (xC (.int 3)))) (xCall Cm.m_law_pick (qIo 0 (qVal (xLst (xCons (xC (.int 0)) (xCons (xC (.int 1)) (xCons (xCall Cm.m_law_draw_2 (qIo 0 (qVal (x2 Mi.gAdd (x2 Mi.gPow (xC (.int 10)) (xC (.int 12))) (xC (.int 1))) qNil))) (xCons (x2 Mi.gPow (xC (.int 10)) (xC (.int 12))) xNil))))) qNil))) (xVar 6)) (xVar 5))))
  (mSeq (mIf (tB1 (x2 gGt (xVar 2) (xC (.int 3)))) (mOw 4 (xCallO Cm.m_law_fitted (qIo 0 (qVal (xVar 1) qNil)))) mNx)
  (mSeq (mIf (tB1 (x2 gEq (xVar 2) (xC (.int 6)))) (mSto 4 gSto (xCall Cm.m_law_draw_2 (qIo 0 (qVal (xC (.int 9)) qNil))) (xCall Cm.m_law_pick (qIo 0 (qVal (xVar 3) qNil)))) mNx)
  (mSeq (mIf (tB1 (x2 gEq (xN gSum (xCons (xVal (mLc [5] (xIter (xVar 3)) (gSet 5) ttYes (lcPush (xBor (p2 gIx (pVar 4) (pVar 5)))))) xNil)) (xC (.int 0)))) (mSto 4 gSto (xC (.int 1)) (xCall Cm.m_law_pick (qIo 0 (qVal (xVar 3) qNil)))) mNx)
  (mRet (xVar 4))))))))
def m_law_table : En → Rs D := mDef 2 7 m_law_table_b
def m_law_made_b : En → Rs Fl :=
  (mRet (xVal (xMake "Shares" Cm.m_Shares___init__ (xCons (xVar 0) (xCons (xN gTuple (xCons (xVal (mLc [2] (xIter (xN gSortX (xCons (xVar 1) xNil))) (gSet 2) ttYes (lcPush (x2 gIx (xVar 1) (xVar 2))))) xNil)) xNil)))))
def m_law_made : En → Rs D := mDef 2 3 m_law_made_b
def m_law_sum_2_b : En → Rs Fl :=
  (mRet (xN gSum (xCons (xVal (mLc [2] (xIter (xVar 1)) (gSet 2) ttYes (lcPush (x2 gIx (xVar 0) (xVar 2))))) xNil)))
def m_law_sum_2 : En → Rs D := mDef 2 3 m_law_sum_2_b
def m_law_help_2_b : En → Rs Fl :=
  (mSeq (mPar [3, 4] (xCons (xCall Cm.m_law_sum_2 (qVal (xVar 0) (qVal (xVal (mLc [5] (xIter (xVar 1)) (gSet 5) (tB1 (x2 gIn (xVar 5) (xVar 2))) (lcPush (xVar 5)))) qNil))) (xCons (xCall Cm.m_law_sum_2 (qVal (xVar 0) (qVal (xN gSortX (xCons (xVar 0) xNil)) qNil))) xNil)))
  (mRet (x2 Mi.gSub (x2 Mi.gMul (xVar 4) (xVar 3)) (x2 Mi.gMul (xCall Cm.m_law_sum_2 (qVal (xVar 0) (qVal (xVar 1) qNil))) (xCall Cm.m_law_sum_2 (qVal (xVar 0) (qVal (xVar 2) qNil)))))))
def m_law_help_2 : En → Rs D := mDef 3 6 m_law_help_2_b
def m_law_names_b : En → Rs Fl :=
  (mSeq (mOw 2 (fLst xNil))
  (mSeq (mFor (xRng1 (xCons (xVar 1) xNil)) (gSet 3) (mSeq (mAsg (gSet 4) (xC (.str "")))
  (mSeq (mFor (xRng1 (xCons (xCall Cm.m_law_pick (qIo 0 (qVal (xLst (xCons (xC (.int 1)) (xCons (xC (.int 1)) (xCons (xC (.int 2)) (xCons (xC (.int 8)) xNil))))) qNil))) xNil)) (gSet 5) (mAsg (gSet 4) (x2 Mi.gAdd (xVar 4) (xCall Cm.m_law_pick (qIo 0 (qVal (xC (.str "abcdefghijklmnopqrstuvwxyz")) qNil))))))
  (mDrop (xMeth 2 gApp (xCons (x2 gIx (xVal (mLc [6] (xIter (xLst (xCons (xVar 4) (xCons (xC (.str "ma")) (xCons (xC (.str "mb")) (xCons (xC (.str "mc")) (xCons (xC (.str "md")) xNil))))))) (gSet 6) (tP1 (p2 gNotIn (pVar 6) (pVar 2))) (lcPush (xVar 6)))) (xC (.int 0))) xNil))))))
  (mRet (xN gTuple (xCons (xVar 2) xNil)))))
def m_law_names : En → Rs D := mDef 2 7 m_law_names_b
def m_law_jar_b : En → Rs Ob :=
  (nSeq (mAsg (gSet 2) (x2 Mi.gAdd (xC (.int 628318)) (x2 Mi.gMul (xC (.int 30103)) (xVar 1))))
  (nSeq (mFor (xIter (xSl (xVar 0) oNone (oSome (xC (.int 7))))) (gSet 3) (mAsg (gSet 2) (x2 Mi.gMod (xN gInt (xCons (x2 Mi.gAdd (x2 Mi.gAdd (x2 Mi.gMul (xVar 2) (xC (.int 50021))) (x2 Mi.gMul (xN gInt (xCons (xVar 3) xNil)) (xC (.int 23)))) (xVar 1)) xNil)) (xC (.int 2147483137)))))
  (nSeq (mAsg (gSet 4) (xIf (tB1 (x2 gLt (xVar 1) (xN gLen (xCons (xVar 0) xNil)))) (xN gInt (xCons (x2 gIx (xVar 0) (xVar 1)) xNil)) (xVar 2)))
  (fLst (xCons (xIf (ttOr (tB1 (x2 gLt (xVar 4) (xC (.int 0)))) (tB1 (x2 gGe (xVar 4) (x2 Mi.gPow (xC (.int 10)) (xC (.int 18)))))) (xN gAbs (xCons (xVar 4) xNil)) (xC (.int 0))) (xCons (x2 Mi.gMod (xN gInt (xCons (x2 Mi.gAdd (xVar 2) (x2 Mi.gMul (xVar 4) (xC (.int 29)))) xNil)) (xC (.int 2147483137))) (xCons (xC (.int 0)) xNil)))))))
def m_law_jar : List D → Rs Ob := mDefN 2 5 m_law_jar_b
def m_law_lots_2_b : En → Rs Fl :=
  (mSeq (mAsg (gSet 1) (xLst (xCons (xTup xNil) (xCons (xTup (xCons (xC (.str "")) xNil)) xNil))))
  (mSeq (mFor (xRng1 (xCons (xVar 0) xNil)) (gSet 2) (mSeq (mOw 3 (fLst xNil))
  (mSeq (mFor (xIter (xVar 1)) (gSet 4) (mFor (xIter (xVar 1)) (gSet 5) (mIf (tB1 (x2 gEq (xVal (mLc [6] (xIter (xVar 4)) (gSet 6) (tB1 (x2 gNotIn (xVar 6) (xVar 5))) (lcPush (xVar 6)))) (xLst xNil))) (mDrop (xMeth 3 gApp (xCons (xN gTuple (xCons (x2 Mi.gAdd (xVal (mLc [6] (xIter (xVar 4)) (gSet 6) ttYes (lcPush (x2 Mi.gAdd (xC (.str "0")) (xVar 6))))) (xVal (mLc [6] (xIter (xVar 5)) (gSet 6) ttYes (lcPush (x2 Mi.gAdd (xC (.str "1")) (xVar 6)))))) xNil)) xNil))) mNx)))
  (mAsg (gSet 1) (xVar 3)))))
  (mRet (xN gSortX (xCons (xVar 1) xNil)))))
def m_law_lots_2 : En → Rs D := mDef 1 7 m_law_lots_2_b
def m_law_helps_b : En → Rs Fl :=
  (mSeq (mParVF 2 3 (xCall Cm.m_law_lots_2 (qVal (xVar 1) qNil)) (fLst xNil))
  (mSeq (mFor (xRng1 (xCons (xN gLen (xCons (xVar 2) xNil)) xNil)) (gSet 4) (mFor (xIter (xSl (xVar 2) (oSome (xVar 4)) oNone)) (gSet 5) (mDrop (xMeth 3 gApp (xCons (xTup (xCons (xCall Cm.m_law_help_2 (qVal (xVar 0) (qVal (x2 gIx (xVar 2) (xVar 4)) (qVal (xVar 5) qNil)))) (xCons (x2 gIx (xVar 2) (xVar 4)) (xCons (xVar 5) xNil)))) xNil)))))
  (mRet (xVar 3))))
def m_law_helps : En → Rs D := mDef 2 6 m_law_helps_b
def m_law_or_b : En → Rs Fl :=
  (mRet (xTm gJoin (xC (.str "")) (xCons (xVal (mLc [2] (xRng1 (xCons (xN gLen (xCons (xVar 0) xNil)) xNil)) (gSet 2) ttYes (lcPush (xIf (tB1 (x2 gIn (xC (.str "1")) (xLst (xCons (x2 gIx (xVar 0) (xVar 2)) (xCons (x2 gIx (xVar 1) (xVar 2)) xNil))))) (xC (.str "1")) (xC (.str "0")))))) xNil)))
def m_law_or : En → Rs D := mDef 2 3 m_law_or_b
def m_law_and_b : En → Rs Fl :=
  (mRet (xTm gJoin (xC (.str "")) (xCons (xVal (mLc [2] (xRng1 (xCons (xN gLen (xCons (xVar 0) xNil)) xNil)) (gSet 2) ttYes (lcPush (xIf (tB1 (x2 gIn (xC (.str "0")) (xLst (xCons (x2 gIx (xVar 0) (xVar 2)) (xCons (x2 gIx (xVar 1) (xVar 2)) xNil))))) (xC (.str "0")) (xC (.str "1")))))) xNil)))
def m_law_and : En → Rs D := mDef 2 3 m_law_and_b
def m_law_passes_at_b : En → Rs Fl :=
  (mSeq (mAsg (gSet 4) (x2 Mi.gMul (x2 gIx (xVar 0) (xCall Cm.m_law_or (qVal (xVar 2) (qVal (xVar 3) qNil)))) (x2 gIx (xVar 1) (xCall Cm.m_law_and (qVal (xVar 2) (qVal (xVar 3) qNil))))))
  (mRet (x2 gGe (xVar 4) (x2 Mi.gMul (x2 gIx (xVar 0) (xVar 2)) (x2 gIx (xVar 1) (xVar 3))))))
def m_law_passes_at : En → Rs D := mDef 4 5 m_law_passes_at_b
def m_law_failing_b : En → Rs Fl :=
  (mSeq (mAsg (gSet 2) (xN gSortX (xCons (xVar 0) xNil)))
  (mSeq (mFor (xRng1 (xCons (xN gLen (xCons (xVar 2) xNil)) xNil)) (gSet 3) (mFor (xIter (xSl (xVar 2) (oSome (x2 Mi.gAdd (xVar 3) (xC (.int 1)))) oNone)) (gSet 4) (mSeq (mAsg (gSet 5) (xN gLen (xCons (xVal (mLc [6] (xRng1 (xCons (xN gLen (xCons (xVar 4) xNil)) xNil)) (gSet 6) (tB1 (x2 gNe (x2 gIx (xVar 4) (xVar 6)) (x2 gIx (x2 gIx (xVar 2) (xVar 3)) (xVar 6)))) (lcPush (xVar 6)))) xNil)))
  (mIf (ttAnd (tB1 (xChain gLt gLe (xC (.int 1)) (xVar 5) (xVar 1))) (ttNot (ttTru (xCall Cm.m_law_passes_at (qVal (xVar 0) (qVal (xVar 0) (qVal (x2 gIx (xVar 2) (xVar 3)) (qVal (xVar 4) qNil)))))))) (mRet (xTup (xCons (x2 gIx (xVar 2) (xVar 3)) (xCons (xVar 4) xNil)))) mNx))))
  (mRet (xC .non))))
def m_law_failing : En → Rs D := mDef 2 7 m_law_failing_b
def m_law_is_over_b : En → Rs Fl :=
  (mRet (x2 gEq (xVal (mLc [2] (xRng1 (xCons (xN gLen (xCons (xVar 0) xNil)) xNil)) (gSet 2) (ttAnd (tB1 (x2 gEq (x2 gIx (xVar 0) (xVar 2)) (xC (.str "0")))) (tB1 (x2 gEq (x2 gIx (xVar 1) (xVar 2)) (xC (.str "1"))))) (lcPush (xVar 2)))) (xLst xNil)))
def m_law_is_over : En → Rs D := mDef 2 3 m_law_is_over_b
def m_law_two_b : En → Rs Fl :=
  (mSeq (mAsg (gUnp 2 (gsCons (gSet 2) (gsCons (gSet 3) gsNil))) (xTup (xCons (xCall Cm.m_law_table (qIo 0 (qVal (xVar 1) qNil))) (xCons (xCall Cm.m_law_draw_2 (qIo 0 (qVal (xC (.int 5)) qNil))) xNil))))
  (mSeq (mIf (tB1 (x2 gLt (xVar 3) (xC (.int 2)))) (mRet (xTup (xCons (xVar 2) (xCons (xCall Cm.m_law_table (qIo 0 (qVal (xVar 1) qNil))) xNil)))) mNx)
  (mSeq (mOw 4 (xNF gDictL (xCons (xVar 2) xNil)))
  (mSeq (mIf (tB1 (x2 gEq (xVar 3) (xC (.int 2)))) (mOw 4 (xNF gDictL (xCons (xVal (mLc [6] (xIterK 2) (gSet 6) ttYes (lcPush (xTup (xCons (xVar 6) (xCons (xN gMinB (xCons (x2 Mi.gPow (xC (.int 10)) (xC (.int 12))) (xCons (x2 Mi.gMul (x2 gIx (xVar 2) (xVar 6)) (xC (.int 3))) xNil))) xNil)))))) xNil))) mNx)
  (mSeq (mIf (tB1 (x2 gGt (xVar 3) (xC (.int 2)))) (mFor (xRng1 (xCons (x2 Mi.gAdd (xC (.int 1)) (xCall Cm.m_law_draw_2 (qIo 0 (qVal (xC (.int 3)) qNil)))) xNil)) (gSet 5) (mSeq (mPar [6, 7] (xCons (xCall Cm.m_law_pick (qIo 0 (qVal (xCall Cm.m_law_rows_2 (qVal (xVar 1) qNil)) qNil))) (xCons (xCall Cm.m_law_pick (qIo 0 (qVal (xCall Cm.m_law_rows_2 (qVal (xVar 1) qNil)) qNil))) xNil)))
  (mSeq (mPar [6, 7] (xCons (xCall Cm.m_law_or (qVal (xVar 6) (qVal (xVar 7) qNil))) (xCons (xCall Cm.m_law_and (qVal (xVar 6) (qVal (xVar 7) qNil))) xNil)))
  (mSeq (mAsg (gSet 8) (xCall Cm.m_law_draw_2 (qIo 0 (qVal (x2 Mi.gAdd (xBor (p2 gIx (pVar 4) (pVar 6))) (xC (.int 1))) qNil))))
  (mIf (tB1 (x2 gLe (x2 Mi.gAdd (xBor (p2 gIx (pVar 4) (pVar 7))) (xVar 8)) (x2 Mi.gPow (xC (.int 10)) (xC (.int 12))))) (mSeq (mSto 4 gSto (x2 Mi.gSub (xBor (p2 gIx (pVar 4) (pVar 6))) (xVar 8)) (xVar 6))
  (mSto 4 gSto (x2 Mi.gAdd (xBor (p2 gIx (pVar 4) (pVar 7))) (xVar 8)) (xVar 7))) mNx))))) mNx)
  (mRet (xTup (xCons (xVar 2) (xCons (xVar 4) xNil)))))))))
def m_law_two : En → Rs D := mDef 2 9 m_law_two_b
def m_law_less_b : En → Rs Fl :=
  (mSeq (mPar [3, 4] (xCons (xCall Cm.m_law_sum_2 (qVal (xVar 0) (qVal (xN gSortX (xCons (xVar 0) xNil)) qNil))) (xCons (xCall Cm.m_law_sum_2 (qVal (xVar 1) (qVal (xN gSortX (xCons (xVar 1) xNil)) qNil))) xNil)))
  (mSeq (mFor (xIter (xCall Cm.m_law_lots_2 (qVal (xVar 2) qNil))) (gSet 5) (mIf (tB1 (x2 gLt (x2 Mi.gMul (xCall Cm.m_law_sum_2 (qVal (xVar 0) (qVal (xVar 5) qNil))) (xVar 4)) (x2 Mi.gMul (xCall Cm.m_law_sum_2 (qVal (xVar 1) (qVal (xVar 5) qNil))) (xVar 3)))) (mRet (xVar 5)) mNx))
  (mRet (xC .non))))
def m_law_less : En → Rs D := mDef 3 6 m_law_less_b
end Cm

set_option Elab.async false
set_option linter.all false
set_option maxRecDepth 100000
set_option maxHeartbeats 4000000
/-! Pl0: mirrors, evaluated -/
namespace Mi
open PySem
/-- the caller's -/
def isIoS : Sl → Bool
  | .io _ => true
  | _ => false
@[simp] theorem isIo_v (d : D) : isIoS (.v d) = false := id rfl
@[simp] theorem isIo_un : isIoS .un = false := id rfl
@[simp] theorem isIo_ow (o : Ob) : isIoS (.ow o) = false := id rfl
@[simp] theorem isIo_io (o : Ob) : isIoS (.io o) = true := id rfl
section
variable {α β : Type} {env : En}
theorem bind_eq (r : Rs α) (f : α → En → Rs β) : r.bind f = match r with | .ok a e => f a e | .er x e => .er x e | .bad => .bad := by cases r <;> rfl
@[simp] theorem ev_mSeq (m n : En → Rs Fl) : mSeq m n env = (m env).bind fun fl e => match fl with | .nx => n e | fl => .ok fl e := id rfl
@[simp] theorem ev_mNx : mNx env = .ok .nx env := id rfl
@[simp] theorem ev_mAsg (g : D → En → Option En) (m : En → Rs D) : mAsg g m env = (m env).bind fun d e1 => match g d e1 with | some e2 => .ok .nx e2 | none => .bad := id rfl
@[simp] theorem ev_mDrop (m : En → Rs D) : mDrop m env = (m env).bind fun _ e1 => .ok .nx e1 := id rfl
@[simp] theorem ev_mRet (m : En → Rs D) : mRet m env = (m env).bind fun d e1 => .ok (.rt d) e1 := id rfl
@[simp] theorem ev_mRetN : mRetN env = .ok (.rt .non) env := id rfl
@[simp] theorem ev_mIf (t : En → Rs Bool) (m n : En → Rs Fl) : mIf t m n env = (t env).bind fun b e => match b with | true => m e | false => n e := id rfl
@[simp] theorem ev_mBad : mBad env = .bad := id rfl
@[simp] theorem ev_mBrk : mBrk env = .ok .bk env := id rfl
@[simp] theorem ev_mCnt : mCnt env = .ok .ct env := id rfl
@[simp] theorem ev_mPass : mPass env = .ok .nx env := id rfl
@[simp] theorem ev_mPar (is : List Nat) (ma : En → Rs (List D)) : mPar is ma env = (ma env).bind fun ds e1 => match mPar.parS is ds e1 with | some e2 => .ok .nx e2 | none => .bad := id rfl
@[simp] theorem ev_parS0 : mPar.parS [] [] env = some env := id rfl
@[simp] theorem ev_parS (i : Nat) (is : List Nat) (d : D) (ds : List D) : mPar.parS (i :: is) (d :: ds) env = (gSet i d env).bind (mPar.parS is ds) := id rfl
@[simp] theorem ev_mOw (i : Nat) (m : En → Rs Ob) : mOw i m env = (m env).bind fun o e => match e[i]? with
  | none => .bad
  | some s => if isIoS s = true then .bad else .ok .nx (e.set i (.ow o)) := by
  unfold mOw
  congr 1
  funext o e
  cases e[i]? with
  | none => rfl
  | some s => cases s <;> rfl
@[simp] theorem ev_mSto (i : Nat) (g : Ob → D → D → Option Ob) (m mk : En → Rs D) : mSto i g m mk env = (m env).bind fun d e1 => if mSto.isObAt i e1 = true then (mk e1).bind fun kd e2 => stoAt i (fun o => g o kd d) e2 else .bad := id rfl
@[simp] theorem ev_isOb (i : Nat) : mSto.isObAt i env = ((env[i]?).bind Sl.ob).isSome := id rfl
@[simp] theorem ev_stoAt (i : Nat) (g : Ob → Option Ob) : stoAt i g env = match env[i]? with
  | some s => match s.ob with
    | some o => match g o with
      | some o' => .ok .nx (env.set i (s.put o'))
      | none => .bad
    | none => .bad
  | none => .bad := id rfl
@[simp] theorem ev_mFor (mi : En → Rs (List D)) (mg : D → En → Option En) (mb : En → Rs Fl) : mFor mi mg mb env = (mi env).bind fun ds e1 => forL mg mb ds e1 := id rfl
@[simp] theorem ev_xVar (i : Nat) : xVar i env = match env[i]? with
  | some (.v d) => .ok d env
  | some (.ow o) => .ok o.val (env.set i (.v o.val))
  | _ => .bad := id rfl
@[simp] theorem ev_xC (d : D) : xC d env = .ok d env := id rfl
@[simp] theorem ev_x1 (g : D → Option D) (m : En → Rs D) : x1 g m env = (m env).bind fun d e => .of (g d) e := id rfl
@[simp] theorem ev_x2 (g : D → D → Option D) (m n : En → Rs D) : x2 g m n env = (m env).bind fun d e1 => (n e1).bind fun d2 e2 => .of (g d d2) e2 := id rfl
@[simp] theorem ev_xN (g : List D → Option D) (m : En → Rs (List D)) : xN g m env = (m env).bind fun d e => .of (g d) e := id rfl
@[simp] theorem ev_xNil : xNil env = .ok [] env := id rfl
@[simp] theorem ev_xCons (m : En → Rs D) (ma : En → Rs (List D)) : xCons m ma env = (m env).bind fun d e1 => (ma e1).bind fun ds e2 => .ok (d :: ds) e2 := id rfl
@[simp] theorem ev_qNil : qNil env = .ok [] env := id rfl
@[simp] theorem ev_qVal (m : En → Rs D) (ma : En → Rs (List Ar)) : qVal m ma env = (m env).bind fun d e1 => (ma e1).bind fun ds e2 => .ok (.inl d :: ds) e2 := id rfl
@[simp] theorem ev_qIo (i : Nat) (ma : En → Rs (List Ar)) : qIo i ma env = match (env[i]?).bind Sl.ob with | some _ => (ma env).bind fun ds e2 => .ok (.inr i :: ds) e2 | none => .bad := id rfl
@[simp] theorem ev_qPick (pm : List Nat) (mq : En → Rs (List Ar)) : qPick pm mq env = (mq env).bind fun as e => .ok (pick pm as) e := id rfl
@[simp] theorem ev_xCall (m : En → Rs D) (ma : En → Rs (List Ar)) : xCall m ma env = (ma env).bind fun as e => if (inrs as).Nodup then (match mkArgs e as with | none => .bad | some args => match m args with | .ok d args' => .ok d (putBack e as args') | .er x args' => .er x (putBack e as args') | .bad => .bad) else .bad := id rfl
@[simp] theorem ev_xCallF (m : En → Rs D) (mo : En → Rs Ob) : xCallF m mo env = (mo env).bind fun o e1 => match m [.io o] with | .ok d _ => .ok d e1 | _ => .bad := id rfl
@[simp] theorem ev_xCallN (m : List D → Rs Ob) (ma : En → Rs (List D)) : xCallN m ma env = (ma env).bind fun ds e1 => match m ds with | .ok o _ => .ok o e1 | _ => .bad := id rfl
@[simp] theorem ev_xTup (ma : En → Rs (List D)) : xTup ma env = (ma env).bind fun ds e => .ok (.tup ds) e := id rfl
@[simp] theorem ev_xLst (ma : En → Rs (List D)) : xLst ma env = (ma env).bind fun ds e => .ok (.lst ds) e := id rfl
@[simp] theorem ev_xVal (mo : En → Rs Ob) : xVal mo env = (mo env).bind fun o e => .ok o.val e := id rfl
@[simp] theorem ev_fLst (ma : En → Rs (List D)) : fLst ma env = (ma env).bind fun ds e => .ok (.lst ds) e := id rfl
@[simp] theorem ev_fDict (t : Bool) : fDict t env = .ok (.dct t [] []) env := id rfl
@[simp] theorem ev_fOwn (i : Nat) : fOwn i env = match env[i]? with
  | some (.ow o) => .ok o (env.set i .un)
  | _ => .bad := id rfl
@[simp] theorem ev_xSl (m : En → Rs D) (lo hi : En → Rs (Option Int)) : xSl m lo hi env = (m env).bind fun d e1 => (lo e1).bind fun l e2 => (hi e2).bind fun h e3 => .of (gSl l h d) e3 := id rfl
@[simp] theorem ev_oNone : oNone env = .ok none env := id rfl
@[simp] theorem ev_oSome (m : En → Rs D) : oSome m env = (m env).bind fun d e => .of ((isInt d).map some) e := id rfl
@[simp] theorem ev_xAnd (m n : En → Rs D) : xAnd m n env = (m env).bind fun d e => match d with | .bl true => n e | .bl false => .ok (.bl false) e | _ => .bad := id rfl
@[simp] theorem ev_xOr (m n : En → Rs D) : xOr m n env = (m env).bind fun d e => match d with | .bl true => .ok (.bl true) e | .bl false => n e | _ => .bad := id rfl
@[simp] theorem ev_xNot (m : En → Rs D) : xNot m env = (m env).bind fun d e => .of (d.truth.map fun b => .bl (!b)) e := id rfl
@[simp] theorem ev_xIf (t : En → Rs Bool) (m n : En → Rs D) : xIf t m n env = (t env).bind fun b e => match b with | true => m e | false => n e := id rfl
@[simp] theorem ev_xChain (g g' : D → D → Option D) (ma mb mc : En → Rs D) : xChain g g' ma mb mc env = (ma env).bind fun d1 e1 => (mb e1).bind fun d2 e2 => match g d1 d2 with | some (.bl true) => (mc e2).bind fun d3 e3 => .of (g' d2 d3) e3 | some (.bl false) => .ok (.bl false) e2 | _ => .bad := id rfl
@[simp] theorem ev_ttTru (m : En → Rs D) : ttTru m env = (m env).bind fun d e => .of d.truth e := id rfl
@[simp] theorem ev_ttNot (m : En → Rs Bool) : ttNot m env = (m env).bind fun b e => .ok (!b) e := id rfl
@[simp] theorem ev_ttAnd (m n : En → Rs Bool) : ttAnd m n env = (m env).bind fun b e => match b with | true => n e | false => .ok false e := id rfl
@[simp] theorem ev_ttOr (m n : En → Rs Bool) : ttOr m n env = (m env).bind fun b e => match b with | true => .ok true e | false => n e := id rfl
@[simp] theorem ev_ttYes : ttYes env = .ok true env := id rfl
@[simp] theorem ev_tB1 (m : En → Rs D) : tB1 m env = (m env).bind fun d e => .of (isBl d) e := id rfl
@[simp] theorem ev_isBl (b : Bool) : isBl (.bl b) = some b := id rfl
@[simp] theorem ev_tP1 (mp : En → Option D) : tP1 mp env = .of ((mp env).bind isBl) env := id rfl
@[simp] theorem ev_xBor (mp : En → Option D) : xBor mp env = match mp env with
  | some d => if isFlat d = true then .ok d env else .bad
  | none => .bad := id rfl
@[simp] theorem ev_pVar (i : Nat) : pVar i env = match env[i]? with
  | some (.v d) => some d
  | some (.ow o) => some o.val
  | some (.io o) => some o.val
  | _ => none := id rfl
@[simp] theorem ev_pC (d : D) : pC d env = some d := id rfl
@[simp] theorem ev_p1 (g : D → Option D) (m : En → Option D) : p1 g m env = (m env).bind g := id rfl
@[simp] theorem ev_p2 (g : D → D → Option D) (m n : En → Option D) : p2 g m n env = (m env).bind fun d => (n env).bind fun e => g d e := id rfl
@[simp] theorem ev_pN (g : List D → Option D) (m : En → Option (List D)) : pN g m env = (m env).bind g := id rfl
@[simp] theorem ev_psNil : psNil env = some [] := id rfl
@[simp] theorem ev_psCons (m : En → Option D) (ms : En → Option (List D)) : psCons m ms env = (m env).bind fun d => (ms env).map fun r => d :: r := id rfl
@[simp] theorem ev_xIter (m : En → Rs D) : xIter m env = (m env).bind fun d e => .of (iterD d) e := id rfl
@[simp] theorem ev_xRng1 (ma : En → Rs (List D)) : xRng1 ma env = (ma env).bind fun ds e => match ds with | [.int j] => .of (rngD 0 j) e | _ => .bad := id rfl
@[simp] theorem ev_xRng2 (ma : En → Rs (List D)) : xRng2 ma env = (ma env).bind fun ds e => match ds with | [.int i, .int j] => .of (rngD i j) e | _ => .bad := id rfl
@[simp] theorem ev_xEnum (ma : En → Rs (List D)) : xEnum ma env = (ma env).bind fun ds e => match ds with | [d] => .of ((iterD d).map enumD) e | _ => .bad := id rfl
@[simp] theorem ev_xZip (ma : En → Rs (List D)) : xZip ma env = (ma env).bind fun ds e => match ds with | [c, d] => .of ((iterD c).bind fun a => (iterD d).map fun b => zipD a b) e | _ => .bad := id rfl
@[simp] theorem ev_xIsi (f : D → Option Bool) (m : En → Rs D) : xIsi f m env = (m env).bind fun d e => .of ((f d).map .bl) e := id rfl
@[simp] theorem ev_gSet (i : Nat) (d : D) : gSet i d env = match env[i]? with
  | none => none
  | some s => if isIoS s = true then none else some (env.set i (.v d)) := by
  unfold gSet
  cases env[i]? with
  | none => rfl
  | some s => cases s <;> rfl
@[simp] theorem ev_gsNil : gsNil [] env = some env := id rfl
@[simp] theorem ev_gsCons (mg : D → En → Option En) (ms : List D → En → Option En) (d : D) (r : List D) : gsCons mg ms (d :: r) env = (mg d env).bind fun e => ms r e := id rfl
@[simp] theorem ev_gUnpT (n : Nat) (ms : List D → En → Option En) (ds : List D) : gUnp n ms (.tup ds) env = if ds.length = n then ms ds env else none := id rfl
@[simp] theorem ev_gUnpL (n : Nat) (ms : List D → En → Option En) (ds : List D) : gUnp n ms (.lst ds) env = if ds.length = n then ms ds env else none := id rfl
@[simp] theorem ev_xMeth (i : Nat) (g : Ob → List D → Option (D × Ob)) (ma : En → Rs (List D)) : xMeth i g ma env = if isLstAt i env = true then (ma env).bind fun ds e => mutAt i (fun o => g o ds) e else .bad := id rfl
@[simp] theorem ev_isLstAt (i : Nat) : isLstAt i env = match (env[i]?).bind Sl.ob with
  | some (.lst _) => true
  | _ => false := id rfl
@[simp] theorem ev_mutAt (i : Nat) (g : Ob → Option (D × Ob)) : mutAt i g env = match env[i]? with
  | some s => match s.ob with
    | some o => match g o with
      | some (z, o') => .ok z (env.set i (s.put o'))
      | none => .bad
    | none => .bad
  | none => .bad := id rfl
@[simp] theorem ev_val (ds : List D) : (Ob.lst ds).val = .lst ds := id rfl
@[simp] theorem ev_ob1 (o : Ob) : (Sl.ow o).ob = some o := id rfl
@[simp] theorem ev_ob2 (o : Ob) : (Sl.io o).ob = some o := id rfl
@[simp] theorem ev_ob3 (d : D) : (Sl.v d).ob = none := id rfl
@[simp] theorem ev_ob4 : Sl.un.ob = none := id rfl
@[simp] theorem ev_put1 (o o' : Ob) : (Sl.ow o).put o' = .ow o' := id rfl
@[simp] theorem ev_put2 (o o' : Ob) : (Sl.io o).put o' = .io o' := id rfl
@[simp] theorem ev_flat1 (i : Int) : isFlat (.int i) = true := id rfl
@[simp] theorem ev_flat2 (i : Str) : isFlat (.str i) = true := id rfl
@[simp] theorem ev_flat3 (i : Bool) : isFlat (.bl i) = true := id rfl
@[simp] theorem ev_flat4 : isFlat .non = true := id rfl
@[simp] theorem ev_mkArgs0 : mkArgs env [] = some [] := id rfl
@[simp] theorem ev_mkArgsV (d : D) (r : List Ar) : mkArgs env (.inl d :: r) = (mkArgs env r).map fun t => .v d :: t := id rfl
@[simp] theorem ev_mkArgsO (i : Nat) (r : List Ar) : mkArgs env (.inr i :: r) = ((env[i]?).bind fun s => s.ob.map .io).bind fun s => (mkArgs env r).map fun t => s :: t := id rfl
@[simp] theorem ev_inrs0 : inrs [] = [] := id rfl
@[simp] theorem ev_inrsV (d : D) (r : List Ar) : inrs (.inl d :: r) = inrs r := id rfl
@[simp] theorem ev_inrsO (i : Nat) (r : List Ar) : inrs (.inr i :: r) = i :: inrs r := id rfl
@[simp] theorem ev_lookV (d : D) (as : List Ar) (s : Sl) (r : En) (i : Nat) : lookIo (.inl d :: as) (s :: r) i = lookIo as r i := by cases s <;> rfl
@[simp] theorem ev_lookO (k : Nat) (as : List Ar) (o : Ob) (r : En) (i : Nat) : lookIo (.inr k :: as) (.io o :: r) i = if k = i then some o else lookIo as r i := id rfl
@[simp] theorem ev_look0 (r : En) (i : Nat) : lookIo [] r i = none := by cases r <;> rfl
@[simp] theorem ev_mrgO (o o' : Ob) (r t : En) : mergeA (.io o :: r) (.io o' :: t) = .io o' :: mergeA r t := id rfl
@[simp] theorem ev_mrgV (d : D) (s : Sl) (r t : En) : mergeA (.v d :: r) (s :: t) = .v d :: mergeA r t := id rfl
@[simp] theorem ev_mrg0 (t : En) : mergeA [] t = [] := by cases t <;> rfl
end
/-- a slot's values stand through calls that take values alone -/
theorem putBack_nil {env : En} {as : List Ar} {args : En} (h : inrs as = []) : putBack env as args = env := by
  have core : ∀ (as : List Ar) (r : En) (i : Nat), inrs as = [] → lookIo as r i = none := by
    intro as
    induction as with
    | nil => intro r i _; exact ev_look0 r i
    | cons a as ih =>
      intro r i h
      cases a with
      | inr k => simp [inrs] at h
      | inl d =>
        cases r with
        | nil => cases as <;> rfl
        | cons s r => rw [ev_lookV]; exact ih r i h
  unfold putBack
  apply List.ext_getElem?
  intro i
  rw [List.getElem?_mapIdx]
  simp only [core as args _ h]
  cases env[i]? <;> rfl
@[simp] theorem putBack_v (env : En) (d : D) (args : En) : putBack env [.inl d] args = env := putBack_nil rfl
@[simp] theorem putBack_vv (env : En) (d d2 : D) (args : En) : putBack env [.inl d, .inl d2] args = env := putBack_nil rfl
@[simp] theorem putBack_vvv (env : En) (d d2 d3 : D) (args : En) : putBack env [.inl d, .inl d2, .inl d3] args = env := putBack_nil rfl
@[simp] theorem putBack_vvvv (env : En) (d d2 d3 d4 : D) (args : En) : putBack env [.inl d, .inl d2, .inl d3, .inl d4] args = env := putBack_nil rfl
@[simp] theorem putBack_0 (env : En) (args : En) : putBack env [] args = env := putBack_nil rfl
theorem putBack_io0 (o o' : Ob) (s : Sl) (hs : s.ob = some o) (r : En) (as : List Ar) (h : inrs as = []) (t : En) : putBack (s :: r) (.inr 0 :: as) (.io o' :: t) = s.put o' :: r := by
  have core : ∀ (as : List Ar) (r : En) (i : Nat), inrs as = [] → lookIo as r i = none := by
    intro as
    induction as with
    | nil => intro r i _; exact ev_look0 r i
    | cons a as ih =>
      intro r i h
      cases a with
      | inr k => simp [inrs] at h
      | inl d =>
        cases r with
        | nil => cases as <;> rfl
        | cons s r => rw [ev_lookV]; exact ih r i h
  unfold putBack
  apply List.ext_getElem?
  intro i
  rw [List.getElem?_mapIdx]
  cases i with
  | zero => simp
  | succ i =>
    simp [core as t _ h]
@[simp] theorem putBack_i (o o' : Ob) (r t : En) : putBack (.io o :: r) [.inr 0] (.io o' :: t) = .io o' :: r := putBack_io0 o o' _ rfl r [] rfl t
@[simp] theorem putBack_iv (o o' : Ob) (r t : En) (d : D) : putBack (.io o :: r) [.inr 0, .inl d] (.io o' :: t) = .io o' :: r := putBack_io0 o o' _ rfl r _ rfl t
@[simp] theorem putBack_ivv (o o' : Ob) (r t : En) (d e : D) : putBack (.io o :: r) [.inr 0, .inl d, .inl e] (.io o' :: t) = .io o' :: r := putBack_io0 o o' _ rfl r _ rfl t
@[simp] theorem putBack_ivvv (o o' : Ob) (r t : En) (d e f : D) : putBack (.io o :: r) [.inr 0, .inl d, .inl e, .inl f] (.io o' :: t) = .io o' :: r := putBack_io0 o o' _ rfl r _ rfl t
end Mi

set_option Elab.async false
set_option linter.all false
set_option maxRecDepth 100000
set_option maxHeartbeats 4000000
/-! Pl1: the law's draws -/
namespace Pl
open PySem Mi
theorem log2_small {n k : Nat} (h : n < 2 ^ k) : n.log2 < k + 1 := by
  by_cases e : n = 0
  · subst e; simp
  · exact Nat.lt_of_lt_of_le ((Nat.log2_lt e).mpr h) (Nat.le_succ k)
theorem gMul_ok {i j : Int} (hi : i.natAbs < 2 ^ 100) (hj : j.natAbs < 2 ^ 100) : gMul (.int i) (.int j) = some (.int (i * j)) := by
  have h1 := log2_small hi
  have h2 := log2_small hj
  simp only [gMul]
  rw [if_pos (by omega)]
theorem gFdiv_ok {i j : Int} (hj : 0 < j) (h : j.natAbs < 2 ^ 100) : gFdiv (.int i) (.int j) = some (.int (i / j)) := by
  have h2 := log2_small h
  simp only [gFdiv]
  rw [if_pos ⟨hj, by omega⟩]
theorem gMod_ok {i j : Int} (hj : 0 < j) : gMod (.int i) (.int j) = some (.int (i % j)) := by
  simp only [gMod]
  rw [if_pos hj]
@[simp] theorem gAdd_ii (i j : Int) : gAdd (.int i) (.int j) = some (.int (i + j)) := id rfl
@[simp] theorem gSub_ii (i j : Int) : gSub (.int i) (.int j) = some (.int (i - j)) := id rfl
@[simp] theorem gInt_i (i : Int) : gInt [.int i] = some (.int i) := id rfl
@[simp] theorem ofs {α : Type} (a : α) (e : En) : Rs.of (some a) e = .ok a e := id rfl
/-- a bag: held signs, seed, count -/
abbrev bagO (a b c : Int) : Ob := .lst [.int a, .int b, .int c]
theorem draw_ok (a b c w : Int) (hw : 0 < w) (hw2 : w < 1000) (hb : b.natAbs < 2 ^ 31) (hc : c.natAbs < 2 ^ 60) :
    ∃ a' b' r, Cm.m_law_draw [.io (bagO a b c), .v (.int w)] = .ok (.int r) [.io (bagO a' b' (c + 1)), .v (.int w)] ∧ 0 ≤ r ∧ r < w ∧ b'.natAbs < 2 ^ 31 := by
  have m1 : (0 : Int) < 2147483549 := by decide
  have m2 : (0 : Int) < 60013 := by decide
  have m3 : (0 : Int) < 509 := by decide
  have d1 : ∀ i, gFdiv (.int i) (.int w) = some (.int (i / w)) := fun i => gFdiv_ok hw (by omega)
  have d2 : ∀ i, gFdiv (.int i) (.int 509) = some (.int (i / 509)) := fun i => gFdiv_ok m3 (by decide)
  have q1 : ∀ i, gMod (.int i) (.int w) = some (.int (i % w)) := fun i => gMod_ok hw
  have q2 : ∀ i, gMod (.int i) (.int 2147483549) = some (.int (i % 2147483549)) := fun i => gMod_ok m1
  have q3 : ∀ i, gMod (.int i) (.int 60013) = some (.int (i % 60013)) := fun i => gMod_ok m2
  have u1 : gMul (.int 65003) (.int (c + 1)) = some (.int (65003 * (c + 1))) := gMul_ok (by decide) (by omega)
  have u2 : gMul (.int 11) (.int (c + 1)) = some (.int (11 * (c + 1))) := gMul_ok (by decide) (by omega)
  have u3 : ∀ k : Int, gMul (.int (b + 65003 * (c + 1))) (.int (k % 60013 + 49003)) = some (.int ((b + 65003 * (c + 1)) * (k % 60013 + 49003))) := fun k => gMul_ok (by omega) (by omega)
  by_cases ha : 0 < a
  · refine ⟨a / w, b, a % w, ?_, Int.emod_nonneg _ (by omega), Int.emod_lt_of_pos _ hw, hb⟩
    simp [↓bind_eq, Cm.m_law_draw, Cm.m_law_draw_b, mDef, L2.atI, L2.ixN, gIx, gSto, gOrd, ha, d1, q1]
  · refine ⟨a, ((b + 65003 * (c + 1)) * ((b + 65003 * (c + 1)) % 60013 + 49003) + 11 * (c + 1) + 19) % 2147483549, ((b + 65003 * (c + 1)) * ((b + 65003 * (c + 1)) % 60013 + 49003) + 11 * (c + 1) + 19) % 2147483549 / 509 % w, ?_, Int.emod_nonneg _ (by omega), Int.emod_lt_of_pos _ hw, by omega⟩
    simp [↓bind_eq, Cm.m_law_draw, Cm.m_law_draw_b, mDef, L2.atI, L2.ixN, gIx, gSto, gOrd, ha, d1, d2, q1, q2, q3, u1, u2, u3]
end Pl

set_option Elab.async false
set_option linter.all false
set_option maxRecDepth 100000
set_option maxHeartbeats 4000000
/-! Pl2: loops, by invariants -/
namespace Pl
open PySem Mi
/-- a for loop: I by the turn and the names; R of its end -/
theorem forL_inv {mg : D → En → Option En} {mb : En → Rs Fl} {ds : List D} (I : Nat → En → Prop) (R : Rs Fl → Prop)
    (step : ∀ i d e, ds[i]? = some d → I i e → ∃ e2, mg d e = some e2 ∧ match mb e2 with
      | .ok .nx e3 => I (i + 1) e3
      | .ok .ct e3 => I (i + 1) e3
      | .ok .bk e3 => R (.ok .nx e3)
      | .ok (.rt d) e3 => R (.ok (.rt d) e3)
      | .er x e3 => R (.er x e3)
      | .bad => False)
    (fin : ∀ e, I ds.length e → R (.ok .nx e)) {e : En} (h : I 0 e) : R (forL mg mb ds e) := by
  have core : ∀ (r : List D) (i : Nat) (e : En), ds.drop i = r → i ≤ ds.length → I i e → R (forL mg mb r e) := by
    intro r
    induction r with
    | nil =>
      intro i e hd hi h
      have : i = ds.length := by
        have := List.drop_eq_nil_iff.mp hd
        omega
      subst this
      exact fin e h
    | cons d r ih =>
      intro i e hd hi h
      have hlt : i < ds.length := by
        by_cases q : i < ds.length
        · exact q
        · rw [List.drop_of_length_le (by omega)] at hd; cases hd
      have hg : ds[i]? = some d := by
        have := congrArg List.head? hd
        simpa [List.head?_drop] using this
      have hr : ds.drop (i + 1) = r := by
        rw [List.drop_eq_getElem_cons hlt] at hd
        exact (List.cons.inj hd).2
      obtain ⟨e2, h1, h2⟩ := step i d e hg h
      simp only [forL, h1]
      cases hb : mb e2 with
      | bad => rw [hb] at h2; exact h2.elim
      | er x e3 => rw [hb] at h2; exact h2
      | ok fl e3 =>
        rw [hb] at h2
        cases fl with
        | nx => exact ih (i + 1) e3 hr hlt h2
        | ct => exact ih (i + 1) e3 hr hlt h2
        | bk => exact h2
        | rt d => exact h2
  exact core ds 0 e rfl (Nat.zero_le _) h
/-- a comprehension's loop -/
theorem lcL_inv {vs : List Nat} {mg : D → En → Option En} {mt : En → Rs Bool} {me : List D → En → Rs (List D)} {ds : List D} (I : Nat → List D → En → Prop)
    (step : ∀ i d acc e, ds[i]? = some d → I i acc e → ∃ acc' e', lcStep vs mg mt me d acc e = .ok acc' e' ∧ I (i + 1) acc' e') {acc : List D} {e : En} (h : I 0 acc e) :
    ∃ acc' e', lcL vs mg mt me ds acc e = .ok acc' e' ∧ I ds.length acc' e' := by
  have core : ∀ (r : List D) (i : Nat) (acc : List D) (e : En), ds.drop i = r → i ≤ ds.length → I i acc e → ∃ acc' e', lcL vs mg mt me r acc e = .ok acc' e' ∧ I ds.length acc' e' := by
    intro r
    induction r with
    | nil =>
      intro i acc e hd hi h
      have : i = ds.length := by
        have := List.drop_eq_nil_iff.mp hd
        omega
      subst this
      exact ⟨acc, e, rfl, h⟩
    | cons d r ih =>
      intro i acc e hd hi h
      have hlt : i < ds.length := by
        by_cases q : i < ds.length
        · exact q
        · rw [List.drop_of_length_le (by omega)] at hd; cases hd
      have hg : ds[i]? = some d := by
        have := congrArg List.head? hd
        simpa [List.head?_drop] using this
      have hr : ds.drop (i + 1) = r := by
        rw [List.drop_eq_getElem_cons hlt] at hd
        exact (List.cons.inj hd).2
      obtain ⟨acc', e', h1, h2⟩ := step i d acc e hg h
      simp only [lcL, h1]
      exact ih (i + 1) acc' e' hr hlt h2
  exact core ds 0 acc e rfl (Nat.zero_le _) h
/-- .. that changes nothing but its own names -/
theorem lcL_pure {vs : List Nat} {mg : D → En → Option En} {mt : En → Rs Bool} {me : List D → En → Rs (List D)} (f : D → List D) {e : En} : ∀ {ds acc : List D}, (∀ d ∈ ds, ∀ acc : List D, acc.length < 4000 → lcStep vs mg mt me d acc e = .ok (acc ++ f d) e) →
    (∀ d ∈ ds, (f d).length ≤ 1) → acc.length + ds.length ≤ 4000 → lcL vs mg mt me ds acc e = .ok (acc ++ ds.flatMap f) e
  | [], acc, _, _, _ => by simp [lcL]
  | d :: ds, acc, h, hf, hl => by
    simp only [List.length_cons] at hl
    have h1 := h d List.mem_cons_self acc (by omega)
    have hd := hf d List.mem_cons_self
    have ih := lcL_pure f (ds := ds) (acc := acc ++ f d) (fun x hx => h x (List.mem_cons_of_mem _ hx)) (fun x hx => hf x (List.mem_cons_of_mem _ hx)) (by rw [List.length_append]; omega)
    simp only [lcL, h1, ih]
    simp
theorem size4000 : 4000 < sizeLine := by decide
/-- one step, the element kept or not -/
theorem lcStep_push {vs : List Nat} {mg : D → En → Option En} {mt : En → Rs Bool} {me : En → Rs D} {d z : D} {acc : List D} {e e2 e3 e4 : En} (h1 : mg d e = some e2) (h2 : mt e2 = .ok true e3) (h3 : me e3 = .ok z e4) (hl : acc.length < 4000) :
    lcStep vs mg mt (lcPush me) d acc e = .ok (acc ++ [z]) (wipeE e4 vs) := by
  have := size4000
  simp only [lcStep, h1, h2, lcPush, h3]
  rw [if_pos (by omega)]
theorem lcStep_skip {vs : List Nat} {mg : D → En → Option En} {mt : En → Rs Bool} {me : List D → En → Rs (List D)} {d : D} {acc : List D} {e e2 e3 : En} (h1 : mg d e = some e2) (h2 : mt e2 = .ok false e3) :
    lcStep vs mg mt me d acc e = .ok acc (wipeE e3 vs) := by
  simp only [lcStep, h1, h2]
@[simp] theorem ev_wipe0 (e : En) : wipeE e [] = e := id rfl
@[simp] theorem ev_wipe (e : En) (v : Nat) (vs : List Nat) : wipeE e (v :: vs) = (wipeE e vs).set v .un := id rfl
@[simp] theorem ev_back0 (e0 e : En) : backE e0 e [] = e := id rfl
@[simp] theorem ev_back (e0 e : En) (v : Nat) (vs : List Nat) : backE e0 e (v :: vs) = match e0[v]? with
  | some s => (backE e0 e vs).set v s
  | none => backE e0 e vs := id rfl
@[simp] theorem ev_okVs0 (e : En) : okVs e [] = true := id rfl
@[simp] theorem ev_okVs (e : En) (v : Nat) (vs : List Nat) : okVs e (v :: vs) = ((match e[v]? with
  | some .un => true
  | some (.v _) => true
  | _ => false) && okVs e vs) := id rfl
@[simp] theorem ev_mLc (vs : List Nat) (mi : En → Rs (List D)) (mg : D → En → Option En) (mt : En → Rs Bool) (me : List D → En → Rs (List D)) (env : En) : mLc vs mi mg mt me env = (mi env).bind fun ds e1 => if okVs e1 vs = true then (match lcL vs mg mt me ds [] (wipeE e1 vs) with
  | .ok acc e2 => .ok (.lst acc) (backE e1 e2 vs)
  | _ => .bad) else .bad := id rfl
/-! ### the bag -/
def Bag (n : Nat) (o : Ob) : Prop := ∃ a b c, o = bagO a b c ∧ b.natAbs < 2 ^ 31 ∧ c.natAbs ≤ n
theorem Bag.mono {n m : Nat} {o : Ob} (h : Bag n o) (hm : n ≤ m) : Bag m o := by
  obtain ⟨a, b, c, e, hb, hc⟩ := h
  exact ⟨a, b, c, e, hb, by omega⟩
theorem draw {n : Nat} {o : Ob} (B : Bag n o) (hn : n < 2 ^ 40) (w : Nat) (hw : 0 < w) (hw2 : w < 1000) :
    ∃ (o' : Ob) (r : Nat), Cm.m_law_draw [.io o, .v (.int w)] = .ok (.int r) [.io o', .v (.int w)] ∧ Bag (n + 1) o' ∧ r < w := by
  obtain ⟨a, b, c, rfl, hb, hc⟩ := B
  obtain ⟨a', b', r, h1, h2, h3, h4⟩ := draw_ok a b c w (by omega) (by omega) hb (by omega)
  refine ⟨_, r.toNat, ?_, ⟨a', b', c + 1, rfl, h4, by omega⟩, by omega⟩
  rw [h1, Int.toNat_of_nonneg h2]
end Pl

set_option Elab.async false
set_option linter.all false
set_option maxRecDepth 100000
set_option maxHeartbeats 4000000
/-! Pl3: one of several; marks; rows -/
namespace Pl
open PySem Mi
theorem atI_nat {α : Type} {xs : List α} {i : Nat} {x : α} (h : xs[i]? = some x) : L2.atI xs (i : Int) = some x := by
  have hl := (List.getElem?_eq_some_iff.mp h).1
  unfold L2.atI L2.ixN
  rw [if_pos (by omega), if_pos (by omega)]
  simpa using h
/-- one of a list -/
theorem one_lst {n : Nat} {o : Ob} (B : Bag n o) (hn : n < 2 ^ 40) (ds : List D) (h0 : 0 < ds.length) (h1 : ds.length < 1000) :
    ∃ (o' : Ob) (d : D), Cm.m_law_one [.io o, .v (.lst ds)] = .ok d [.io o', .v (.lst ds)] ∧ Bag (n + 1) o' ∧ d ∈ ds := by
  obtain ⟨o', r, h2, h3, h4⟩ := draw B hn ds.length h0 h1
  have hx : ds[r]? = some ds[r] := List.getElem?_eq_getElem h4
  refine ⟨o', ds[r], ?_, h3, List.getElem_mem h4⟩
  simp [↓bind_eq, Cm.m_law_one, Cm.m_law_one_b, mDef, gLen, h2, gIx, atI_nat hx]
theorem one_tup {n : Nat} {o : Ob} (B : Bag n o) (hn : n < 2 ^ 40) (ds : List D) (h0 : 0 < ds.length) (h1 : ds.length < 1000) :
    ∃ (o' : Ob) (d : D), Cm.m_law_one [.io o, .v (.tup ds)] = .ok d [.io o', .v (.tup ds)] ∧ Bag (n + 1) o' ∧ d ∈ ds := by
  obtain ⟨o', r, h2, h3, h4⟩ := draw B hn ds.length h0 h1
  have hx : ds[r]? = some ds[r] := List.getElem?_eq_getElem h4
  refine ⟨o', ds[r], ?_, h3, List.getElem_mem h4⟩
  simp [↓bind_eq, Cm.m_law_one, Cm.m_law_one_b, mDef, gLen, h2, gIx, atI_nat hx]
def rng (k : Nat) : List D := (List.range k).map fun i => .int (i : Nat)
theorem rng_len (k : Nat) : (rng k).length = k := by simp [rng]
theorem rng_get {k i : Nat} {d : D} (h : (rng k)[i]? = some d) : i < k ∧ d = .int (i : Nat) := by
  have hl := (List.getElem?_eq_some_iff.mp h).1
  rw [rng_len] at hl
  refine ⟨hl, ?_⟩
  simp [rng, hl] at h
  exact h.symm
theorem rngD_nat {k : Nat} (h : k ≤ 1000000000) : rngD 0 (k : Int) = some (rng k) := by
  unfold rngD rng
  rw [if_pos (by omega)]
  simp
theorem perm_erase {α : Type} {l : List α} {r : Nat} (hr : r < l.length) : (l[r] :: l.eraseIdx r).Perm l := by
  have h1 : l.eraseIdx r = l.take r ++ l.drop (r + 1) := List.eraseIdx_eq_take_drop_succ l r
  have h2 : l = l.take r ++ l[r] :: l.drop (r + 1) := by
    rw [← List.drop_eq_getElem_cons hr, List.take_append_drop]
  rw [h1]
  conv => rhs; rw [h2]
  exact List.perm_middle.symm
/-- the names that marks are drawn from -/
def pool : List Str := ["a", "b", "c", "ab", "lamp", "marks", "nona", "x", "abcdefgh", "aa", "z", "kind", "y", "ba"]
theorem pool_nd : ([] ++ pool).Nodup := by decide +kernel
def txs (xs : List Str) : List D := xs.map .str
/-- marks: n names, no two alike -/
def Marks (n : Nat) (ms : List Str) : Prop := ms.length = n ∧ ms.Nodup ∧ ∀ m ∈ ms, m ∈ pool
theorem gPopAt_ok {ds : List D} {r : Nat} {d : D} (h : ds[r]? = some d) (hs : ds.length ≤ 1000000) : gPopAt (.lst ds) [.int (r : Int)] = some (d, .lst (ds.eraseIdx r)) := by
  have hr := (List.getElem?_eq_some_iff.mp h).1
  have hsq : seqIndex? (r : Int) ds.length = some r := by
    unfold seqIndex?
    simp [hr]
    omega
  simp only [gPopAt]
  rw [if_pos hs, hsq, Option.bind_some, h]
  rfl
theorem marks_step {n : Nat} {o' : Ob} {k i : Nat} {ms rest : List Str} {d : D} (hn : n + 10 < 2 ^ 40) (hk : k ≤ 10) (hi : i < k) (h3 : Bag (n + i) o') (h4 : ms.length = i) (h5 : rest.length + i = 14) :
    ∃ (o2 : Ob) (r : Nat) (hr : r < rest.length), lcStep [3] (gSet 3) ttYes (lcPush (xMeth 2 gPopAt (xCons (xCall Cm.m_law_draw (qIo 0 (qVal (xBor (pN gLen (psCons (pVar 2) psNil))) qNil))) xNil))) d (txs ms) [.io o', .v (.int k), .ow (.lst (txs rest)), .un] =
      .ok (txs (ms ++ [rest[r]])) [.io o2, .v (.int k), .ow (.lst (txs (rest.eraseIdx r))), .un] ∧ Bag (n + i + 1) o2 := by
  obtain ⟨o2, r, q1, q2, q3⟩ := draw h3 (by omega) (txs rest).length (by simp [txs]; omega) (by simp [txs]; omega)
  have hr : r < rest.length := by simpa [txs] using q3
  have hx : (txs rest)[r]? = some (.str rest[r]) := by simp [txs, hr]
  refine ⟨o2, r, hr, ?_, q2⟩
  have hl : (txs ms).length < 4000 := by simp [txs]; omega
  refine (lcStep_push (e4 := [.io o2, .v (.int k), .ow (.lst (txs (rest.eraseIdx r))), .v d]) (z := .str rest[r]) (e2 := [.io o', .v (.int k), .ow (.lst (txs rest)), .v d]) (e3 := [.io o', .v (.int k), .ow (.lst (txs rest)), .v d]) ?_ ?_ ?_ hl).trans ?_
  · simp
  · simp
  · have hz : (txs rest).eraseIdx r = txs (rest.eraseIdx r) := by simp [txs, List.eraseIdx_eq_take_drop_succ, List.map_append, List.map_take, List.map_drop]
    have hg : gPopAt (.lst (txs rest)) [.int (r : Int)] = some (.str rest[r], .lst (txs (rest.eraseIdx r))) := by rw [gPopAt_ok hx (by simp [txs]; omega), hz]
    simp [↓bind_eq, gLen, q1, hg]
  · simp [txs]
theorem marks_ok {n : Nat} {o : Ob} (B : Bag n o) (hn : n + 10 < 2 ^ 40) (k : Nat) (hk : k ≤ 10) :
    ∃ (o' : Ob) (ms : List Str), Cm.m_law_marks [.io o, .v (.int k)] = .ok (.tup (txs ms)) [.io o', .v (.int k)] ∧ Bag (n + k) o' ∧ Marks k ms := by
  have st : ∀ i d acc e, (rng k)[i]? = some d → (∃ o' ms rest, acc = txs ms ∧ e = [.io o', .v (.int k), .ow (.lst (txs rest)), .un] ∧ Bag (n + i) o' ∧ ms.length = i ∧ rest.length + i = 14 ∧ (ms ++ rest).Nodup ∧ (∀ m ∈ ms, m ∈ pool) ∧ ∀ m ∈ rest, m ∈ pool) →
      ∃ acc' e', lcStep [3] (gSet 3) ttYes (lcPush (xMeth 2 gPopAt (xCons (xCall Cm.m_law_draw (qIo 0 (qVal (xBor (pN gLen (psCons (pVar 2) psNil))) qNil))) xNil))) d acc e = .ok acc' e' ∧
        ∃ o' ms rest, acc' = txs ms ∧ e' = [.io o', .v (.int k), .ow (.lst (txs rest)), .un] ∧ Bag (n + (i + 1)) o' ∧ ms.length = i + 1 ∧ rest.length + (i + 1) = 14 ∧ (ms ++ rest).Nodup ∧ (∀ m ∈ ms, m ∈ pool) ∧ ∀ m ∈ rest, m ∈ pool := by
    rintro i d acc e hd ⟨o', ms, rest, rfl, rfl, h3, h4, h5, h6, h7, h8⟩
    have hi : i < k := (rng_get hd).1
    obtain ⟨o2, r, hr, q1, q2⟩ := marks_step (d := d) hn hk hi h3 h4 h5
    have perm : (ms ++ [rest[r]] ++ rest.eraseIdx r).Perm (ms ++ rest) := by
      rw [List.append_assoc]
      refine List.Perm.append_left ms ?_
      exact perm_erase hr
    refine ⟨_, _, q1, o2, _, _, rfl, rfl, q2, by simp [h4], by rw [List.length_eraseIdx]; split <;> omega, perm.nodup_iff.mpr h6, fun m hm => ?_, fun m hm => h8 m (List.mem_of_mem_eraseIdx hm)⟩
    rcases List.mem_append.mp hm with h | h
    · exact h7 m h
    · rw [List.mem_singleton.mp h]; exact h8 _ (List.getElem_mem hr)
  obtain ⟨acc, e, h1, o', ms, rest, h2, h3, h4, h5, h6, h7, h8, h9⟩ := lcL_inv _ st (acc := []) (e := [.io o, .v (.int k), .ow (.lst (txs pool)), .un]) ⟨o, [], pool, rfl, rfl, B, rfl, rfl, pool_nd, fun m h => (by cases h), fun m h => h⟩
  rw [rng_len] at h4 h5
  refine ⟨o', ms, ?_, h4, h5, (List.nodup_append.mp h7).1, h8⟩
  have hp : (txs pool) = [.str "a", .str "b", .str "c", .str "ab", .str "lamp", .str "marks", .str "nona", .str "x", .str "abcdefgh", .str "aa", .str "z", .str "kind", .str "y", .str "ba"] := rfl
  rw [hp] at h1
  subst h2 h3
  simp [↓bind_eq, Cm.m_law_marks, Cm.m_law_marks_b, mDef, rngD_nat (show k ≤ 1000000000 by omega), h1, gTuple]
end Pl

set_option Elab.async false
set_option linter.all false
set_option maxRecDepth 100000
set_option maxHeartbeats 4000000
/-! Pl4: rows of at most four marks, by evaluation -/
namespace Pl
open PySem Mi
def rowsS : Nat → List Str
  | 0 => [""]
  | n + 1 => (rowsS n).flatMap fun r => [r ++ ("0" : Str), r ++ ("1" : Str)]
def overS (a b : Str) : Bool := (a.cps.toList.zip b.cps.toList).all fun p => decide (p.2 ≤ p.1)
theorem g_law_rows : ∀ n ∈ [0, 1, 2, 3, 4], Cm.m_law_rows [.v (.int (n : Nat))] = .ok (.lst (txs (rowsS n))) [.v (.int (n : Nat))] := by decide +kernel
theorem g_all_rows : ∀ n ∈ [0, 1, 2, 3, 4], Cm.m_all_rows [.v (.int (n : Nat))] = .ok (.lst (txs (rowsS n))) [.v (.int (n : Nat))] := by decide +kernel
theorem g_is_row : ∀ n ∈ [0, 1, 2, 3, 4], ∀ a ∈ rowsS n, Cm.m_is_row [.v (.str a), .v (.int (n : Nat))] = .ok (.bl true) [.v (.str a), .v (.int (n : Nat))] := by decide +kernel
theorem g_over : ∀ n ∈ [0, 1, 2, 3, 4], ∀ a ∈ rowsS n, ∀ b ∈ rowsS n, Cm.m_is_over [.v (.str a), .v (.str b)] = .ok (.bl (overS a b)) [.v (.str a), .v (.str b)] := by decide +kernel
theorem g_law_over_2 : ∀ n ∈ [0, 1, 2, 3, 4], ∀ a ∈ rowsS n, ∀ b ∈ rowsS n, Cm.m_law_over_2 [.v (.str a), .v (.str b)] = .ok (.bl (overS a b)) [.v (.str a), .v (.str b)] := by decide +kernel
theorem g_name : ∀ m ∈ pool, Cm.m_is_name [.v (.str m)] = .ok (.bl true) [.v (.str m)] := by decide +kernel
theorem four {n : Nat} (h : n ≤ 4) : n ∈ [0, 1, 2, 3, 4] := by
  simp only [List.mem_cons, List.mem_nil_iff, or_false]
  omega
section
variable {n : Nat}
theorem r_law_rows (h : n ≤ 4) : Cm.m_law_rows [.v (.int (n : Nat))] = .ok (.lst (txs (rowsS n))) [.v (.int (n : Nat))] := g_law_rows n (four h)
theorem r_all_rows (h : n ≤ 4) : Cm.m_all_rows [.v (.int (n : Nat))] = .ok (.lst (txs (rowsS n))) [.v (.int (n : Nat))] := g_all_rows n (four h)
theorem r_is_row (h : n ≤ 4) {a : Str} (ha : a ∈ rowsS n) : Cm.m_is_row [.v (.str a), .v (.int (n : Nat))] = .ok (.bl true) [.v (.str a), .v (.int (n : Nat))] := g_is_row n (four h) a ha
theorem r_over (h : n ≤ 4) {a b : Str} (ha : a ∈ rowsS n) (hb : b ∈ rowsS n) : Cm.m_is_over [.v (.str a), .v (.str b)] = .ok (.bl (overS a b)) [.v (.str a), .v (.str b)] := g_over n (four h) a ha b hb
theorem r_law_over_2 (h : n ≤ 4) {a b : Str} (ha : a ∈ rowsS n) (hb : b ∈ rowsS n) : Cm.m_law_over_2 [.v (.str a), .v (.str b)] = .ok (.bl (overS a b)) [.v (.str a), .v (.str b)] := g_law_over_2 n (four h) a ha b hb
end
/-! ### the order of rows -/
def ones (a : Str) : Nat := (a.cps.toList.filter fun c => c == 49).length
theorem g_refl : ∀ n ∈ [0, 1, 2, 3, 4], ∀ a ∈ rowsS n, overS a a = true := by decide +kernel
theorem g_anti : ∀ n ∈ [0, 1, 2, 3, 4], ∀ a ∈ rowsS n, ∀ b ∈ rowsS n, overS a b = true → a ≠ b → ones b < ones a := by decide +kernel
theorem g_trans : ∀ n ∈ [0, 1, 2, 3, 4], ∀ a ∈ rowsS n, ∀ b ∈ rowsS n, overS a b = true → ∀ c ∈ rowsS n, overS b c = true → overS a c = true := by decide +kernel
theorem g_nodup : ∀ n ∈ [0, 1, 2, 3, 4], (rowsS n).Nodup := by decide +kernel
theorem g_sorted : ∀ n ∈ [0, 1, 2, 3, 4], (rowsS n).Pairwise fun a b => sLt a b = true := by decide +kernel
theorem g_len : ∀ n ∈ [0, 1, 2, 3, 4], (rowsS n).length ≤ 16 := by decide +kernel
theorem g_ok : ∀ n ∈ [0, 1, 2, 3, 4], ∀ a ∈ rowsS n, (a.cps.toList.all (fun c => decide (c < 16 ^ 8)) && decide (a.cps.size ≤ 4)) = true := by decide +kernel
end Pl

set_option Elab.async false
set_option linter.all false
set_option maxRecDepth 100000
set_option maxHeartbeats 4000000
/-! Wp0: mirrors, walked by rules -/
namespace Pl
open PySem Mi
/-- m ends in Q -/
def Wp {α : Type} (m : En → Rs α) (env : En) (Q : α → En → Prop) : Prop := match m env with
  | .ok a e => Q a e
  | _ => False
theorem Wp.ex {α : Type} {m : En → Rs α} {env : En} {Q : α → En → Prop} (h : Wp m env Q) : ∃ a e, m env = .ok a e ∧ Q a e := by
  unfold Wp at h
  cases hm : m env with
  | ok a e => rw [hm] at h; exact ⟨a, e, rfl, h⟩
  | er x e => rw [hm] at h; exact h.elim
  | bad => rw [hm] at h; exact h.elim
theorem Wp.of {α : Type} {m : En → Rs α} {env e : En} {a : α} {Q : α → En → Prop} (h : m env = .ok a e) (q : Q a e) : Wp m env Q := by
  unfold Wp; rw [h]; exact q
theorem Wp.mono {α : Type} {m : En → Rs α} {env : En} {Q Q' : α → En → Prop} (h : Wp m env Q) (k : ∀ a e, Q a e → Q' a e) : Wp m env Q' := by
  obtain ⟨a, e, h1, h2⟩ := h.ex
  exact .of h1 (k a e h2)
section
variable {env : En} {Q : Fl → En → Prop} {m n : En → Rs Fl}
theorem wp_seq (h : Wp m env fun fl e => match fl with
    | .nx => Wp n e Q
    | fl => Q fl e) : Wp (mSeq m n) env Q := by
  obtain ⟨a, e, h1, h2⟩ := h.ex
  unfold Wp mSeq
  rw [h1]
  cases a with
  | nx =>
    obtain ⟨b, e2, h3, h4⟩ := Wp.ex h2
    simp only [Rs.bind_ok]
    rw [h3]; exact h4
  | _ => exact h2
theorem wp_nx (h : Q .nx env) : Wp mNx env Q := h
theorem wp_asg {mg : D → En → Option En} {me : En → Rs D} (h : match me env with
    | .ok d e1 => ∃ e2, mg d e1 = some e2 ∧ Q .nx e2
    | _ => False) : Wp (mAsg mg me) env Q := by
  unfold Wp mAsg
  cases hm : me env with
  | ok d e1 =>
    rw [hm] at h
    obtain ⟨e2, h1, h2⟩ := h
    simp only [Rs.bind_ok, h1]
    exact h2
  | er x e => rw [hm] at h; exact h.elim
  | bad => rw [hm] at h; exact h.elim
theorem wp_ow {i : Nat} {me : En → Rs Ob} (h : match me env with
    | .ok o e => ∃ e2, ownAt i o e = some e2 ∧ Q .nx e2
    | _ => False) : Wp (mOw i me) env Q := by
  unfold Wp mOw
  cases hm : me env with
  | ok d e1 =>
    rw [hm] at h
    obtain ⟨e2, h1, h2⟩ := h
    simp only [Rs.bind_ok]
    unfold ownAt at h1
    cases hi : e1[i]? with
    | none => rw [hi] at h1; cases h1
    | some s => rw [hi] at h1; cases s <;> cases h1 <;> exact h2
  | er x e => rw [hm] at h; exact h.elim
  | bad => rw [hm] at h; exact h.elim
theorem wp_drop {me : En → Rs D} (h : match me env with
    | .ok _ e => Q .nx e
    | _ => False) : Wp (mDrop me) env Q := by
  unfold Wp mDrop
  cases hm : me env with
  | ok d e1 => rw [hm] at h; exact h
  | er x e => rw [hm] at h; exact h.elim
  | bad => rw [hm] at h; exact h.elim
theorem wp_ret {me : En → Rs D} (h : match me env with
    | .ok d e => Q (.rt d) e
    | _ => False) : Wp (mRet me) env Q := by
  unfold Wp mRet
  cases hm : me env with
  | ok d e1 => rw [hm] at h; exact h
  | er x e => rw [hm] at h; exact h.elim
  | bad => rw [hm] at h; exact h.elim
theorem wp_if {t : En → Rs Bool} (h : match t env with
    | .ok b e => if b = true then Wp m e Q else Wp n e Q
    | _ => False) : Wp (mIf t m n) env Q := by
  unfold Wp mIf
  cases hm : t env with
  | ok b e1 =>
    rw [hm] at h
    cases b with
    | true => simpa [Wp] using h
    | false => simpa [Wp] using h
  | er x e => rw [hm] at h; exact h.elim
  | bad => rw [hm] at h; exact h.elim
theorem wp_par {is : List Nat} {ma : En → Rs (List D)} (h : match ma env with
    | .ok ds e => ∃ e2, mPar.parS is ds e = some e2 ∧ Q .nx e2
    | _ => False) : Wp (mPar is ma) env Q := by
  unfold Wp mPar
  cases hm : ma env with
  | ok d e1 =>
    rw [hm] at h
    obtain ⟨e2, h1, h2⟩ := h
    simp only [Rs.bind_ok, h1]
    exact h2
  | er x e => rw [hm] at h; exact h.elim
  | bad => rw [hm] at h; exact h.elim
/-- anything else, by evaluation -/
theorem wp_ev (h : match m env with
    | .ok fl e => Q fl e
    | _ => False) : Wp m env Q := by
  unfold Wp
  cases hm : m env <;> rw [hm] at h <;> exact h
end
section
variable {env : En} {Q : Fl → En → Prop} {mi : En → Rs (List D)} {mg : D → En → Option En} {mb : En → Rs Fl}
theorem forL_wp {ds : List D} (I : Nat → En → Prop)
    (step : ∀ i d e, ds[i]? = some d → I i e → ∃ e2, mg d e = some e2 ∧ Wp mb e2 fun fl e3 => match fl with
      | .nx => I (i + 1) e3
      | .ct => I (i + 1) e3
      | .bk => Q .nx e3
      | .rt d => Q (.rt d) e3)
    (fin : ∀ e, I ds.length e → Q .nx e) {e : En} (h : I 0 e) : Wp (forL mg mb ds) e Q := by
  have core : ∀ (r : List D) (i : Nat) (e : En), ds.drop i = r → i ≤ ds.length → I i e → Wp (forL mg mb r) e Q := by
    intro r
    induction r with
    | nil =>
      intro i e hd hi h
      have : i = ds.length := by
        have := List.drop_eq_nil_iff.mp hd
        omega
      subst this
      exact fin e h
    | cons d r ih =>
      intro i e hd hi h
      have hlt : i < ds.length := by
        by_cases q : i < ds.length
        · exact q
        · rw [List.drop_of_length_le (by omega)] at hd; cases hd
      have hg : ds[i]? = some d := by
        have := congrArg List.head? hd
        simpa [List.head?_drop] using this
      have hr : ds.drop (i + 1) = r := by
        rw [List.drop_eq_getElem_cons hlt] at hd
        exact (List.cons.inj hd).2
      obtain ⟨e2, h1, h2⟩ := step i d e hg h
      obtain ⟨fl, e3, h3, h4⟩ := h2.ex
      unfold Wp
      simp only [forL, h1, h3]
      cases fl with
      | nx => exact ih (i + 1) e3 hr hlt h4
      | ct => exact ih (i + 1) e3 hr hlt h4
      | bk => exact h4
      | rt d => exact h4
  exact core ds 0 e rfl (Nat.zero_le _) h
theorem wp_for (I : List D → Nat → En → Prop) (h : match mi env with
    | .ok ds e1 => I ds 0 e1 ∧ (∀ i d e, ds[i]? = some d → I ds i e → ∃ e2, mg d e = some e2 ∧ Wp mb e2 fun fl e3 => match fl with
      | .nx => I ds (i + 1) e3
      | .ct => I ds (i + 1) e3
      | .bk => Q .nx e3
      | .rt d => Q (.rt d) e3) ∧ ∀ e, I ds ds.length e → Q .nx e
    | _ => False) : Wp (mFor mi mg mb) env Q := by
  unfold Wp mFor
  cases hm : mi env with
  | ok ds e1 =>
    rw [hm] at h
    obtain ⟨h0, h1, h2⟩ := h
    exact forL_wp (I ds) h1 h2 h0
  | er x e => rw [hm] at h; exact h.elim
  | bad => rw [hm] at h; exact h.elim
/-- .. the source known -/
theorem wp_forD {ds : List D} {e1 : En} (hm : mi env = .ok ds e1) (I : Nat → En → Prop) (h0 : I 0 e1) (step : ∀ i d e, ds[i]? = some d → I i e → ∃ e2, mg d e = some e2 ∧ Wp mb e2 fun fl e3 => match fl with
      | .nx => I (i + 1) e3
      | .ct => I (i + 1) e3
      | .bk => Q .nx e3
      | .rt d => Q (.rt d) e3) (fin : ∀ e, I ds.length e → Q .nx e) : Wp (mFor mi mg mb) env Q := by
  unfold Wp mFor
  rw [hm]
  exact forL_wp I step fin h0
end
/-! ### new objects -/
section
variable {env : En} {Q : Ob → En → Prop} {m : En → Rs Fl} {n : En → Rs Ob}
theorem wn_seq (h : Wp m env fun fl e => match fl with
    | .nx => Wp n e Q
    | _ => False) : Wp (nSeq m n) env Q := by
  obtain ⟨a, e, h1, h2⟩ := h.ex
  unfold Wp nSeq
  rw [h1]
  cases a with
  | nx =>
    obtain ⟨b, e2, h3, h4⟩ := Wp.ex h2
    simp only [Rs.bind_ok]
    rw [h3]; exact h4
  | _ => exact h2.elim
theorem wn_ev (h : match n env with
    | .ok o e => Q o e
    | _ => False) : Wp n env Q := by
  unfold Wp
  cases hm : n env <;> rw [hm] at h <;> exact h
end
/-! ### defs -/
def allV (args : En) : Prop := ∀ s ∈ args, isIoS s = false
theorem mergeA_vals : ∀ {args : En}, allV args → ∀ env, mergeA args env = args
  | [], _, env => ev_mrg0 env
  | s :: r, h, [] => by cases s <;> rfl
  | s :: r, h, t :: env => by
    have ih := mergeA_vals (args := r) (fun x hx => h x (List.mem_cons_of_mem _ hx)) env
    have hs := h s List.mem_cons_self
    cases s with
    | io o => cases hs
    | v d => show Sl.v d :: mergeA r env = _; rw [ih]
    | un => show Sl.un :: mergeA r env = _; rw [ih]
    | ow o => show Sl.ow o :: mergeA r env = _; rw [ih]
/-- a def that is handed values -/
theorem mDef_v {n N : Nat} {mb : En → Rs Fl} {ds : List D} {d : D} (h : Wp mb (ds.map Sl.v ++ List.replicate (N - n) .un) fun fl _ => fl = .rt d ∨ (fl = .nx ∧ d = .non)) : mDef n N mb (ds.map Sl.v) = .ok d (ds.map Sl.v) := by
  have av : allV (ds.map Sl.v) := fun s hs => by
    obtain ⟨x, _, rfl⟩ := List.mem_map.mp hs
    rfl
  obtain ⟨fl, e, h1, h2⟩ := h.ex
  unfold mDef
  rw [h1]
  rcases h2 with rfl | ⟨rfl, rfl⟩
  · simp only [mergeA_vals av]
  · simp only [mergeA_vals av]
theorem mDef_1 {N : Nat} {mb : En → Rs Fl} {a d : D} (h : Wp mb (.v a :: List.replicate (N - 1) .un) fun fl _ => fl = .rt d ∨ (fl = .nx ∧ d = .non)) : mDef 1 N mb [.v a] = .ok d [.v a] := mDef_v (ds := [a]) h
theorem mDef_2 {N : Nat} {mb : En → Rs Fl} {a b d : D} (h : Wp mb (.v a :: .v b :: List.replicate (N - 2) .un) fun fl _ => fl = .rt d ∨ (fl = .nx ∧ d = .non)) : mDef 2 N mb [.v a, .v b] = .ok d [.v a, .v b] := mDef_v (ds := [a, b]) h
theorem mDef_3 {N : Nat} {mb : En → Rs Fl} {a b c d : D} (h : Wp mb (.v a :: .v b :: .v c :: List.replicate (N - 3) .un) fun fl _ => fl = .rt d ∨ (fl = .nx ∧ d = .non)) : mDef 3 N mb [.v a, .v b, .v c] = .ok d [.v a, .v b, .v c] := mDef_v (ds := [a, b, c]) h
theorem mDef_4 {N : Nat} {mb : En → Rs Fl} {a b c f d : D} (h : Wp mb (.v a :: .v b :: .v c :: .v f :: List.replicate (N - 4) .un) fun fl _ => fl = .rt d ∨ (fl = .nx ∧ d = .non)) : mDef 4 N mb [.v a, .v b, .v c, .v f] = .ok d [.v a, .v b, .v c, .v f] := mDef_v (ds := [a, b, c, f]) h
/-- a def whose first argument is an object that it changes -/
theorem mDef_io {N k : Nat} {mb : En → Rs Fl} {o : Ob} {ds : List D} {P : D → Ob → Prop} (hk : k = ds.length + 1) (h : Wp mb (.io o :: ds.map Sl.v ++ List.replicate (N - k) .un) fun fl e => ∃ d o', (fl = .rt d ∨ (fl = .nx ∧ d = .non)) ∧ e[0]? = some (.io o') ∧ P d o') :
    ∃ d o', mDef k N mb (.io o :: ds.map Sl.v) = .ok d (.io o' :: ds.map Sl.v) ∧ P d o' := by
  have av : allV (ds.map Sl.v) := fun s hs => by
    obtain ⟨x, _, rfl⟩ := List.mem_map.mp hs
    rfl
  obtain ⟨fl, e, h1, d, o', h2, h3, h4⟩ := h.ex
  refine ⟨d, o', ?_, h4⟩
  unfold mDef
  rw [h1]
  cases e with
  | nil => cases h3
  | cons s r =>
    cases h3
    rcases h2 with rfl | ⟨rfl, rfl⟩
    · simp only [ev_mrgO, mergeA_vals av]
    · simp only [ev_mrgO, mergeA_vals av]
@[simp] theorem ev_own (i : Nat) (o : Ob) (e : En) : ownAt i o e = match e[i]? with
  | some s => if isIoS s = true then none else some (e.set i (.ow o))
  | none => none := by
  unfold ownAt
  cases e[i]? with
  | none => rfl
  | some s => cases s <;> rfl
@[simp] theorem ev_stoK (i : Nat) (g : Ob → D → D → Option Ob) (kd d : D) (e : En) : gStoK i g kd d e = match e[i]? with
  | some s => match s.ob with
    | some o => (g o kd d).map fun o' => e.set i (s.put o')
    | none => none
  | none => none := id rfl
section
variable {cs : List Str} {f : D → Option Bool}
@[simp] theorem any_non : isAnyD cs f .non = f .non := id rfl
@[simp] theorem any_bl (b : Bool) : isAnyD cs f (.bl b) = f (.bl b) := id rfl
@[simp] theorem any_int (b : Int) : isAnyD cs f (.int b) = f (.int b) := id rfl
@[simp] theorem any_str (b : Str) : isAnyD cs f (.str b) = f (.str b) := id rfl
@[simp] theorem any_tup (b : List D) : isAnyD cs f (.tup b) = f (.tup b) := id rfl
@[simp] theorem any_lst (b : List D) : isAnyD cs f (.lst b) = f (.lst b) := id rfl
@[simp] theorem any_dct (t : Bool) (k : List Ky) (b : List D) : isAnyD cs f (.dct t k b) = f (.dct t k b) := id rfl
@[simp] theorem any_obj (c : Str) (n : List Str) (b : List D) : isAnyD cs f (.obj c n b) = if c ∈ cs then some false else none := id rfl
@[simp] theorem own_obj (c c' : Str) (n : List Str) (b : List D) : isOwnD cs c (.obj c' n b) = if c' ∈ cs ∧ c ∈ cs then some (decide (c' = c)) else none := id rfl
@[simp] theorem ev_gFld (c f c' : Str) (ns : List Str) (vs : List D) : gFld c f (.obj c' ns vs) = if c' = c then lookN f ns vs else none := id rfl
@[simp] theorem ev_lookN (f n : Str) (ns : List Str) (d : D) (ds : List D) : lookN f (n :: ns) (d :: ds) = if n = f then some d else lookN f ns ds := id rfl
variable {env : En}
@[simp] theorem ev_xProp (c : Str) (m mo : En → Rs D) : xProp c m mo env = (mo env).bind fun d e1 => match d with
  | .obj c' _ _ => if c' = c then callV0 m [d] e1 else .bad
  | _ => .bad := id rfl
@[simp] theorem ev_callV0 (m : En → Rs D) (ds : List D) : callV0 m ds env = match m (ds.map Sl.v) with
  | .ok d _ => .ok d env
  | _ => .bad := id rfl
@[simp] theorem ev_callV (m : En → Rs D) (ds : List D) : callV m ds env = match m (ds.map Sl.v) with
  | .ok d _ => .ok d env
  | .er x _ => .er x env
  | .bad => .bad := id rfl
@[simp] theorem ev_xMth (c nm : Str) (m mo : En → Rs D) (ma : En → Rs (List D)) : xMth c nm m mo ma env = (mo env).bind fun d e1 => match d with
  | .obj c' ns _ => if c' = c ∧ hasN nm ns = false then (ma e1).bind fun ds e2 => callV m (d :: ds) e2 else .bad
  | _ => .bad := id rfl
@[simp] theorem ev_xMake (c : Str) (m : En → Rs D) (ma : En → Rs (List D)) : xMake c m ma env = (ma env).bind fun ds e1 => match m (.io (.ins c [] []) :: ds.map Sl.v) with
  | .ok .non args' => match (args'[0]? : Option Sl) with
    | some (.io o) => .ok o e1
    | _ => .bad
  | .er x _ => .er x e1
  | _ => .bad := id rfl
@[simp] theorem ev_xNF (g : List D → Option Ob) (ma : En → Rs (List D)) : xNF g ma env = (ma env).bind fun ds e => .of (g ds) e := id rfl
@[simp] theorem ev_xCallO (m : En → Rs Ob) (ma : En → Rs (List Ar)) : xCallO m ma env = (ma env).bind fun as env1 => if (inrs as).Nodup then (match mkArgs env1 as with
    | none => .bad
    | some args => match m args with
      | .ok o args' => .ok o (putBack env1 as args')
      | .er x args' => .er x (putBack env1 as args')
      | .bad => .bad) else .bad := id rfl
@[simp] theorem ev_xPick (pm : List Nat) (ma : En → Rs (List D)) : xPick pm ma env = (ma env).bind fun ds e => .ok (pick pm ds) e := id rfl
@[simp] theorem ev_xTm (g : D → List D → Option D) (mo : En → Rs D) (ma : En → Rs (List D)) : xTm g mo ma env = (mo env).bind fun d e1 => if isStrT d = true then (ma e1).bind fun ds e2 => .of (g d ds) e2 else .bad := id rfl
@[simp] theorem ev_isStrT (x : Str) : isStrT (.str x) = true := id rfl
@[simp] theorem ev_mFld (i : Nat) (c f : Str) (m : En → Rs D) : mFld i c f m env = (m env).bind fun d e1 => match e1[i]? with
  | some s => match s.ob with
    | some (.ins c' ns vs) => if c' = c ∧ ns.length < 1000 then (.ok .nx (e1.set i (s.put (.ins c (putN f d ns vs).1 (putN f d ns vs).2)))) else .bad
    | _ => .bad
  | none => .bad := id rfl
@[simp] theorem ev_xFldO (i : Nat) (c f : Str) : xFldO i c f env = match (env[i]?).bind Sl.ob with
  | some (.ins c' ns vs) => if c' = c then .of (lookN f ns vs) env else .bad
  | _ => .bad := id rfl
@[simp] theorem ev_putN0 (f : Str) (d : D) : putN f d [] [] = ([f], [d]) := id rfl
@[simp] theorem ev_putN (f n : Str) (d v : D) (ns : List Str) (vs : List D) : putN f d (n :: ns) (v :: vs) = if n = f then (n :: ns, d :: vs) else (n :: (putN f d ns vs).1, v :: (putN f d ns vs).2) := id rfl
@[simp] theorem ev_mParVF (i j : Nat) (m : En → Rs D) (n : En → Rs Ob) : mParVF i j m n env = (m env).bind fun d e1 => (n e1).bind fun o e2 => match (ownAt j o e2).bind (gSet i d) with
  | some e3 => .ok .nx e3
  | none => .bad := id rfl
@[simp] theorem ev_mParFV (i j : Nat) (m : En → Rs D) (n : En → Rs Ob) : mParFV i j n m env = (n env).bind fun o e1 => (m e1).bind fun d e2 => match (ownAt i o e2).bind (gSet j d) with
  | some e3 => .ok .nx e3
  | none => .bad := id rfl
end
end Pl

set_option Elab.async false
set_option linter.all false
set_option maxRecDepth 100000
set_option maxHeartbeats 4000000
/-! Wp1: comprehensions; sums; tables by rows -/
namespace Pl
open PySem Mi
section
variable {α : Type}
/-- a comprehension that changes nothing -/
theorem lcG {vs : List Nat} {mg : D → En → Option En} {mt : En → Rs Bool} {me : En → Rs D} {e : En} (a : List α) (enc : α → D) (tg : α → En) (t : α → Bool) (g : α → D) (hm : ∀ x ∈ a, mg (enc x) e = some (tg x)) (hw : ∀ x ∈ a, wipeE (tg x) vs = e)
    (ht : ∀ x ∈ a, mt (tg x) = .ok (t x) (tg x)) (hg : ∀ x ∈ a, t x = true → me (tg x) = .ok (g x) (tg x)) (hl : a.length ≤ 4000) : lcL vs mg mt (lcPush me) (a.map enc) [] e = .ok ((a.filter t).map g) e := by
  have core : ∀ (b : List α) (acc : List D), (∀ x ∈ b, x ∈ a) → acc.length + b.length ≤ 4000 → lcL vs mg mt (lcPush me) (b.map enc) acc e = .ok (acc ++ (b.filter t).map g) e := by
    intro b
    induction b with
    | nil => intro acc _ _; simp [lcL]
    | cons x b ih =>
      intro acc hb hl
      have hx := hb x List.mem_cons_self
      simp only [List.length_cons] at hl
      by_cases h : t x = true
      · have h1 := ht x hx
        rw [h] at h1
        have s1 : lcStep vs mg mt (lcPush me) (enc x) acc e = .ok (acc ++ [g x]) e := by rw [lcStep_push (hm x hx) h1 (hg x hx h) (by omega), hw x hx]
        simp only [List.map_cons, lcL, s1]
        rw [ih (acc ++ [g x]) (fun y hy => hb y (List.mem_cons_of_mem _ hy)) (by simp; omega)]
        simp [h]
      · have h1 := ht x hx
        have h : t x = false := by simpa using h
        rw [h] at h1
        have s1 : lcStep vs mg mt (lcPush me) (enc x) acc e = .ok acc e := by rw [lcStep_skip (hm x hx) h1, hw x hx]
        simp only [List.map_cons, lcL, s1]
        rw [ih acc (fun y hy => hb y (List.mem_cons_of_mem _ hy)) (by omega)]
        simp [h]
  have := core a [] (fun x hx => hx) (by simpa using hl)
  simpa using this
theorem set_un {v : Nat} {e : En} {s : Sl} (hv : e[v]? = some .un) : (e.set v s).set v .un = e := by
  have hlt : v < e.length := (List.getElem?_eq_some_iff.mp hv).1
  rw [List.set_set]
  have hh := (List.getElem?_eq_some_iff.mp hv).2
  rw [← hh]
  exact List.set_getElem_self hlt
/-- .. one name -/
theorem lcM {v : Nat} {mt : En → Rs Bool} {me : En → Rs D} {e : En} (hv : e[v]? = some .un) (a : List α) (enc : α → D) (t : α → Bool) (g : α → D)
    (ht : ∀ x ∈ a, mt (e.set v (.v (enc x))) = .ok (t x) (e.set v (.v (enc x)))) (hg : ∀ x ∈ a, t x = true → me (e.set v (.v (enc x))) = .ok (g x) (e.set v (.v (enc x)))) (hl : a.length ≤ 4000) : lcL [v] (gSet v) mt (lcPush me) (a.map enc) [] e = .ok ((a.filter t).map g) e :=
  lcG a enc (fun x => e.set v (.v (enc x))) t g (fun x _ => by simp [hv]) (fun x _ => set_un hv) ht hg hl
/-- .. all of them -/
theorem lcA {v : Nat} {me : En → Rs D} {e : En} (hv : e[v]? = some .un) (a : List α) (enc : α → D) (g : α → D)
    (hg : ∀ x ∈ a, me (e.set v (.v (enc x))) = .ok (g x) (e.set v (.v (enc x)))) (hl : a.length ≤ 4000) : lcL [v] (gSet v) ttYes (lcPush me) (a.map enc) [] e = .ok (a.map g) e := by
  have := lcM (mt := ttYes) (me := me) hv a enc (fun _ => true) g (fun x _ => rfl) (fun x hx _ => hg x hx) hl
  rwa [List.filter_eq_self.mpr fun _ _ => rfl] at this
/-- .. two names -/
theorem lcZ {v w : Nat} {mt : En → Rs Bool} {me : En → Rs D} {e : En} (hv : e[v]? = some .un) (hw : e[w]? = some .un) (hvw : v ≠ w) (a : List α) (enc enc2 : α → D) (t : α → Bool) (g : α → D)
    (ht : ∀ x ∈ a, mt ((e.set v (.v (enc x))).set w (.v (enc2 x))) = .ok (t x) ((e.set v (.v (enc x))).set w (.v (enc2 x))))
    (hg : ∀ x ∈ a, t x = true → me ((e.set v (.v (enc x))).set w (.v (enc2 x))) = .ok (g x) ((e.set v (.v (enc x))).set w (.v (enc2 x)))) (hl : a.length ≤ 4000) :
    lcL [v, w] (gUnp 2 (gsCons (gSet v) (gsCons (gSet w) gsNil))) mt (lcPush me) (a.map fun x => .tup [enc x, enc2 x]) [] e = .ok ((a.filter t).map g) e :=
  lcG a (fun x => .tup [enc x, enc2 x]) (fun x => (e.set v (.v (enc x))).set w (.v (enc2 x))) t g (fun x _ => by
    have : (e.set v (.v (enc x)))[w]? = some .un := by rw [List.getElem?_set_ne hvw]; exact hw
    simp [hv, this]) (fun x _ => by
    have : (e.set v (.v (enc x)))[w]? = some .un := by rw [List.getElem?_set_ne hvw]; exact hw
    show ((((e.set v (.v (enc x))).set w (.v (enc2 x))).set w .un).set v .un) = e
    rw [set_un this]
    exact set_un hv) ht hg hl
end
/-- a comprehension that draws: I by the turn, what stands already, the names -/
theorem lcL_wp {vs : List Nat} {mg : D → En → Option En} {mt : En → Rs Bool} {me : En → Rs D} {ds : List D} (I : Nat → List D → En → Prop)
    (step : ∀ i d acc e, ds[i]? = some d → I i acc e → ∃ e2 e3, mg d e = some e2 ∧ mt e2 = .ok true e3 ∧ Wp me e3 fun z e4 => I (i + 1) (acc ++ [z]) (wipeE e4 vs)) (hl : ds.length ≤ 4000) {e : En} (h : I 0 [] e) :
    ∃ acc' e', lcL vs mg mt (lcPush me) ds [] e = .ok acc' e' ∧ acc'.length = ds.length ∧ I ds.length acc' e' := by
  obtain ⟨acc', e', h1, h2, h3⟩ := lcL_inv (fun i acc e => acc.length = i ∧ I i acc e) (fun i d acc e hd ⟨ha, hI⟩ => by
    obtain ⟨e2, e3, h1, h2, h3⟩ := step i d acc e hd hI
    obtain ⟨z, e4, h4, h5⟩ := h3.ex
    have hi := (List.getElem?_eq_some_iff.mp hd).1
    exact ⟨acc ++ [z], wipeE e4 vs, lcStep_push h1 h2 h4 (by omega), by simp [ha], h5⟩) (acc := []) (e := e) ⟨rfl, h⟩
  exact ⟨acc', e', h1, h2, h3⟩
/-! ### rows as keys -/
theorem findK_map (f : Str → D) : ∀ (l : List Str) (x : Str), x ∈ l → findK (.str x) (l.map Ky.str) (l.map f) = some (f x)
  | [], x, h => by cases h
  | y :: l, x, h => by
    by_cases e : y = x
    · subst e; simp [findK]
    · have hx : x ∈ l := by
        rcases List.mem_cons.mp h with q | q
        · exact absurd q.symm e
        · exact q
      simp only [List.map_cons, findK]
      rw [if_neg (by simpa using e)]
      exact findK_map f l x hx
theorem gIx_dct {l : List Str} {f : Str → D} {x : Str} (h : x ∈ l) : gIx (.dct false (l.map Ky.str) (l.map f)) (.str x) = some (f x) := by
  simp [gIx, getK, keyOf, kyOf, findK_map f l x h]
theorem putKy_map (f : Str → D) (x : Str) (d : D) : ∀ (l : List Str), l.Nodup → x ∈ l → putKy (.str x) d (l.map Ky.str) (l.map f) = (l.map Ky.str, l.map fun y => if y = x then d else f y)
  | [], _, h => by cases h
  | y :: l, nd, h => by
    have nd2 := List.nodup_cons.mp nd
    by_cases e : y = x
    · subst e
      have : ∀ z ∈ l, (if z = y then d else f z) = f z := fun z hz => by
        rw [if_neg]
        intro q
        rw [q] at hz
        exact nd2.1 hz
      simp [putKy, List.map_congr_left this]
    · have hx : x ∈ l := by
        rcases List.mem_cons.mp h with q | q
        · exact absurd q.symm e
        · exact q
      have ih := putKy_map f x d l nd2.2 hx
      simp only [List.map_cons, putKy]
      rw [if_neg (by simpa using e), ih, if_neg e]
theorem putKy_new (f : Str → D) (x : Str) (d : D) : ∀ (l : List Str), x ∉ l → putKy (.str x) d (l.map Ky.str) (l.map f) = ((l ++ [x]).map Ky.str, l.map f ++ [d])
  | [], _ => rfl
  | y :: l, h => by
    simp only [List.mem_cons, not_or] at h
    have ih := putKy_new f x d l h.2
    simp only [List.map_cons, putKy]
    rw [if_neg (by simpa using Ne.symm h.1), ih]
    rfl
theorem nodup_ky {l : List Str} (h : l.Nodup) : (l.map Ky.str).Nodup := by
  refine List.pairwise_map.mpr (List.Pairwise.imp (fun {a b} q e => q ?_) h)
  cases e
  rfl
theorem sizeBig : 100000 < sizeLine := by decide
theorem gSto_upd {l : List Str} {f : Str → D} {x : Str} {d : D} (nd : l.Nodup) (hl : l.length ≤ 4000) (h : x ∈ l) : gSto (.dct false (l.map Ky.str) (l.map f)) (.str x) d = some (.dct false (l.map Ky.str) (l.map fun y => if y = x then d else f y)) := by
  have := sizeBig
  simp only [gSto, List.length_map]
  rw [if_pos ⟨by omega, nodup_ky nd⟩]
  simp [keyOf, kyOf, putKy_map f x d l nd h]
theorem gSto_new {l : List Str} {f : Str → D} {x : Str} {d : D} (nd : l.Nodup) (hl : l.length ≤ 4000) (h : x ∉ l) (hf : f x = d) : gSto (.dct false (l.map Ky.str) (l.map f)) (.str x) d = some (.dct false ((l ++ [x]).map Ky.str) ((l ++ [x]).map f)) := by
  have := sizeBig
  simp only [gSto, List.length_map]
  rw [if_pos ⟨by omega, nodup_ky nd⟩]
  simp [keyOf, kyOf, putKy_new f x d l h, hf]
/-! ### sums -/
theorem intsD_map {α : Type} (f : α → Int) : ∀ l : List α, intsD (l.map fun x => .int (f x)) = some (l.map f)
  | [] => rfl
  | x :: l => by simp [intsD, intsD_map f l]
theorem gSum_l {α : Type} (f : α → Int) (l : List α) : gSum [.lst (l.map fun x => .int (f x))] = some (.int (l.map f).sum) := by
  simp only [gSum, intsD_map, Option.map_some]
theorem gSum_t {α : Type} (f : α → Int) (l : List α) : gSum [.tup (l.map fun x => .int (f x))] = some (.int (l.map f).sum) := by
  simp only [gSum, intsD_map, Option.map_some]
/-! ### names -/
def nameB (x : Str) : Bool := decide (1 ≤ x.cps.toList.length) && (decide (x.cps.toList.length ≤ 8) && x.cps.toList.all fun c => decide (c ∈ ("abcdefghijklmnopqrstuvwxyz" : Str).cps.toList))
def Names (n : Nat) (ms : List Str) : Prop := ms.length = n ∧ ms.Nodup ∧ ∀ m ∈ ms, nameB m = true
theorem p_name : ∀ m ∈ pool, nameB m = true := by decide +kernel
theorem Marks.names {n : Nat} {ms : List Str} (h : Marks n ms) : Names n ms := ⟨h.1, h.2.1, fun m hm => p_name m (h.2.2 m hm)⟩
end Pl

set_option Elab.async false
set_option linter.all false
set_option maxRecDepth 100000
set_option maxHeartbeats 4000000
/-! Pl5: equality of trees; marks are judged right -/
namespace Pl
open PySem Mi
theorem cut_to {ds : List D} {i : Nat} (h : i ≤ ds.length) : cutL ds none (some (i : Int)) = ds.take i := by
  unfold cutL
  rw [HT.sIx_none, HT.sIx_nat, Nat.min_eq_left h]
  simp
theorem cut_from {ds : List D} {i : Nat} (h : i ≤ ds.length) : cutL ds (some (i : Int)) none = ds.drop i := by
  unfold cutL
  rw [HT.sIx_none, HT.sIx_nat, Nat.min_eq_left h, List.take_of_length_le (by simp)]
theorem cut_to2 {ds : List D} {i : Nat} : cutL ds none (some (i : Int)) = ds.take i := by
  unfold cutL
  rw [HT.sIx_none, HT.sIx_nat]
  simp [List.take_eq_take_min]
theorem gSl_to (a : List D) (i : Nat) : gSl none (some ((i : Nat) : Int)) (.tup a) = some (.tup (a.take i)) := by
  simp only [gSl]
  rw [cut_to2]
/-! ### equality -/
def okS (x : Str) : Bool := PyData.canLay0 (.str x)
theorem shaped_i (i : Int) : SeqAt.shaped (.int i) = true := rfl
theorem gEq_ii (i j : Int) : gEq (.int i) (.int j) = some (.bl (i == j)) := by
  simp only [gEq, eqD, D.py, shaped_i, and_self, if_true, Option.map_some]
  rfl
theorem gNe_ii (i j : Int) : gNe (.int i) (.int j) = some (.bl (!(i == j))) := by
  simp only [gNe, eqD, D.py, shaped_i, and_self, if_true, Option.map_some]
  rfl
theorem shaped_s {x : Str} (h : okS x = true) : SeqAt.shaped (.str x) = true := by
  unfold SeqAt.shaped
  rw [show PyData.canLay0 (.str x) = true from h]
  rfl
theorem gEq_ss (x y : Str) : gEq (.str x) (.str y) = some (.bl (decide (x = y))) := rfl
theorem gNe_ss (x y : Str) : gNe (.str x) (.str y) = some (.bl (!decide (x = y))) := rfl
theorem pys_txs : ∀ a : List Str, D.py.pys (txs a) = some (a.map .str)
  | [] => rfl
  | x :: a => by
    show D.py.pys (.str x :: txs a) = _
    rw [D.py.pys, pys_txs a]
    rfl
theorem lay_txs : ∀ {a : List Str}, (∀ x ∈ a, okS x = true) → PyData.canLayAll0 (a.map .str) = true
  | [], _ => rfl
  | x :: a, h => by
    rw [List.map_cons, PyData.canLayAll0, lay_txs fun y hy => h y (List.mem_cons_of_mem _ hy)]
    rw [show PyData.canLay0 (.str x) = true from h x List.mem_cons_self]
    rfl
theorem depth_txs : ∀ a : List Str, PyData.depthAll (a.map .str) = 0
  | [] => rfl
  | x :: a => by
    rw [List.map_cons, PyData.depthAll, depth_txs a]
    rfl
theorem eqv_txs : ∀ a b : List Str, PyData.eqvAll (a.map .str) (b.map .str) = decide (a = b)
  | [], [] => rfl
  | [], _ :: _ => rfl
  | _ :: _, [] => rfl
  | x :: a, y :: b => by
    rw [List.map_cons, List.map_cons, PyData.eqvAll, eqv_txs a b]
    by_cases e : x = y
    · subst e; simp [PyData.eqv]
    · simp [PyData.eqv, e]
theorem shaped_t {a : List Str} (h : ∀ x ∈ a, okS x = true) : SeqAt.shaped (.tuple (a.map .str)) = true := by
  unfold SeqAt.shaped
  rw [show PyData.canLay0 (.tuple (a.map .str)) = true from lay_txs h, PyData.depth, depth_txs]
  rfl
theorem shaped_l {a : List Str} (h : ∀ x ∈ a, okS x = true) : SeqAt.shaped (.list (a.map .str)) = true := by
  unfold SeqAt.shaped
  rw [show PyData.canLay0 (.list (a.map .str)) = true from lay_txs h, PyData.depth, depth_txs]
  rfl
theorem py_tup (a : List Str) : (D.tup (txs a)).py = some (.tuple (a.map .str)) := by rw [D.py, pys_txs]; rfl
theorem py_lst (a : List Str) : (D.lst (txs a)).py = some (.list (a.map .str)) := by rw [D.py, pys_txs]; rfl
theorem eqD_tt {a b : List Str} (ha : ∀ x ∈ a, okS x = true) (hb : ∀ x ∈ b, okS x = true) : eqD (.tup (txs a)) (.tup (txs b)) = some (decide (a = b)) := by
  simp only [eqD, py_tup, shaped_t ha, shaped_t hb, and_self, if_true]
  rw [PyData.eqv, eqv_txs]
theorem gEq_tt {a b : List Str} (ha : ∀ x ∈ a, okS x = true) (hb : ∀ x ∈ b, okS x = true) : gEq (.tup (txs a)) (.tup (txs b)) = some (.bl (decide (a = b))) := by rw [gEq, eqD_tt ha hb]; rfl
theorem gNe_tt {a b : List Str} (ha : ∀ x ∈ a, okS x = true) (hb : ∀ x ∈ b, okS x = true) : gNe (.tup (txs a)) (.tup (txs b)) = some (.bl (!decide (a = b))) := by rw [gNe, eqD_tt ha hb]; rfl
theorem eqD_ll {a b : List Str} (ha : ∀ x ∈ a, okS x = true) (hb : ∀ x ∈ b, okS x = true) : eqD (.lst (txs a)) (.lst (txs b)) = some (decide (a = b)) := by
  simp only [eqD, py_lst, shaped_l ha, shaped_l hb, and_self, if_true]
  rw [PyData.eqv, eqv_txs]
theorem gEq_ll {a b : List Str} (ha : ∀ x ∈ a, okS x = true) (hb : ∀ x ∈ b, okS x = true) : gEq (.lst (txs a)) (.lst (txs b)) = some (.bl (decide (a = b))) := by rw [gEq, eqD_ll ha hb]; rfl
theorem gNe_ll {a b : List Str} (ha : ∀ x ∈ a, okS x = true) (hb : ∀ x ∈ b, okS x = true) : gNe (.lst (txs a)) (.lst (txs b)) = some (.bl (!decide (a = b))) := by rw [gNe, eqD_ll ha hb]; rfl
theorem gEq_tnil {a : List Str} (ha : ∀ x ∈ a, okS x = true) : gEq (.tup (txs a)) (.tup []) = some (.bl (decide (a = []))) := gEq_tt (b := []) ha (by simp)
theorem gEq_lnil {a : List Str} (ha : ∀ x ∈ a, okS x = true) : gEq (.lst (txs a)) (.lst []) = some (.bl (decide (a = []))) := gEq_ll (b := []) ha (by simp)
theorem gNe_lnil {a : List Str} (ha : ∀ x ∈ a, okS x = true) : gNe (.lst (txs a)) (.lst []) = some (.bl (!decide (a = []))) := gNe_ll (b := []) ha (by simp)
theorem g_okS : ∀ n ∈ [0, 1, 2, 3, 4], ∀ a ∈ rowsS n, okS a = true := by decide +kernel
theorem p_okS : ∀ a ∈ pool, okS a = true := by decide +kernel
/-! ### in -/
theorem flat_txs : ∀ a : List Str, (txs a).all isFlat = true
  | [] => rfl
  | x :: a => by
    show (isFlat (.str x) && (txs a).all isFlat) = true
    rw [flat_txs a]; rfl
theorem inF_txs (x : Str) : ∀ a : List Str, inF (.str x) (txs a) = decide (x ∈ a)
  | [] => rfl
  | y :: a => by
    have ih := inF_txs x a
    show (eqF (.str y) (.str x) || inF (.str x) (txs a)) = _
    rw [ih]
    by_cases e : x = y
    · subst e; simp [eqF]
    · simp [eqF, e, Ne.symm e]
theorem gIn_t (x : Str) (a : List Str) : gIn (.str x) (.tup (txs a)) = some (.bl (decide (x ∈ a))) := by
  simp only [gIn, gInB]
  rw [if_pos ⟨rfl, flat_txs a⟩, inF_txs]
  rfl
theorem gNotIn_t (x : Str) (a : List Str) : gNotIn (.str x) (.tup (txs a)) = some (.bl (!decide (x ∈ a))) := by
  simp only [gNotIn, gInB]
  rw [if_pos ⟨rfl, flat_txs a⟩, inF_txs]
  rfl
theorem gIn_l (x : Str) (a : List Str) : gIn (.str x) (.lst (txs a)) = some (.bl (decide (x ∈ a))) := by
  simp only [gIn, gInB]
  rw [if_pos ⟨rfl, flat_txs a⟩, inF_txs]
  rfl
/-! ### marks -/
theorem take_txs (i : Nat) (a : List Str) : (txs a).take i = txs (a.take i) := by simp [txs, List.map_take]
theorem drop_txs (i : Nat) (a : List Str) : (txs a).drop i = txs (a.drop i) := by simp [txs, List.map_drop]
theorem len_txs (a : List Str) : (txs a).length = a.length := by simp [txs]
theorem enum_get {ds : List D} {i : Nat} {d : D} (h : (enumD ds)[i]? = some d) : ∃ x, ds[i]? = some x ∧ d = .tup [.int (i : Nat), x] := by
  simp only [enumD, List.getElem?_map, List.getElem?_zipIdx, Option.map_map, Option.map_eq_some_iff] at h
  obtain ⟨b, hb, rfl⟩ := h
  exact ⟨b, hb, by simp⟩
theorem enum_len (ds : List D) : (enumD ds).length = ds.length := by simp [enumD]
theorem txs_get {a : List Str} {i : Nat} {d : D} (h : (txs a)[i]? = some d) : ∃ x, a[i]? = some x ∧ d = .str x := by
  simp only [txs, List.getElem?_map, Option.map_eq_some_iff] at h
  obtain ⟨x, hx, rfl⟩ := h
  exact ⟨x, hx, rfl⟩
theorem nodup_take {α : Type} {a : List α} (h : a.Nodup) {i : Nat} {x : α} (hx : a[i]? = some x) : x ∉ a.take i := by
  intro hm
  obtain ⟨j, hj, e⟩ := List.mem_iff_getElem.mp hm
  obtain ⟨hi, e2⟩ := List.getElem?_eq_some_iff.mp hx
  rw [List.getElem_take] at e
  simp only [List.length_take] at hj
  have := (List.getElem_inj h).mp (e.trans e2.symm)
  omega
theorem sIn_c (c : Nat) (y : Str) : gIn (.str ⟨#[c]⟩) (.str y) = some (.bl (decide (c ∈ y.cps.toList))) := rfl
theorem gAll_b {α : Type} (f : α → Bool) (a : List α) : gAll [.lst (a.map fun x => .bl (f x))] = some (.bl (a.all f)) := by
  have : blsD (a.map fun x => .bl (f x)) = some (a.map f) := by
    induction a with
    | nil => rfl
    | cons x a ih => simp [blsD, ih]
  simp only [gAll, this, Option.map_some, List.all_map]
  rfl
theorem name_len {m : Str} (h : nameB m = true) : 1 ≤ m.length ∧ m.length ≤ 8 ∧ ∀ c ∈ m.cps.toList, c ∈ ("abcdefghijklmnopqrstuvwxyz" : Str).cps.toList := by
  simp only [nameB, Bool.and_eq_true, decide_eq_true_eq, List.all_eq_true] at h
  exact ⟨by simpa [PySem.Str.length] using h.1, by simpa [PySem.Str.length] using h.2.1, h.2.2⟩
theorem gLe_ii (i j : Int) : gLe (.int i) (.int j) = some (.bl (decide (i ≤ j))) := rfl
theorem nm {m : Str} (h : nameB m = true) : Cm.m_is_name [.v (.str m)] = .ok (.bl true) [.v (.str m)] := by
  obtain ⟨h1, h2, h3⟩ := name_len h
  have hb := sizeBig
  have hl : m.length ≤ sizeLine := by omega
  refine mDef_1 (wp_seq (wp_if ?_))
  have c1 : gLe (.int 1) (.int (m.length : Nat)) = some (.bl true) := by rw [gLe_ii]; simp; omega
  have c2 : gLe (.int (m.length : Nat)) (.int 8) = some (.bl true) := by rw [gLe_ii]; simp; omega
  simp [↓bind_eq, isAnyD, isStrD, D.truth, gLen, hl, c1, c2]
  refine wp_nx (wp_ret ?_)
  have key := lcA (v := 1) (e := [.v (.str m), .un]) (me := x2 gIn (xVar 1) (xC (.str "abcdefghijklmnopqrstuvwxyz"))) rfl m.cps.toList (fun c => .str ⟨#[c]⟩) (fun c => .bl (decide (c ∈ ("abcdefghijklmnopqrstuvwxyz" : Str).cps.toList)))
    (fun c hc => by simp [↓bind_eq, sIn_c]) (by have : m.cps.toList.length = m.length := by simp [PySem.Str.length]
                                                omega)
  have ka := gAll_b (fun c => decide (c ∈ ("abcdefghijklmnopqrstuvwxyz" : Str).cps.toList)) m.cps.toList
  have kt : m.cps.toList.all (fun c => decide (c ∈ ("abcdefghijklmnopqrstuvwxyz" : Str).cps.toList)) = true := by
    rw [List.all_eq_true]
    exact fun c hc => by simpa using h3 c hc
  rw [kt] at ka
  simp only [ev_xN, ev_xCons, ev_xVal, ev_mLc, ev_xIter, ev_xVar, ↓bind_eq, iterD, Rs.of_some, List.getElem?_cons_zero, ev_okVs, ev_okVs0, List.getElem?_cons_succ, Bool.and_self, if_true, ev_wipe, ev_wipe0, List.set_cons_succ, List.set_cons_zero, key, ev_val, ev_xNil, ka, ev_back, ev_back0]
theorem wrong_mark_ok {k : Nat} {ms : List Str} (M : Names k ms) (hk : k ≤ 4) : Cm.m_wrong_mark [.v (.tup (txs ms))] = .ok .non [.v (.tup (txs ms))] := by
  obtain ⟨hl, nd, mem⟩ := M
  refine mDef_1 (wp_seq (wp_forD (ds := enumD (txs ms)) (e1 := [.v (.tup (txs ms)), .un, .un]) (by simp [↓bind_eq, iterD]) (fun _ e => ∃ s1 s2, e = [.v (.tup (txs ms)), s1, s2] ∧ isIoS s1 = false ∧ isIoS s2 = false) ⟨_, _, rfl, rfl, rfl⟩ ?_ ?_))
  · rintro i d e hd ⟨s1, s2, rfl, h1, h2⟩
    obtain ⟨x, hx, rfl⟩ := enum_get hd
    obtain ⟨m, hm, rfl⟩ := txs_get hx
    have hi : i < ms.length := (List.getElem?_eq_some_iff.mp hm).1
    have hmp := mem m (List.mem_of_getElem? hm)
    have c1 : gEq (.int (i : Nat)) (.int 4) = some (.bl false) := by
      rw [gEq_ii]
      simp
      omega
    have c2 : gSl none (some ((i : Nat) : Int)) (.tup (txs ms)) = some (.tup (txs (ms.take i))) := by
      simp only [gSl]
      rw [cut_to (by rw [len_txs]; omega), take_txs]
    have c3 : gIn (.str m) (.tup (txs (ms.take i))) = some (.bl false) := by
      rw [gIn_t]
      simp [nodup_take nd hm]
    refine ⟨[.v (.tup (txs ms)), .v (.int (i : Nat)), .v (.str m)], by simp [h1, h2], wp_if ?_⟩
    simp [↓bind_eq, c1, nm hmp, c2, c3, D.truth, isInt]
    exact wp_nx ⟨_, _, rfl, rfl, rfl⟩
  · rintro e ⟨s1, s2, rfl, _, _⟩
    exact wp_ret (by simp)
theorem okS_name {m : Str} (h : nameB m = true) : okS m = true := by
  obtain ⟨h1, h2, h3⟩ := name_len h
  have hc : ∀ c ∈ m.cps.toList, c < 128 := fun c hc => by
    have : ∀ c ∈ ("abcdefghijklmnopqrstuvwxyz" : Str).cps.toList, c < 128 := by decide +kernel
    exact this c (h3 c hc)
  show PyData.canLay0 (.str m) = true
  rw [PyData.canLay0]
  show (m.cps.all fun c => decide (c < 0x110000)) = true
  rw [← Array.all_toList, List.all_eq_true]
  intro c hcm
  have := hc c hcm
  simp
  omega
theorem check_marks_ok {k : Nat} {ms : List Str} (M : Names k ms) (hk : k ≤ 4) (h0 : 0 < k) : Cm.m_check_marks [.v (.tup (txs ms))] = .ok .non [.v (.tup (txs ms))] := by
  have c1 : gEq (.tup (txs ms)) (.tup []) = some (.bl false) := by
    rw [gEq_tnil fun x hx => okS_name (M.2.2 x hx)]
    have : ms ≠ [] := fun e => by have := M.1; rw [e] at this; simp at this; omega
    simp [this]
  simp [↓bind_eq, Cm.m_check_marks, Cm.m_check_marks_b, mDef, isAnyD, isTupD, D.truth, c1, wrong_mark_ok M hk, gNotN, isNon]
end Pl

set_option Elab.async false
set_option linter.all false
set_option maxRecDepth 100000
set_option maxHeartbeats 4000000
/-! Pl6: lots of rows: what the program says of them -/
namespace Pl
open PySem Mi
/-- a comprehension over texts that changes nothing -/
theorem lcT {v : Nat} {e : En} {mt : En → Rs Bool} {me : En → Rs D} (hv : e[v]? = some .un) (a : List Str) (t : Str → Bool) (g : Str → D) (ht : ∀ x ∈ a, mt (e.set v (.v (.str x))) = .ok (t x) (e.set v (.v (.str x))))
    (hg : ∀ x ∈ a, t x = true → me (e.set v (.v (.str x))) = .ok (g x) (e.set v (.v (.str x)))) (hl : a.length ≤ 4000) : lcL [v] (gSet v) mt (lcPush me) (txs a) [] e = .ok ((a.filter t).map g) e := by
  have hlt : v < e.length := (List.getElem?_eq_some_iff.mp hv).1
  have back : ∀ x, wipeE (e.set v (.v (.str x))) [v] = e := fun x => by
    show ((e.set v (.v (.str x))).set v .un) = e
    rw [List.set_set]
    have hh := (List.getElem?_eq_some_iff.mp hv).2
    rw [← hh]
    exact List.set_getElem_self hlt
  have set1 : ∀ x, gSet v (.str x) e = some (e.set v (.v (.str x))) := fun x => by simp [hv]
  have key := lcL_pure (vs := [v]) (mg := gSet v) (mt := mt) (me := lcPush me) (fun d => match d with | .str x => if t x = true then [g x] else [] | _ => []) (e := e) (ds := txs a) (acc := []) (fun d hd acc hacc => by
    obtain ⟨x, hx, rfl⟩ := List.mem_map.mp hd
    by_cases h : t x = true
    · have h1 := ht x hx
      rw [h] at h1
      rw [lcStep_push (set1 x) h1 (hg x hx h) hacc, back]
      simp [h]
    · have h1 := ht x hx
      have h : t x = false := by simpa using h
      rw [h] at h1
      rw [lcStep_skip (set1 x) h1, back]
      simp [h]) (fun d hd => by
    obtain ⟨x, hx, rfl⟩ := List.mem_map.mp hd
    show (if t x = true then [g x] else []).length ≤ 1
    split <;> simp) (by simp [len_txs]; exact hl)
  rw [key]
  congr 1
  rw [List.nil_append]
  clear key ht hg hl
  induction a with
  | nil => rfl
  | cons x a ih =>
    rw [txs, List.map_cons, List.flatMap_cons, List.filter_cons]
    rw [show (a.map D.str).flatMap _ = _ from ih]
    by_cases h : t x = true
    · simp [h]
    · simp [h]
theorem filter_true {α : Type} (a : List α) : a.filter (fun _ => true) = a := List.filter_eq_self.mpr fun _ _ => rfl
theorem blsD_map (b : List Bool) : blsD (b.map .bl) = some b := by
  induction b with
  | nil => rfl
  | cons x b ih => simp [blsD, ih]
theorem gAny_map {α : Type} (f : α → Bool) (a : List α) : gAny [.lst (a.map fun x => .bl (f x))] = some (.bl (a.any f)) := by
  have : (a.map fun x => D.bl (f x)) = (a.map f).map .bl := by simp
  simp only [gAny]
  rw [this, blsD_map]
  simp
theorem gAll_map {α : Type} (f : α → Bool) (a : List α) : gAll [.lst (a.map fun x => .bl (f x))] = some (.bl (a.all f)) := by
  have : (a.map fun x => D.bl (f x)) = (a.map f).map .bl := by simp
  simp only [gAll]
  rw [this, blsD_map]
  simp
def InR (n : Nat) (a : List Str) : Prop := ∀ x ∈ a, x ∈ rowsS n
theorem InR.ok {n : Nat} {a : List Str} (h : InR n a) (hn : n ≤ 4) : ∀ x ∈ a, okS x = true := fun x hx => g_okS n (four hn) x (h x hx)
theorem rows_len {n : Nat} (hn : n ≤ 4) : (rowsS n).length ≤ 16 := g_len n (four hn)
/-! ### the upward closure -/
def risenS (n : Nat) (rows : List Str) : List Str := (rowsS n).filter fun o => rows.any fun r => overS o r
theorem risen_in (n : Nat) (rows : List Str) : InR n (risenS n rows) := fun x hx => (List.mem_filter.mp hx).1
theorem filter_map_str (a : List Str) (t : Str → Bool) : (a.filter t).map (fun x => D.str x) = txs (a.filter t) := rfl
theorem any_ne_nil {α : Type} (a : List α) (f : α → Bool) : (!decide (a.filter f = [])) = a.any f := by
  induction a with
  | nil => rfl
  | cons x a ih =>
    rw [List.filter_cons, List.any_cons]
    by_cases h : f x = true
    · simp [h]
    · have h : f x = false := by simpa using h
      simp only [h, Bool.false_or, ← ih]
      simp
theorem risen_ok {n : Nat} (hn : n ≤ 4) {rows : List Str} (h : InR n rows) (hl : rows.length ≤ 4000) : Cm.m_risen [.v (.tup (txs rows)), .v (.int (n : Nat))] = .ok (.tup (txs (risenS n rows))) [.v (.tup (txs rows)), .v (.int (n : Nat))] := by
  have in1 : ∀ o ∈ rowsS n, lcL [3] (gSet 3) ttYes (lcPush (xCall Cm.m_is_over (qVal (xVar 2) (qVal (xVar 3) qNil)))) (txs rows) [] [.v (.tup (txs rows)), .v (.int (n : Nat)), .v (.str o), .un] = .ok (rows.map fun r => .bl (overS o r)) [.v (.tup (txs rows)), .v (.int (n : Nat)), .v (.str o), .un] := fun o ho => by
    have := lcT (v := 3) (e := [.v (.tup (txs rows)), .v (.int (n : Nat)), .v (.str o), .un]) (mt := ttYes) (me := xCall Cm.m_is_over (qVal (xVar 2) (qVal (xVar 3) qNil))) rfl rows (fun _ => true) (fun r => .bl (overS o r)) (fun x hx => rfl) (fun x hx _ => by
      simp [↓bind_eq, r_over hn ho (h x hx)]) hl
    rw [filter_true] at this
    exact this
  have out := lcT (v := 2) (e := [.v (.tup (txs rows)), .v (.int (n : Nat)), .un, .un]) (mt := ttTru (xN gAny (xCons (xVal (mLc [3] (xIter (xVar 0)) (gSet 3) ttYes (lcPush (xCall Cm.m_is_over (qVal (xVar 2) (qVal (xVar 3) qNil)))))) xNil))) (me := xVar 2) rfl (rowsS n) (fun o => rows.any fun r => overS o r) (fun x => .str x)
    (fun o ho => by simp [↓bind_eq, iterD, in1 o ho, gAny_map, D.truth]) (fun x hx _ => by simp) (by have := rows_len hn; omega)
  simp [↓bind_eq, Cm.m_risen, Cm.m_risen_b, mDef, r_all_rows hn, iterD, out, gTuple, filter_map_str, risenS]
theorem law_risen_ok {n : Nat} (hn : n ≤ 4) {rows : List Str} (h : InR n rows) (hl : rows.length ≤ 4000) : Cm.m_law_risen [.v (.int (n : Nat)), .v (.tup (txs rows))] = .ok (.tup (txs (risenS n rows))) [.v (.int (n : Nat)), .v (.tup (txs rows))] := by
  have in1 : ∀ o ∈ rowsS n, lcL [3] (gSet 3) (ttTru (xCall Cm.m_law_over_2 (qVal (xVar 2) (qVal (xVar 3) qNil)))) (lcPush (xVar 3)) (txs rows) [] [.v (.int (n : Nat)), .v (.tup (txs rows)), .v (.str o), .un] = .ok (txs (rows.filter fun r => overS o r)) [.v (.int (n : Nat)), .v (.tup (txs rows)), .v (.str o), .un] := fun o ho =>
    lcT (v := 3) (e := [.v (.int (n : Nat)), .v (.tup (txs rows)), .v (.str o), .un]) rfl rows (fun r => overS o r) (fun x => .str x) (fun x hx => by
      simp [↓bind_eq, r_law_over_2 hn ho (h x hx), D.truth]) (fun x hx _ => by simp) hl
  have out := lcT (v := 2) (e := [.v (.int (n : Nat)), .v (.tup (txs rows)), .un, .un]) (mt := tB1 (x2 gNe (xVal (mLc [3] (xIter (xVar 1)) (gSet 3) (ttTru (xCall Cm.m_law_over_2 (qVal (xVar 2) (qVal (xVar 3) qNil)))) (lcPush (xVar 3)))) (xLst xNil))) (me := xVar 2) rfl (rowsS n) (fun o => rows.any fun r => overS o r) (fun x => .str x)
    (fun o ho => by
      have c1 := gNe_lnil (a := rows.filter fun r => overS o r) (fun x hx => h.ok hn x (List.mem_filter.mp hx).1)
      rw [any_ne_nil] at c1
      simp [↓bind_eq, iterD, in1 o ho, c1]) (fun x hx _ => by simp) (by have := rows_len hn; omega)
  simp [↓bind_eq, Cm.m_law_risen, Cm.m_law_risen_b, mDef, r_law_rows hn, iterD, out, gTuple, filter_map_str, risenS]
/-! ### rows are judged -/
/-! ### lots -/
/-- a lot: rows in their order -/
def Lot (n : Nat) (a : List Str) : Prop := a.Sublist (rowsS n)
theorem Lot.inR {n : Nat} {a : List Str} (h : Lot n a) : InR n a := fun x hx => h.subset hx
theorem Lot.len {n : Nat} {a : List Str} (h : Lot n a) (hn : n ≤ 4) : a.length ≤ 16 := Nat.le_trans h.length_le (rows_len hn)
theorem Lot.up {n : Nat} {a : List Str} (h : Lot n a) (hn : n ≤ 4) : a.Pairwise fun x y => sLt x y = true := (g_sorted n (four hn)).sublist h
theorem gLe_ss (x y : Str) : gLe (.str x) (.str y) = some (.bl (!sLt y x)) := rfl
theorem gGt_ii (i j : Int) : gGt (.int i) (.int j) = some (.bl (decide (j < i))) := rfl
theorem wrong_in_lot_ok {n : Nat} (hn : n ≤ 4) {a : List Str} (h : Lot n a) : Cm.m_wrong_in_lot [.v (.tup (txs a)), .v (.int (n : Nat))] = .ok .non [.v (.tup (txs a)), .v (.int (n : Nat))] := by
  have key := forL_inv (mg := gUnp 2 (gsCons (gSet 2) (gsCons (gSet 3) gsNil))) (mb := (mIf (ttOr (ttNot (ttTru (xCall Cm.m_is_row (qVal (xVar 3) (qVal (xVar 1) qNil))))) (ttAnd (tB1 (x2 gGt (xVar 2) (xC (.int 0)))) (tB1 (x2 gLe (xVar 3) (x2 gIx (xVar 0) (x2 Mi.gSub (xVar 2) (xC (.int 1)))))))) (mRet (xVar 2)) mNx)) (ds := enumD (txs a))
    (fun _ e => ∃ s1 s2, e = [.v (.tup (txs a)), .v (.int (n : Nat)), s1, s2] ∧ (s1 = .un ∨ ∃ d, s1 = .v d) ∧ (s2 = .un ∨ ∃ d, s2 = .v d)) (fun r => ∃ s1 s2, r = .ok .nx [.v (.tup (txs a)), .v (.int (n : Nat)), s1, s2])
    (fun i d e hd ⟨s1, s2, he, h1, h2⟩ => by
      subst he
      obtain ⟨x, hx, rfl⟩ := enum_get hd
      obtain ⟨m, hm, rfl⟩ := txs_get hx
      obtain ⟨hi, em⟩ := List.getElem?_eq_some_iff.mp hm
      refine ⟨[.v (.tup (txs a)), .v (.int (n : Nat)), .v (.int (i : Nat)), .v (.str m)], ?_, ?_⟩
      · rcases h1 with rfl | ⟨d1, rfl⟩ <;> rcases h2 with rfl | ⟨d2, rfl⟩ <;> simp
      · by_cases h0 : i = 0
        · subst h0
          simp [↓bind_eq, r_is_row hn (h.inR m (List.mem_of_getElem? hm)), D.truth, gGt_ii]
          exact ⟨_, _, ⟨rfl, rfl⟩, .inr ⟨_, rfl⟩, .inr ⟨_, rfl⟩⟩
        · have hi1 : i - 1 < a.length := by omega
          have c1 : gGt (.int (i : Nat)) (.int 0) = some (.bl true) := by
            rw [gGt_ii]
            simp
            omega
          have c2 : gIx (.tup (txs a)) (.int ((i : Nat) - 1 : Int)) = some (.str a[i - 1]) := by
            have e1 : ((i : Nat) - 1 : Int) = ((i - 1 : Nat) : Int) := by omega
            rw [e1]
            simp only [gIx]
            refine atI_nat ?_
            simp [txs, hi1]
          have c3 : gLe (.str m) (.str a[i - 1]) = some (.bl false) := by
            rw [gLe_ss]
            have : sLt a[i - 1] a[i] = true := List.pairwise_iff_getElem.mp (h.up hn) (i - 1) i hi1 hi (by omega)
            rw [← em, this]
            rfl
          simp [↓bind_eq, r_is_row hn (h.inR m (List.mem_of_getElem? hm)), D.truth, c1, c2, c3]
          exact ⟨_, _, ⟨rfl, rfl⟩, .inr ⟨_, rfl⟩, .inr ⟨_, rfl⟩⟩)
    (fun e ⟨s1, s2, he, _, _⟩ => ⟨s1, s2, by rw [he]⟩) (e := [.v (.tup (txs a)), .v (.int (n : Nat)), .un, .un]) ⟨.un, .un, rfl, .inl rfl, .inl rfl⟩
  obtain ⟨s1, s2, hr⟩ := key
  simp [↓bind_eq, Cm.m_wrong_in_lot, Cm.m_wrong_in_lot_b, mDef, iterD, hr]
theorem check_lot_ok {n : Nat} (hn : n ≤ 4) {a : List Str} (h : Lot n a) : Cm.m_check_lot [.v (.tup (txs a)), .v (.int (n : Nat))] = .ok .non [.v (.tup (txs a)), .v (.int (n : Nat))] := by
  simp [↓bind_eq, Cm.m_check_lot, Cm.m_check_lot_b, mDef, isTupD, D.truth, wrong_in_lot_ok hn h, gNotN, isNon]
/-- no row lacks what stands above it -/
def lackB (n : Nat) (a : List Str) (r : Str) : Bool := (rowsS n).any fun o => overS o r && !decide (o ∈ a)
theorem lack_step {n : Nat} (hn : n ≤ 4) {a : List Str} (h : InR n a) {s3 : Sl} (hs : s3 = .un) {r : Str} (hr : r ∈ rowsS n) :
    ttTru (xN gAny (xCons (xVal (mLc [3] (xIter (xCall Cm.m_all_rows (qVal (xVar 1) qNil))) (gSet 3) ttYes (lcPush (xAnd (xCall Cm.m_is_over (qVal (xVar 3) (qVal (xVar 2) qNil))) (x2 gNotIn (xVar 3) (xVar 0)))))) xNil)) [.v (.tup (txs a)), .v (.int (n : Nat)), .v (.str r), s3] =
      .ok (lackB n a r) [.v (.tup (txs a)), .v (.int (n : Nat)), .v (.str r), s3] := by
  subst hs
  have in1 := lcT (v := 3) (e := [.v (.tup (txs a)), .v (.int (n : Nat)), .v (.str r), .un]) (mt := ttYes) (me := xAnd (xCall Cm.m_is_over (qVal (xVar 3) (qVal (xVar 2) qNil))) (x2 gNotIn (xVar 3) (xVar 0))) rfl (rowsS n) (fun _ => true) (fun o => .bl (overS o r && !decide (o ∈ a))) (fun x hx => rfl) (fun x hx _ => by
    cases ho : overS x r with
    | true => simp [↓bind_eq, r_over hn hx hr, ho, gNotIn_t]
    | false => simp [↓bind_eq, r_over hn hx hr, ho]) (by have := rows_len hn; omega)
  rw [filter_true] at in1
  simp [↓bind_eq, r_all_rows hn, iterD, in1, gAny_map, D.truth, lackB]
theorem lacking_row_ok {n : Nat} (hn : n ≤ 4) {a : List Str} (h : Lot n a) : ∃ d, Cm.m_lacking_row [.v (.tup (txs a)), .v (.int (n : Nat))] = .ok d [.v (.tup (txs a)), .v (.int (n : Nat))] ∧ isNon d = a.all (fun r => !lackB n a r) := by
  have key := forL_inv (mg := gSet 2) (mb := mIf (ttTru (xN gAny (xCons (xVal (mLc [3] (xIter (xCall Cm.m_all_rows (qVal (xVar 1) qNil))) (gSet 3) ttYes (lcPush (xAnd (xCall Cm.m_is_over (qVal (xVar 3) (qVal (xVar 2) qNil))) (x2 gNotIn (xVar 3) (xVar 0)))))) xNil))) (mRet (xVar 2)) mNx) (ds := txs a)
    (fun i e => ∃ s2, e = [.v (.tup (txs a)), .v (.int (n : Nat)), s2, .un] ∧ (s2 = .un ∨ ∃ d, s2 = .v d) ∧ ∀ x ∈ a.take i, lackB n a x = false)
    (fun r => (∃ s2 x, r = .ok (.rt (.str x)) [.v (.tup (txs a)), .v (.int (n : Nat)), s2, .un] ∧ x ∈ a ∧ lackB n a x = true) ∨ ∃ s2, r = .ok .nx [.v (.tup (txs a)), .v (.int (n : Nat)), s2, .un] ∧ ∀ x ∈ a, lackB n a x = false)
    (fun i d e hd ⟨s2, he, h2, h3⟩ => by
      subst he
      obtain ⟨m, hm, rfl⟩ := txs_get hd
      obtain ⟨hi, em⟩ := List.getElem?_eq_some_iff.mp hm
      have hmem := List.mem_of_getElem? hm
      refine ⟨[.v (.tup (txs a)), .v (.int (n : Nat)), .v (.str m), .un], ?_, ?_⟩
      · rcases h2 with rfl | ⟨d1, rfl⟩ <;> simp
      · rw [ev_mIf, lack_step hn h.inR rfl (h.inR m hmem)]
        cases hb : lackB n a m with
        | true =>
          simp [↓bind_eq]
          exact ⟨_, m, ⟨rfl, rfl⟩, hmem, hb⟩
        | false =>
          simp [↓bind_eq]
          intro x hx
          rw [List.take_add_one, hm] at hx
          rcases List.mem_append.mp hx with q | q
          · exact h3 x q
          · simp at q; rw [q]; exact hb)
    (fun e ⟨s2, he, _, h3⟩ => .inr ⟨s2, by rw [he], by rw [len_txs, List.take_length] at h3; exact h3⟩) (e := [.v (.tup (txs a)), .v (.int (n : Nat)), .un, .un]) ⟨.un, rfl, .inl rfl, by simp⟩
  rcases key with ⟨s2, x, hr, hx, hl⟩ | ⟨s2, hr, hl⟩
  · refine ⟨.str x, ?_, ?_⟩
    · simp [↓bind_eq, Cm.m_lacking_row, Cm.m_lacking_row_b, mDef, iterD, hr]
    · show false = _
      symm
      rw [Bool.eq_false_iff]
      intro q
      have := List.all_eq_true.mp q x hx
      rw [hl] at this
      cases this
  · refine ⟨.non, ?_, ?_⟩
    · simp [↓bind_eq, Cm.m_lacking_row, Cm.m_lacking_row_b, mDef, iterD, hr]
    · show true = _
      symm
      rw [List.all_eq_true]
      intro x hx
      rw [hl x hx]
      rfl
/-! ### plain -/
theorem sub_filter {α : Type} [DecidableEq α] {a b : List α} (s : a.Sublist b) : b.Nodup → a = b.filter fun x => decide (x ∈ a) := by
  induction s with
  | slnil => intro _; rfl
  | @cons a b x s ih =>
    intro nd
    have nd2 := List.nodup_cons.mp nd
    have : x ∉ a := fun q => nd2.1 (s.subset q)
    rw [List.filter_cons, if_neg (by simpa using this)]
    exact ih nd2.2
  | @cons_cons a b x s ih =>
    intro nd
    have nd2 := List.nodup_cons.mp nd
    rw [List.filter_cons, if_pos (by simp)]
    congr 1
    conv => lhs; rw [ih nd2.2]
    apply List.filter_congr
    intro y hy
    have : y ≠ x := fun e => nd2.1 (e ▸ hy)
    simp [this]
theorem lot_filter {n : Nat} (hn : n ≤ 4) {a : List Str} (h : Lot n a) : a = (rowsS n).filter fun x => decide (x ∈ a) := sub_filter h (g_nodup n (four hn))
theorem mem_risen {n : Nat} {rows : List Str} {o : Str} : o ∈ risenS n rows ↔ o ∈ rowsS n ∧ ∃ r ∈ rows, overS o r = true := by
  unfold risenS
  rw [List.mem_filter, List.any_eq_true]
theorem risen_lot (n : Nat) (rows : List Str) : Lot n (risenS n rows) := List.filter_sublist
theorem up_iff {n : Nat} (hn : n ≤ 4) {a : List Str} (h : Lot n a) : (a.all fun r => !lackB n a r) = decide (a = risenS n a) := by
  have refl := g_refl n (four hn)
  rw [Bool.eq_iff_iff, List.all_eq_true, decide_eq_true_eq]
  constructor
  · intro q
    rw [lot_filter hn h]
    conv => rhs; unfold risenS
    apply List.filter_congr
    intro o ho
    rw [← lot_filter hn h, Bool.eq_iff_iff, decide_eq_true_eq, List.any_eq_true]
    constructor
    · exact fun m => ⟨o, m, refl o ho⟩
    · rintro ⟨r, hr, ov⟩
      have := q r hr
      unfold lackB at this
      by_cases m : o ∈ a
      · exact m
      · exfalso
        have z : ((rowsS n).any fun o => overS o r && !decide (o ∈ a)) = true := List.any_eq_true.mpr ⟨o, ho, by simp [ov, m]⟩
        rw [z] at this
        cases this
  · intro e r hr
    unfold lackB
    rw [Bool.not_eq_true', Bool.eq_false_iff]
    intro z
    obtain ⟨o, ho, q⟩ := List.any_eq_true.mp z
    simp only [Bool.and_eq_true, Bool.not_eq_true', decide_eq_false_iff_not] at q
    refine q.2 ?_
    rw [e]
    exact mem_risen.mpr ⟨ho, r, hr, q.1⟩
end Pl

set_option Elab.async false
set_option linter.all false
set_option maxRecDepth 100000
set_option maxHeartbeats 4000000
/-! Pl7: least rows, drawn lots, repr -/
namespace Pl
open PySem Mi
theorem risen_self {n : Nat} (hn : n ≤ 4) {a : List Str} (h : Lot n a) (e : a = risenS n a) : (a.all fun r => !lackB n a r) = true := by
  rw [up_iff hn h]
  simpa using e
/-- the least rows -/
def leastS (a : List Str) : List Str := a.filter fun r => !(a.any fun o => !decide (o = r) && overS r o)
theorem least_of_ok {n : Nat} (hn : n ≤ 4) {a : List Str} (h : InR n a) (hl : a.length ≤ 4000) : Cm.m_least_of [.v (.tup (txs a))] = .ok (.tup (txs (leastS a))) [.v (.tup (txs a))] := by
  have in1 : ∀ r ∈ a, lcL [2] (gSet 2) ttYes (lcPush (xAnd (x2 gNe (xVar 2) (xVar 1)) (xCall Cm.m_is_over (qVal (xVar 1) (qVal (xVar 2) qNil))))) (txs a) [] [.v (.tup (txs a)), .v (.str r), .un] = .ok (a.map fun o => .bl (!decide (o = r) && overS r o)) [.v (.tup (txs a)), .v (.str r), .un] := fun r hr => by
    have := lcT (v := 2) (e := [.v (.tup (txs a)), .v (.str r), .un]) (mt := ttYes) (me := xAnd (x2 gNe (xVar 2) (xVar 1)) (xCall Cm.m_is_over (qVal (xVar 1) (qVal (xVar 2) qNil)))) rfl a (fun _ => true) (fun o => .bl (!decide (o = r) && overS r o)) (fun x hx => rfl) (fun x hx _ => by
      by_cases e : x = r
      · simp [↓bind_eq, gNe_ss, e]
      · simp [↓bind_eq, gNe_ss, e, r_over hn (h r hr) (h x hx)]) hl
    rw [filter_true] at this
    exact this
  have out := lcT (v := 1) (e := [.v (.tup (txs a)), .un, .un]) (mt := ttNot (ttTru (xN gAny (xCons (xVal (mLc [2] (xIter (xVar 0)) (gSet 2) ttYes (lcPush (xAnd (x2 gNe (xVar 2) (xVar 1)) (xCall Cm.m_is_over (qVal (xVar 1) (qVal (xVar 2) qNil))))))) xNil)))) (me := xVar 1) rfl a (fun r => !(a.any fun o => !decide (o = r) && overS r o)) (fun x => .str x)
    (fun r hr => by simp [↓bind_eq, iterD, in1 r hr, gAny_map, D.truth]) (fun x hx _ => by simp) hl
  simp [↓bind_eq, Cm.m_least_of, Cm.m_least_of_b, mDef, iterD, out, gTuple, filter_map_str, leastS]
/-! ### plain: the least rows of an upward closure -/
theorem least_some {n : Nat} (hn : n ≤ 4) {some : List Str} (h : InR n some) : ∀ m ∈ leastS (risenS n some), m ∈ some := by
  intro m hm
  obtain ⟨h1, h2⟩ := List.mem_filter.mp hm
  obtain ⟨h3, s, hs, ov⟩ := mem_risen.mp h1
  by_cases e : s = m
  · rw [← e]; exact hs
  · exfalso
    have hsu : s ∈ risenS n some := mem_risen.mpr ⟨h s hs, s, hs, g_refl n (four hn) s (h s hs)⟩
    have : ((risenS n some).any fun o => !decide (o = m) && overS m o) = true := List.any_eq_true.mpr ⟨s, hsu, by simp [e, ov]⟩
    rw [this] at h2
    cases h2
theorem least_below {n : Nat} (hn : n ≤ 4) {a : List Str} (h : InR n a) : ∀ k : Nat, ∀ u ∈ a, ones u ≤ k → ∃ m ∈ leastS a, overS u m = true := by
  intro k
  induction k with
  | zero =>
    intro u hu hk
    refine ⟨u, List.mem_filter.mpr ⟨hu, ?_⟩, g_refl n (four hn) u (h u hu)⟩
    rw [Bool.not_eq_true', Bool.eq_false_iff]
    intro z
    obtain ⟨o, ho, q⟩ := List.any_eq_true.mp z
    simp only [Bool.and_eq_true, Bool.not_eq_true', decide_eq_false_iff_not] at q
    have := g_anti n (four hn) u (h u hu) o (h o ho) q.2 (Ne.symm q.1)
    omega
  | succ k ih =>
    intro u hu hk
    by_cases z : (a.any fun o => !decide (o = u) && overS u o) = true
    · obtain ⟨o, ho, q⟩ := List.any_eq_true.mp z
      simp only [Bool.and_eq_true, Bool.not_eq_true', decide_eq_false_iff_not] at q
      have := g_anti n (four hn) u (h u hu) o (h o ho) q.2 (Ne.symm q.1)
      obtain ⟨m, hm, ov⟩ := ih o ho (by omega)
      exact ⟨m, hm, g_trans n (four hn) u (h u hu) o (h o ho) q.2 m (h m (List.mem_filter.mp hm).1) ov⟩
    · exact ⟨u, List.mem_filter.mpr ⟨hu, by simpa using z⟩, g_refl n (four hn) u (h u hu)⟩
theorem risen_least {n : Nat} (hn : n ≤ 4) {some : List Str} (h : InR n some) : risenS n (leastS (risenS n some)) = risenS n some := by
  have hin := risen_in n some
  have lo := risen_lot n some
  conv => rhs; rw [lot_filter hn lo]
  conv => lhs; unfold risenS
  apply List.filter_congr
  intro o ho
  rw [Bool.eq_iff_iff, decide_eq_true_eq, List.any_eq_true]
  constructor
  · rintro ⟨r, hr, ov⟩
    obtain ⟨h1, s, hs, ov2⟩ := mem_risen.mp (List.mem_filter.mp hr).1
    refine mem_risen.mpr ⟨ho, s, hs, ?_⟩
    exact g_trans n (four hn) o ho r h1 ov s (h s hs) ov2
  · intro m
    exact least_below hn hin _ o m (Nat.le_refl _)
/-! ### drawn lots -/
theorem take_snoc {α : Type} {l : List α} {i : Nat} {x : α} (h : l[i]? = some x) : l.take (i + 1) = l.take i ++ [x] := by
  rw [List.take_add_one, h]
  rfl
theorem law_lot_ok {m n : Nat} {o : Ob} (B : Bag m o) (hm : m + 20 < 2 ^ 40) (hn : n ≤ 4) :
    ∃ (o' : Ob) (a : List Str), Cm.m_law_lot [.io o, .v (.int (n : Nat))] = .ok (.tup (txs a)) [.io o', .v (.int (n : Nat))] ∧ Bag (m + 17) o' ∧ Lot n a := by
  obtain ⟨o1, d, q1, B1, hd⟩ := one_lst B (by omega) [.int 2, .int 2, .int 3, .int 5] (by decide) (by decide)
  have hw : ∃ w : Nat, d = .int (w : Nat) ∧ 0 < w ∧ w < 1000 := by
    simp only [List.mem_cons, List.mem_nil_iff, or_false] at hd
    rcases hd with rfl | rfl | rfl | rfl
    · exact ⟨2, rfl, by decide, by decide⟩
    · exact ⟨2, rfl, by decide, by decide⟩
    · exact ⟨3, rfl, by decide, by decide⟩
    · exact ⟨5, rfl, by decide, by decide⟩
  obtain ⟨w, rfl, w0, w1⟩ := hw
  have hlen := rows_len hn
  have st : ∀ i d acc e, (txs (rowsS n))[i]? = some d → (∃ o' a, acc = txs a ∧ e = [.io o', .v (.int (n : Nat)), .v (.int (w : Nat)), .un] ∧ Bag (m + 1 + i) o' ∧ a.Sublist ((rowsS n).take i)) →
      ∃ acc' e', lcStep [3] (gSet 3) (tB1 (x2 gEq (xCall Cm.m_law_draw (qIo 0 (qVal (xVar 2) qNil))) (xC (.int 0)))) (lcPush (xVar 3)) d acc e = .ok acc' e' ∧
        ∃ o' a, acc' = txs a ∧ e' = [.io o', .v (.int (n : Nat)), .v (.int (w : Nat)), .un] ∧ Bag (m + 1 + (i + 1)) o' ∧ a.Sublist ((rowsS n).take (i + 1)) := by
    rintro i d acc e hd ⟨o', a, rfl, rfl, B2, hs⟩
    obtain ⟨x, hx, rfl⟩ := txs_get hd
    have hi : i < (rowsS n).length := (List.getElem?_eq_some_iff.mp hx).1
    obtain ⟨o2, r, q2, B3, hr⟩ := draw B2 (by omega) w w0 w1
    have hal : (txs a).length < 4000 := by
      rw [len_txs]
      have := hs.length_le
      simp only [List.length_take] at this
      omega
    have g1 : gSet 3 (.str x) [.io o', .v (.int (n : Nat)), .v (.int (w : Nat)), .un] = some [.io o', .v (.int (n : Nat)), .v (.int (w : Nat)), .v (.str x)] := by simp
    have t1 : tB1 (x2 gEq (xCall Cm.m_law_draw (qIo 0 (qVal (xVar 2) qNil))) (xC (.int 0))) [.io o', .v (.int (n : Nat)), .v (.int (w : Nat)), .v (.str x)] = .ok ((r : Int) == 0) [.io o2, .v (.int (n : Nat)), .v (.int (w : Nat)), .v (.str x)] := by
      simp [↓bind_eq, q2, gEq_ii]
    cases hb : ((r : Int) == 0) with
    | true =>
      rw [hb] at t1
      refine ⟨txs (a ++ [x]), [.io o2, .v (.int (n : Nat)), .v (.int (w : Nat)), .un], ?_, o2, a ++ [x], rfl, rfl, B3, ?_⟩
      · rw [lcStep_push (z := .str x) (e4 := [.io o2, .v (.int (n : Nat)), .v (.int (w : Nat)), .v (.str x)]) g1 t1 (by simp) hal]
        simp [txs]
      · rw [take_snoc hx]
        exact hs.append (List.Sublist.refl _)
    | false =>
      rw [hb] at t1
      refine ⟨txs a, [.io o2, .v (.int (n : Nat)), .v (.int (w : Nat)), .un], ?_, o2, a, rfl, rfl, B3, ?_⟩
      · rw [lcStep_skip g1 t1]
        simp
      · rw [take_snoc hx]
        exact hs.trans (List.sublist_append_left _ _)
  obtain ⟨acc, e, h1, o', a, rfl, rfl, B4, hs⟩ := lcL_inv _ st (acc := []) (e := [.io o1, .v (.int (n : Nat)), .v (.int (w : Nat)), .un]) ⟨o1, [], rfl, rfl, B1, by simp⟩
  rw [len_txs] at B4 hs
  rw [List.take_length] at hs
  refine ⟨o', a, ?_, B4.mono (by omega), hs⟩
  simp [↓bind_eq, Cm.m_law_lot, Cm.m_law_lot_b, mDef, q1, r_law_rows hn, iterD, h1, gTuple]
/-! ### repr -/
theorem gRepr_of {d : D} {p : PyData} (hp : d.py = some p) (c : canRepr p = true) : ∃ S, gRepr [d] = some (.str S) := ⟨p.shown, by simp [gRepr, hp, c]⟩
theorem bb_can : ∀ b c : Bool, canRepr (.list [.bool b, .bool c]) = true := by decide +kernel
theorem gRepr_bb (b c : Bool) : ∃ S, gRepr [.lst [.bl b, .bl c]] = some (.str S) := gRepr_of (d := .lst [.bl b, .bl c]) (p := .list [.bool b, .bool c]) rfl (bb_can b c)
theorem pysP (p q : PyData) (d e : D) (h1 : d.py = some p) (h2 : e.py = some q) : (D.lst [d, e]).py = some (.list [p, q]) := by
  simp [D.py, D.py.pys, h1, h2]
theorem showable_txs : ∀ a : List Str, PyData.showableAll (a.map .str) = true
  | [] => rfl
  | x :: a => by
    rw [List.map_cons, PyData.showableAll, showable_txs a]
    rfl
theorem short_txs : ∀ {a : List Str}, (∀ x ∈ a, (x.cps.toList.all fun c => decide (c < 16 ^ 8)) = true) → PyData.leavesShortAll 2000 (a.map .str) = true
  | [], _ => rfl
  | x :: a, h => by
    rw [List.map_cons, PyData.leavesShortAll, short_txs fun y hy => h y (List.mem_cons_of_mem _ hy)]
    rw [show PyData.leavesShort 2000 (.str x) = true from h x List.mem_cons_self]
    rfl
theorem weight_txs : ∀ {a : List Str} {k : Nat}, (∀ x ∈ a, x.cps.size ≤ k) → PyData.weightAll (a.map .str) ≤ (k + 1) * a.length
  | [], _, _ => Nat.zero_le _
  | x :: a, k, h => by
    have ih := weight_txs (a := a) (k := k) fun y hy => h y (List.mem_cons_of_mem _ hy)
    have hx := h x List.mem_cons_self
    rw [List.map_cons, PyData.weightAll, List.length_cons, Nat.mul_succ]
    have : PyData.weight (.str x) = x.cps.size := rfl
    omega
theorem gRepr_tt {n : Nat} (hn : n ≤ 4) {a b : List Str} (ha : InR n a) (hb : InR n b) (la : a.length ≤ 100) (lb : b.length ≤ 100) : ∃ S, gRepr [.lst [.tup (txs a), .tup (txs b)]] = some (.str S) := by
  have ok := g_ok n (four hn)
  have sh : ∀ a, InR n a → ∀ x ∈ a, (x.cps.toList.all fun c => decide (c < 16 ^ 8)) = true ∧ x.cps.size ≤ 4 := fun a h x hx => by
    have := ok x (h x hx)
    rw [Bool.and_eq_true, decide_eq_true_eq] at this
    exact this
  have wa := weight_txs (a := a) (k := 4) fun x hx => (sh a ha x hx).2
  have wb := weight_txs (a := b) (k := 4) fun x hx => (sh b hb x hx).2
  have hp := pysP _ _ _ _ (py_tup a) (py_tup b)
  have c : canRepr (.list [.tuple (a.map .str), .tuple (b.map .str)]) = true := by
    have h1 : PyData.showable (.list [.tuple (a.map .str), .tuple (b.map .str)]) = true := by
      simp only [PyData.showable, PyData.showableAll, showable_txs]
      rfl
    have h2 : PyData.leavesShort 2000 (.list [.tuple (a.map .str), .tuple (b.map .str)]) = true := by
      simp only [PyData.leavesShort, PyData.leavesShortAll, short_txs fun x hx => (sh a ha x hx).1, short_txs fun x hx => (sh b hb x hx).1]
      rfl
    have h3 : PyData.weight (.list [.tuple (a.map .str), .tuple (b.map .str)]) ≤ 8000 := by
      simp only [PyData.weight, PyData.weightAll]
      omega
    have h4 : PyData.depth (.list [.tuple (a.map .str), .tuple (b.map .str)]) ≤ 60 := by
      simp only [PyData.depth, PyData.depthAll, depth_txs]
      decide
    simp [canRepr, h1, h2, h3, h4]
  exact gRepr_of hp c
end Pl

set_option Elab.async false
set_option linter.all false
set_option maxRecDepth 100000
set_option maxHeartbeats 4000000
/-! Pj1: the jar: draws, picks, names -/
namespace Pl
open PySem Mi
theorem gDivmod_ok {i w : Int} (hw : 0 < w) (h : w.natAbs < 2 ^ 60) : gDivmodW [.int i, .int w] = some (.tup [.int (i / w), .int (i % w)]) := by
  have h2 := log2_small h
  simp only [gDivmodW]
  rw [if_pos ⟨hw, by omega⟩]
theorem jdraw_ok (a b c w : Int) (hw : 0 < w) (hw2 : w.natAbs < 2 ^ 60) (hb : b.natAbs < 2 ^ 31) (hc : c.natAbs < 2 ^ 60) :
    ∃ a' b' r, Cm.m_law_draw_2 [.io (bagO a b c), .v (.int w)] = .ok (.int r) [.io (bagO a' b' (c + 1)), .v (.int w)] ∧ 0 ≤ r ∧ r < w ∧ b'.natAbs < 2 ^ 31 := by
  have m1 : (0 : Int) < 2147483137 := by decide
  have m3 : (0 : Int) < 512 := by decide
  have d1 : ∀ i, gDivmodW [.int i, .int w] = some (.tup [.int (i / w), .int (i % w)]) := fun i => gDivmod_ok hw (by omega)
  have d2 : ∀ i, gFdiv (.int i) (.int 512) = some (.int (i / 512)) := fun i => gFdiv_ok m3 (by decide)
  have q1 : ∀ i, gMod (.int i) (.int w) = some (.int (i % w)) := fun i => gMod_ok hw
  have q2 : ∀ i, gMod (.int i) (.int 2147483137) = some (.int (i % 2147483137)) := fun i => gMod_ok m1
  have u1 : gMul (.int b) (.int 36007) = some (.int (b * 36007)) := gMul_ok (by omega) (by decide)
  have u2 : gMul (.int 8111) (.int (c + 1)) = some (.int (8111 * (c + 1))) := gMul_ok (by decide) (by omega)
  by_cases ha : 0 < a
  · refine ⟨a / w, b, a % w, ?_, Int.emod_nonneg _ (by omega), Int.emod_lt_of_pos _ hw, hb⟩
    simp [↓bind_eq, Cm.m_law_draw_2, Cm.m_law_draw_2_b, mDef, L2.atI, L2.ixN, gIx, gSto, gOrd, ha, d1, q1]
  · refine ⟨a, (b * 36007 + 8111 * (c + 1) + 5) % 2147483137, (b * 36007 + 8111 * (c + 1) + 5) % 2147483137 / 512 % w, ?_, Int.emod_nonneg _ (by omega), Int.emod_lt_of_pos _ hw, by omega⟩
    simp [↓bind_eq, Cm.m_law_draw_2, Cm.m_law_draw_2_b, mDef, L2.atI, L2.ixN, gIx, gSto, gOrd, ha, d2, q1, q2, u1, u2]
theorem jdraw {n : Nat} {o : Ob} (B : Bag n o) (hn : n < 2 ^ 40) (w : Nat) (hw : 0 < w) (hw2 : w < 2 ^ 60) :
    ∃ (o' : Ob) (r : Nat), Cm.m_law_draw_2 [.io o, .v (.int w)] = .ok (.int r) [.io o', .v (.int w)] ∧ Bag (n + 1) o' ∧ r < w := by
  obtain ⟨a, b, c, rfl, hb, hc⟩ := B
  obtain ⟨a', b', r, h1, h2, h3, h4⟩ := jdraw_ok a b c w (by omega) (by omega) hb (by omega)
  refine ⟨_, r.toNat, ?_, ⟨a', b', c + 1, rfl, h4, by omega⟩, by omega⟩
  rw [h1, Int.toNat_of_nonneg h2]
theorem jpick_lst {n : Nat} {o : Ob} (B : Bag n o) (hn : n < 2 ^ 40) (ds : List D) (h0 : 0 < ds.length) (h1 : ds.length < 1000) :
    ∃ (o' : Ob) (d : D), Cm.m_law_pick [.io o, .v (.lst ds)] = .ok d [.io o', .v (.lst ds)] ∧ Bag (n + 1) o' ∧ d ∈ ds := by
  obtain ⟨o', r, h2, h3, h4⟩ := jdraw B hn ds.length h0 (by omega)
  have hx : ds[r]? = some ds[r] := List.getElem?_eq_getElem h4
  refine ⟨o', ds[r], ?_, h3, List.getElem_mem h4⟩
  simp [↓bind_eq, Cm.m_law_pick, Cm.m_law_pick_b, mDef, gLen, h2, gIx, atI_nat hx]
theorem jpick_tup {n : Nat} {o : Ob} (B : Bag n o) (hn : n < 2 ^ 40) (ds : List D) (h0 : 0 < ds.length) (h1 : ds.length < 1000) :
    ∃ (o' : Ob) (d : D), Cm.m_law_pick [.io o, .v (.tup ds)] = .ok d [.io o', .v (.tup ds)] ∧ Bag (n + 1) o' ∧ d ∈ ds := by
  obtain ⟨o', r, h2, h3, h4⟩ := jdraw B hn ds.length h0 (by omega)
  have hx : ds[r]? = some ds[r] := List.getElem?_eq_getElem h4
  refine ⟨o', ds[r], ?_, h3, List.getElem_mem h4⟩
  simp [↓bind_eq, Cm.m_law_pick, Cm.m_law_pick_b, mDef, gLen, h2, gIx, atI_nat hx]
theorem jpick_str {n : Nat} {o : Ob} (B : Bag n o) (hn : n < 2 ^ 40) (z : Str) (h0 : 0 < z.length) (h1 : z.length < 1000) :
    ∃ (o' : Ob) (c : Nat), Cm.m_law_pick [.io o, .v (.str z)] = .ok (.str ⟨#[c]⟩) [.io o', .v (.str z)] ∧ Bag (n + 1) o' ∧ c ∈ z.cps.toList := by
  obtain ⟨o', r, h2, h3, h4⟩ := jdraw B hn z.length h0 (by omega)
  have hb := sizeBig
  have hl : z.length ≤ sizeLine := by omega
  have h5 : r < z.cps.toList.length := by simpa [PySem.Str.length] using h4
  have hx : z.cps.toList[r]? = some z.cps.toList[r] := List.getElem?_eq_getElem h5
  refine ⟨o', z.cps.toList[r], ?_, h3, List.getElem_mem h5⟩
  simp [↓bind_eq, Cm.m_law_pick, Cm.m_law_pick_b, mDef, gLen, hl, h2, gIx, -Array.getElem?_toList, -Array.getElem_toList, atI_nat hx]
/-! ### names -/
def letters : List Nat := ("abcdefghijklmnopqrstuvwxyz" : Str).cps.toList
def wordB (k : Nat) (x : Str) : Prop := x.length = k ∧ ∀ c ∈ x.cps.toList, c ∈ letters
theorem word_name {k : Nat} {x : Str} (h : wordB k x) (h1 : 1 ≤ k) (h2 : k ≤ 8) : nameB x = true := by
  obtain ⟨a, b⟩ := h
  simp only [nameB, Bool.and_eq_true, decide_eq_true_eq, List.all_eq_true]
  have e : x.cps.toList.length = x.length := by simp [PySem.Str.length]
  exact ⟨by omega, by omega, b⟩
theorem word_add {k : Nat} {x : Str} (h : wordB k x) {c : Nat} (hc : c ∈ letters) : wordB (k + 1) (x ++ ⟨#[c]⟩) := by
  obtain ⟨a, b⟩ := h
  have e : (x ++ (⟨#[c]⟩ : Str)).cps = x.cps ++ #[c] := rfl
  refine ⟨by show (x.cps ++ #[c]).size = _; simp; exact a, fun d hd => ?_⟩
  rw [e, Array.toList_append] at hd
  rcases List.mem_append.mp hd with q | q
  · exact b d q
  · simp at q; rw [q]; exact hc
theorem gAdd_ss {x y : Str} (h : x.length + y.length ≤ 100000) : gAdd (.str x) (.str y) = some (.str (x ++ y)) := by
  have := sizeBig
  simp only [gAdd]
  rw [if_pos (by omega)]
theorem nd_le {α : Type} [DecidableEq α] : ∀ {a b : List α}, a.Nodup → (∀ x ∈ a, x ∈ b) → a.length ≤ b.length
  | [], b, _, _ => Nat.zero_le _
  | x :: a, b, nd, h => by
    have nd2 := List.nodup_cons.mp nd
    have hx := h x List.mem_cons_self
    have ih := nd_le (a := a) (b := b.erase x) nd2.2 fun y hy => by
      rw [List.mem_erase_of_ne (fun e => by rw [e] at hy; exact nd2.1 hy)]
      exact h y (List.mem_cons_of_mem _ hy)
    rw [List.length_erase_of_mem hx] at ih
    have : 0 < b.length := List.length_pos_of_mem hx
    simp only [List.length_cons]
    omega
theorem fallb {w : Str} {ms : List Str} (h : ms.length ≤ 3) (nw : nameB w = true) : ∃ x r, ([w, "ma", "mb", "mc", "md"].filter fun x => !decide (x ∈ ms)) = x :: r ∧ nameB x = true ∧ x ∉ ms := by
  have nb : ∀ x ∈ ([w, "ma", "mb", "mc", "md"] : List Str), nameB x = true := by
    intro x hx
    rcases List.mem_cons.mp hx with rfl | hx
    · exact nw
    · have : ∀ x ∈ (["ma", "mb", "mc", "md"] : List Str), nameB x = true := by decide +kernel
      exact this x hx
  cases hf : ([w, "ma", "mb", "mc", "md"].filter fun x => !decide (x ∈ ms)) with
  | cons x r =>
    have hx : x ∈ ([w, "ma", "mb", "mc", "md"].filter fun x => !decide (x ∈ ms)) := by rw [hf]; exact List.mem_cons_self
    obtain ⟨h1, h2⟩ := List.mem_filter.mp hx
    exact ⟨x, r, rfl, nb x h1, by simpa using h2⟩
  | nil =>
    exfalso
    rw [List.filter_eq_nil_iff] at hf
    have sub : ∀ x ∈ ([w, "ma", "mb", "mc", "md"] : List Str), x ∈ ms := fun x hx => by simpa using hf x hx
    have nd : (["ma", "mb", "mc", "md"] : List Str).Nodup := by decide +kernel
    have := nd_le nd fun x hx => sub x (List.mem_cons_of_mem _ hx)
    simp at this
    omega
theorem chars_lc : ∀ (ms : List Str) (w : Str) (s0 : Sl) (s1 s3 s4 s5 : Sl), lcL [6] (gSet 6) (tP1 (p2 gNotIn (pVar 6) (pVar 2))) (lcPush (xVar 6)) [.str w, .str "ma", .str "mb", .str "mc", .str "md"] [] [s0, s1, .ow (.lst (txs ms)), s3, s4, s5, .un] =
    .ok (txs ([w, "ma", "mb", "mc", "md"].filter fun x => !decide (x ∈ ms))) [s0, s1, .ow (.lst (txs ms)), s3, s4, s5, .un] := by
  intro ms w s0 s1 s3 s4 s5
  refine lcM (v := 6) (e := [s0, s1, .ow (.lst (txs ms)), s3, s4, s5, .un]) rfl [w, "ma", "mb", "mc", "md"] (fun x => .str x) (fun x => !decide (x ∈ ms)) (fun x => .str x) (fun x hx => ?_) (fun x hx _ => by simp) (by simp)
  have : gNotIn (.str x) (.lst (txs ms)) = some (.bl (!decide (x ∈ ms))) := by
    simp only [gNotIn, gInB]
    rw [if_pos ⟨rfl, flat_txs ms⟩, inF_txs]
    rfl
  simp [this]
theorem gApp_ok {ds : List D} {d : D} (h : ds.length ≤ 4000) : gApp (.lst ds) [d] = some (.non, .lst (ds ++ [d])) := by
  have := sizeBig
  simp only [gApp]
  rw [if_pos (by omega)]
theorem jnames_ok {n : Nat} {o : Ob} (B : Bag n o) (hn : n + 100 < 2 ^ 40) (k : Nat) (hk : k ≤ 4) :
    ∃ (o' : Ob) (ms : List Str), Cm.m_law_names [.io o, .v (.int k)] = .ok (.tup (txs ms)) [.io o', .v (.int k)] ∧ Bag (n + 36) o' ∧ Names k ms := by
  have core : ∃ d o', mDef 2 7 Cm.m_law_names_b (.io o :: [D.int k].map Sl.v) = .ok d (.io o' :: [D.int k].map Sl.v) ∧ (∃ ms, d = .tup (txs ms) ∧ Bag (n + 36) o' ∧ Names k ms) := by
    refine mDef_io (P := fun d o' => ∃ ms, d = .tup (txs ms) ∧ Bag (n + 36) o' ∧ Names k ms) rfl ?_
    refine wp_seq (wp_ow ?_)
    simp [↓bind_eq]
    refine wp_seq (wp_forD (ds := rng k) (e1 := [.io o, .v (.int k), .ow (.lst []), .un, .un, .un, .un]) (by simp [↓bind_eq, rngD_nat (show k ≤ 1000000000 by omega)])
      (fun i e => ∃ o' ms s3 s4 s5, e = [.io o', .v (.int k), .ow (.lst (txs ms)), s3, s4, s5, .un] ∧ Bag (n + 9 * i) o' ∧ ms.length = i ∧ ms.Nodup ∧ (∀ m ∈ ms, nameB m = true) ∧ isIoS s3 = false ∧ isIoS s4 = false ∧ isIoS s5 = false)
      ⟨o, [], _, _, _, rfl, B, rfl, .nil, fun x h => (by cases h), rfl, rfl, rfl⟩ ?_ ?_)
    · rintro i d e hd ⟨o1, ms, s3, s4, s5, rfl, B1, hl, nd, nb, h3, h4, h5⟩
      obtain ⟨hi, rfl⟩ := rng_get hd
      refine ⟨[.io o1, .v (.int k), .ow (.lst (txs ms)), .v (.int (i : Nat)), s4, s5, .un], by simp [h3], ?_⟩
      refine wp_seq (wp_asg ?_)
      simp [↓bind_eq, h4]
      obtain ⟨o2, w, q2, B2, hw⟩ := jpick_lst B1 (by omega) [.int 1, .int 1, .int 2, .int 8] (by simp) (by simp)
      have hw2 : ∃ m : Nat, w = .int (m : Nat) ∧ 1 ≤ m ∧ m ≤ 8 := by
        simp only [List.mem_cons, List.mem_nil_iff, or_false] at hw
        rcases hw with rfl | rfl | rfl | rfl
        · exact ⟨1, rfl, by omega, by omega⟩
        · exact ⟨1, rfl, by omega, by omega⟩
        · exact ⟨2, rfl, by omega, by omega⟩
        · exact ⟨8, rfl, by omega, by omega⟩
      obtain ⟨m, rfl, m1, m2⟩ := hw2
      refine wp_seq (wp_forD (ds := rng m) (e1 := [.io o2, .v (.int k), .ow (.lst (txs ms)), .v (.int (i : Nat)), .v (.str ""), s5, .un]) (by simp [↓bind_eq, q2, rngD_nat (show m ≤ 1000000000 by omega)])
        (fun j e => ∃ o' w s5, e = [.io o', .v (.int k), .ow (.lst (txs ms)), .v (.int (i : Nat)), .v (.str w), s5, .un] ∧ Bag (n + 9 * i + 1 + j) o' ∧ wordB j w ∧ isIoS s5 = false)
        ⟨o2, "", s5, rfl, B2, ⟨rfl, fun c hc => (by cases hc)⟩, h5⟩ ?_ ?_)
      · rintro j d e hd ⟨o3, w, s5, rfl, B3, hw, h5⟩
        obtain ⟨hj, rfl⟩ := rng_get hd
        obtain ⟨o4, c, q4, B4, hc⟩ := jpick_str B3 (by omega) "abcdefghijklmnopqrstuvwxyz" (by decide) (by decide)
        refine ⟨[.io o3, .v (.int k), .ow (.lst (txs ms)), .v (.int (i : Nat)), .v (.str w), .v (.int (j : Nat)), .un], by simp [h5], wp_asg ?_⟩
        have ha : gAdd (.str w) (.str ⟨#[c]⟩) = some (.str (w ++ ⟨#[c]⟩)) := gAdd_ss (by have := hw.1; show w.length + 1 ≤ _; omega)
        simp [↓bind_eq, q4, ha]
        exact ⟨o4, _, _, ⟨rfl, rfl, rfl⟩, B4.mono (by omega), word_add hw hc, rfl⟩
      · rintro e ⟨o3, w, s5, rfl, B3, hw, h5⟩
        rw [rng_len] at B3 hw
        obtain ⟨x, r, hx, nx, nin⟩ := fallb (ms := ms) (by omega) (word_name hw m1 m2)
        refine wp_drop ?_
        have l := chars_lc ms w (.io o3) (.v (.int k)) (.v (.int (i : Nat))) (.v (.str w)) s5
        have g1 : gIx (.lst (txs (x :: r))) (.int 0) = some (.str x) := by
          simp only [gIx]
          exact atI_nat (i := 0) (by simp [txs])
        rw [hx] at l
        have ga := gApp_ok (ds := txs ms) (d := .str x) (by rw [len_txs]; omega)
        simp [↓bind_eq, iterD, l, g1, ga]
        refine ⟨o3, ms ++ [x], _, _, _, ⟨rfl, by simp [txs], rfl, rfl, rfl⟩, B3.mono (by omega), by simp [hl], ?_, fun y hy => ?_, rfl, rfl, h5⟩
        · rw [List.nodup_append]
          exact ⟨nd, by simp, fun a ha b hb e => by simp at hb; rw [e, hb] at ha; exact nin ha⟩
        · rcases List.mem_append.mp hy with q | q
          · exact nb y q
          · simp at q; rw [q]; exact nx
    · rintro e ⟨o1, ms, s3, s4, s5, rfl, B1, hl, nd, nb, h3, h4, h5⟩
      rw [rng_len] at B1 hl
      refine wp_ret ?_
      simp [↓bind_eq, gTuple]
      exact ⟨ms, rfl, B1.mono (by omega), hl, nd, nb⟩
  obtain ⟨d, o', h1, ms, rfl, h2, h3⟩ := core
  exact ⟨o', ms, h1, h2, h3⟩
end Pl

set_option Elab.async false
set_option linter.all false
set_option maxRecDepth 100000
set_option maxHeartbeats 4000000
/-! Pj2: tables -/
namespace Pl
open PySem Mi
def preR : Nat → List Str
  | 0 => [""]
  | n + 1 => (preR n).map (fun x => x ++ ("0" : Str)) ++ (preR n).map (fun x => x ++ ("1" : Str))
def lastS : Nat → Sl
  | 0 => .un
  | n + 1 => .v (.int (n : Nat))
def nxE (r : Rs Fl) : Option En := match r with
  | .ok .nx e => some e
  | _ => none
theorem nxE_ok {r : Rs Fl} {e : En} (h : nxE r = some e) : r = .ok .nx e := by
  cases r with
  | ok f e' => cases f <;> cases h; rfl
  | _ => cases h
theorem g_pre : ∀ n ∈ [0, 1, 2, 3, 4], nxE (mSeq (mAsg (gSet 1) (xLst (xCons (xC (.str "")) xNil)))
  (mFor (xRng1 (xCons (xVar 0) xNil)) (gSet 2) (mAsg (gSet 1) (x2 Mi.gAdd (xVal (mLc [3] (xIter (xVar 1)) (gSet 3) ttYes (lcPush (x2 Mi.gAdd (xVar 3) (xC (.str "0")))))) (xVal (mLc [3] (xIter (xVar 1)) (gSet 3) ttYes (lcPush (x2 Mi.gAdd (xVar 3) (xC (.str "1"))))))))) [.v (.int (n : Nat)), .un, .un, .un]) =
  some [.v (.int (n : Nat)), .v (.lst (txs (preR n))), lastS n, .un] := by decide +kernel
def leS (a b : Str) : Bool := !sLt b a
theorem g_leD : ∀ n ∈ [0, 1, 2, 3, 4], ∀ a ∈ preR n, ∀ b ∈ preR n, leS a b = leD (.str a) (.str b) := by decide +kernel
theorem leS_iff {a b : Str} : leS a b = true ↔ ¬ b.cps.toList < a.cps.toList := by simp [leS, sLt]
theorem leS_trans (a b c : Str) (h1 : leS a b = true) (h2 : leS b c = true) : leS a c = true := by
  rw [leS_iff] at *
  exact Std.not_lt.mpr (Std.le_trans (Std.not_lt.mp h1) (Std.not_lt.mp h2))
theorem leS_total (a b : Str) : (leS a b || leS b a) = true := by
  simp only [Bool.or_eq_true, leS_iff]
  by_cases h : b.cps.toList < a.cps.toList
  · exact .inr fun q => (Std.lt_irrefl (Std.lt_trans h q)).elim
  · exact .inl h
theorem sort_uniq {l m : List Str} (p : m.Perm l) (h : m.Pairwise fun a b => leS a b = true) : l.mergeSort leS = m := by
  refine List.Perm.eq_of_pairwise (le := fun a b => leS a b = true) (fun a b _ _ q1 q2 => ?_) (List.pairwise_mergeSort leS_trans leS_total l) h ((List.mergeSort_perm l leS).trans p.symm)
  rw [leS_iff] at q1 q2
  exact str_eq q1 q2
theorem sort_txs {l m : List Str} (hl : ∀ a ∈ l, ∀ b ∈ l, leS a b = leD (.str a) (.str b)) (p : m.Perm l) (h : m.Pairwise fun a b => leS a b = true) : (txs l).mergeSort leD = txs m := by
  rw [← sort_uniq p h]
  exact (List.map_mergeSort hl).symm
theorem g_prep : ∀ n ∈ [0, 1, 2, 3, 4], (rowsS n).isPerm (preR n) = true ∧ (rowsS n).Pairwise (fun a b => leS a b = true) ∧ sortOk (txs (preR n)) = true := by decide +kernel
theorem gSortX_l (ds : List D) : gSortX [.lst ds] = gSort [.lst ds] := rfl
theorem gSort_rows {n : Nat} (hn : n ≤ 4) : gSortX [.lst (txs (preR n))] = some (.lst (txs (rowsS n))) := by
  obtain ⟨h1, h2, h3⟩ := g_prep n (four hn)
  rw [gSortX_l, gSort, if_pos h3, sort_txs (g_leD n (four hn)) (List.isPerm_iff.mp h1) h2]
theorem r_law_rows_2 {n : Nat} (hn : n ≤ 4) : Cm.m_law_rows_2 [.v (.int (n : Nat))] = .ok (.lst (txs (rowsS n))) [.v (.int (n : Nat))] := by
  have h := nxE_ok (g_pre n (four hn))
  have hs := gSort_rows hn
  have h2 := Wp.of (Q := fun fl e => match fl with
    | .nx => Wp (mRet (xN gSortX (xCons (xVar 1) xNil))) e fun fl _ => fl = .rt (.lst (txs (rowsS n)))
    | fl => fl = .rt (.lst (txs (rowsS n)))) h (wp_ret (by simp [↓bind_eq, hs]))
  refine mDef_1 ?_
  refine wp_seq (wp_asg ?_)
  simp [↓bind_eq]
  obtain ⟨fl, e, q1, q2⟩ := h2.ex
  rw [h] at q1
  cases q1
  simp [↓bind_eq] at h
  refine wp_seq (Wp.of (e := [.v (.int (n : Nat)), .v (.lst (txs (preR n))), lastS n, .un]) (a := .nx) ?_ q2)
  simpa [↓bind_eq] using h
def dctS (l : List Str) (t : Str → Int) : Ob := .dct false (l.map Ky.str) (l.map fun x => .int (t x))
def tabD (n : Nat) (t : Str → Int) : D := .dct false ((rowsS n).map Ky.str) ((rowsS n).map fun x => .int (t x))
theorem dct_val (n : Nat) (t : Str → Int) : (dctS (rowsS n) t).val = tabD n t := rfl
def setF (t : Str → Int) (x : Str) (z : Int) : Str → Int := fun y => if y = x then z else t y
theorem map_setF {l : List Str} {t : Str → Int} {x : Str} {z : Int} (h : x ∉ l) : (l.map fun y => D.int (setF t x z y)) = l.map fun y => .int (t y) :=
  List.map_congr_left fun y hy => by
    unfold setF
    rw [if_neg (fun e => by rw [e] at hy; exact h hy)]
theorem tab_new {l : List Str} {t : Str → Int} {x : Str} {z : Int} (nd : l.Nodup) (hl : l.length ≤ 4000) (h : x ∉ l) : gSto (dctS l t) (.str x) (.int z) = some (dctS (l ++ [x]) (setF t x z)) := by
  have := gSto_new (l := l) (f := fun y => .int (setF t x z y)) (x := x) (d := .int z) nd hl h (by simp [setF])
  rw [map_setF h] at this
  exact this
theorem tab_set {l : List Str} {t : Str → Int} {x : Str} {z : Int} (nd : l.Nodup) (hl : l.length ≤ 4000) (h : x ∈ l) : gSto (dctS l t) (.str x) (.int z) = some (dctS l (setF t x z)) := by
  have := gSto_upd (l := l) (f := fun y => .int (t y)) (x := x) (d := .int z) nd hl h
  rw [show dctS l t = .dct false (l.map Ky.str) (l.map fun y => .int (t y)) from rfl, this]
  unfold dctS setF
  congr 2
  refine List.map_congr_left fun y hy => ?_
  split <;> rfl
theorem dctS_ix {l : List Str} {t : Str → Int} {x : Str} (h : x ∈ l) : gIx (dctS l t).val (.str x) = some (.int (t x)) := gIx_dct (f := fun y => .int (t y)) h
theorem tab_ix {n : Nat} {t : Str → Int} {x : Str} (h : x ∈ rowsS n) : gIx (tabD n t) (.str x) = some (.int (t x)) := gIx_dct (f := fun y => .int (t y)) h
/-! ### signs of rows -/
def sg (a : Str) (k : Nat) : Nat := (a.cps.toList[k]?.getD 48) - 48
theorem g_sign : ∀ n ∈ [0, 1, 2, 3, 4], ∀ a ∈ rowsS n, ∀ k ∈ List.range n, gIx (.str a) (.int (k : Nat)) = some (.str ⟨#[48 + sg a k]⟩) ∧ gInt [.str ⟨#[48 + sg a k]⟩] = some (.int (sg a k : Nat)) ∧ sg a k ≤ 1 := by decide +kernel
theorem r_sign {n : Nat} (hn : n ≤ 4) {a : Str} (ha : a ∈ rowsS n) {k : Nat} (hk : k < n) : gIx (.str a) (.int (k : Nat)) = some (.str ⟨#[48 + sg a k]⟩) ∧ gInt [.str ⟨#[48 + sg a k]⟩] = some (.int (sg a k : Nat)) ∧ sg a k ≤ 1 := g_sign n (four hn) a ha k (List.mem_range.mpr hk)
theorem gMul_small {i j : Int} (hi : i.natAbs < 2 ^ 100) (hj : j.natAbs < 2 ^ 100) : gMul (.int i) (.int j) = some (.int (i * j)) := gMul_ok hi hj
theorem rows_nd {n : Nat} (hn : n ≤ 4) : (rowsS n).Nodup := g_nodup n (four hn)
/-! ### numbers that fit -/
def jFitB (n : Nat) (t : Str → Int) : Prop := ∀ x ∈ rowsS n, 0 ≤ t x ∧ t x ≤ 1000000
theorem jfitted_ok {m : Nat} {o : Ob} (B : Bag m o) (hm : m + 100 < 2 ^ 40) (n : Nat) (hn : n ≤ 4) (h0 : 0 < n) :
    ∃ (o' : Ob) (t : Str → Int) (e : En), Cm.m_law_fitted_b [.io o, .v (.int n), .un, .un, .un, .un, .un, .un, .un, .un, .un] = .ok (dctS (rowsS n) t) e ∧ e[0]? = some (.io o') ∧ Bag (m + 20) o' ∧ jFitB n t := by
  have core : Wp Cm.m_law_fitted_b [.io o, .v (.int n), .un, .un, .un, .un, .un, .un, .un, .un, .un] fun r e => ∃ (o' : Ob) (t : Str → Int), r = dctS (rowsS n) t ∧ e[0]? = some (.io o') ∧ Bag (m + 20) o' ∧ jFitB n t := by
    refine wn_seq (wp_asg ?_)
    -- the weights
    obtain ⟨acc, e', q1, q2, o1, ws, rfl, rfl, B1, hw⟩ := lcL_wp (vs := [4]) (mg := gSet 4) (mt := ttYes) (me := xTup (xCons (xCall Cm.m_law_draw_2 (qIo 0 (qVal (xC (.int 4)) qNil))) (xCons (xCall Cm.m_law_draw_2 (qIo 0 (qVal (xC (.int 4)) qNil))) xNil))) (ds := rng n)
      (fun i acc e => ∃ o' ws, acc = ws.map (fun p : Nat × Nat => D.tup [.int p.1, .int p.2]) ∧ e = [.io o', .v (.int n), .un, .un, .un, .un, .un, .un, .un, .un, .un] ∧ Bag (m + 2 * i) o' ∧ ∀ p ∈ ws, p.1 ≤ 3 ∧ p.2 ≤ 3)
      (fun i d acc e hd ⟨o1, ws, ha, he, B1, hw⟩ => by
        subst ha he
        obtain ⟨hi, rfl⟩ := rng_get hd
        obtain ⟨o2, r, h1, B2, hr⟩ := jdraw B1 (by omega) 4 (by decide) (by decide)
        obtain ⟨o3, r2, h2, B3, hr2⟩ := jdraw B2 (by omega) 4 (by decide) (by decide)
        replace h1 : Cm.m_law_draw_2 [.io o1, .v (.int 4)] = .ok (.int r) [.io o2, .v (.int 4)] := h1
        replace h2 : Cm.m_law_draw_2 [.io o2, .v (.int 4)] = .ok (.int r2) [.io o3, .v (.int 4)] := h2
        refine ⟨[.io o1, .v (.int n), .un, .un, .v (.int (i : Nat)), .un, .un, .un, .un, .un, .un], [.io o1, .v (.int n), .un, .un, .v (.int (i : Nat)), .un, .un, .un, .un, .un, .un], by simp, rfl, ?_⟩
        unfold Wp
        simp [↓bind_eq, h1, h2]
        refine ⟨o3, ws ++ [(r, r2)], by simp, rfl, B3.mono (by omega), ?_⟩
        intro a b hp
        rcases List.mem_append.mp hp with q | q
        · exact hw _ q
        · simp at q; omega) (by rw [rng_len]; omega) (e := [.io o, .v (.int n), .un, .un, .un, .un, .un, .un, .un, .un, .un]) ⟨o, [], rfl, rfl, B, fun p hp => (by cases hp)⟩
    rw [rng_len] at B1
    have hwl : ws.length = n := by simpa [rng_len] using q2
    simp [↓bind_eq, rngD_nat (show n ≤ 1000000000 by omega), q1]
    refine wn_seq (wp_ow ?_)
    simp [↓bind_eq]
    obtain ⟨o2, k, q3, B2, hk⟩ := jdraw B1 (by omega) 4 (by decide) (by decide)
    replace q3 : Cm.m_law_draw_2 [.io o1, .v (.int 4)] = .ok (.int k) [.io o2, .v (.int 4)] := q3
    generalize hW : (D.lst (ws.map fun p : Nat × Nat => D.tup [.int p.1, .int p.2])) = W
    refine wn_seq (wp_forD (ds := rng k) (e1 := [.io o2, .v (.int n), .v W, .ow (.lst []), .un, .un, .un, .un, .un, .un, .un]) (by simp [↓bind_eq, q3, rngD_nat (show k ≤ 1000000000 by omega)])
      (fun i e => ∃ (o' : Ob) (ts : List (Nat × Nat × Nat)) (s4 : Sl), e = [.io o', .v (.int n), .v W, .ow (.lst (ts.map fun p => D.tup [.int p.1, .int p.2.1, .int p.2.2])), s4, .un, .un, .un, .un, .un, .un] ∧ isIoS s4 = false ∧ Bag (m + 9 + 3 * i) o' ∧ ts.length = i ∧ ∀ p ∈ ts, p.1 < n ∧ p.2.1 < n ∧ p.2.2 ≤ 3)
      ⟨o2, [], .un, rfl, rfl, B2.mono (by omega), rfl, fun p hp => (by cases hp)⟩ ?_ ?_)
    · rintro i d e hd ⟨o3, ts, s4, rfl, h4, B3, hl, ht⟩
      obtain ⟨hi, rfl⟩ := rng_get hd
      obtain ⟨o4, r1, g1, B4, hr1⟩ := jdraw B3 (by omega) n h0 (by omega)
      obtain ⟨o5, r2, g2, B5, hr2⟩ := jdraw B4 (by omega) n h0 (by omega)
      obtain ⟨o6, r3, g3, B6, hr3⟩ := jdraw B5 (by omega) 3 (by decide) (by decide)
      replace g3 : Cm.m_law_draw_2 [.io o5, .v (.int 3)] = .ok (.int r3) [.io o6, .v (.int 3)] := g3
      have ga := gApp_ok (ds := ts.map fun p => D.tup [.int p.1, .int p.2.1, .int p.2.2]) (d := .tup [.int r1, .int r2, .int (1 + r3)]) (by simp; omega)
      refine ⟨[.io o3, .v (.int n), .v W, .ow (.lst (ts.map fun p => D.tup [.int p.1, .int p.2.1, .int p.2.2])), .v (.int (i : Nat)), .un, .un, .un, .un, .un, .un], by simp [h4], wp_drop ?_⟩
      simp [↓bind_eq, g1, g2, g3, ga]
      refine ⟨o6, ts ++ [(r1, r2, 1 + r3)], _, ⟨rfl, by simp, rfl⟩, rfl, B6.mono (by omega), by simp [hl], ?_⟩
      intro a b c hp
      rcases List.mem_append.mp hp with q | q
      · exact ht _ q
      · simp at q
        obtain ⟨rfl, rfl, rfl⟩ := q
        exact ⟨hr1, hr2, by omega⟩
    · rintro e ⟨o3, ts, s4, rfl, h4, B3, hl, ht⟩
      rw [rng_len] at B3 hl
      refine wn_seq (wp_ow ?_)
      simp [↓bind_eq]
      generalize hT : (ts.map fun p : Nat × Nat × Nat => D.tup [.int p.1, .int p.2.1, .int p.2.2]) = T
      refine wn_seq (wp_forD (ds := txs (rowsS n)) (e1 := [.io o3, .v (.int n), .v W, .ow (.lst T), s4, .ow (.dct false [] []), .un, .un, .un, .un, .un]) (by simp [↓bind_eq, r_law_rows_2 hn, iterD])
        (fun i e => ∃ (t : Str → Int) (s3 s4 s6 s7 s8 s9 s10 : Sl), e = [.io o3, .v (.int n), .v W, s3, s4, .ow (dctS ((rowsS n).take i) t), s6, s7, s8, s9, s10] ∧ (s3 = .ow (.lst T) ∨ s3 = .v (.lst T)) ∧ isIoS s4 = false ∧ isIoS s6 = false ∧ isIoS s7 = false ∧ isIoS s8 = false ∧ isIoS s9 = false ∧ isIoS s10 = false ∧ ∀ x ∈ (rowsS n).take i, 0 ≤ t x ∧ t x ≤ 1000000)
        ⟨fun _ => 0, _, _, _, _, _, _, _, rfl, .inl rfl, h4, rfl, rfl, rfl, rfl, rfl, fun x hx => (by simp at hx)⟩ ?_ ?_)
      · rintro i d e hd ⟨t, s3, s4, s6, s7, s8, s9, s10, rfl, h3, h4, h6, h7, h8, h9, h10, hb⟩
        obtain ⟨x, hx, rfl⟩ := txs_get hd
        have hxr : x ∈ rowsS n := List.mem_of_getElem? hx
        refine ⟨[.io o3, .v (.int n), .v W, s3, s4, .ow (dctS ((rowsS n).take i) t), .v (.str x), s7, s8, s9, s10], by simp [h6], wp_seq (wp_asg ?_)⟩
        simp [↓bind_eq, h7]
        refine wp_seq (wp_forD (ds := rng n) (e1 := [.io o3, .v (.int n), .v W, s3, s4, .ow (dctS ((rowsS n).take i) t), .v (.str x), .v (.int 1), s8, s9, s10]) (by simp [↓bind_eq, rngD_nat (show n ≤ 1000000000 by omega)])
          (fun j e => ∃ (s4 : Sl) (z : Nat), e = [.io o3, .v (.int n), .v W, s3, s4, .ow (dctS ((rowsS n).take i) t), .v (.str x), .v (.int z), s8, s9, s10] ∧ isIoS s4 = false ∧ z ≤ 3 ^ j) ⟨s4, 1, rfl, h4, by simp⟩ ?_ ?_)
        · rintro j d e hd ⟨s4, z, rfl, h4, hz⟩
          obtain ⟨hj, rfl⟩ := rng_get hd
          obtain ⟨c1, c2, c3⟩ := r_sign hn hxr hj
          have hwj : ws[j]? = some ws[j] := List.getElem?_eq_getElem (by omega)
          obtain ⟨w1, w2⟩ := hw ws[j] (List.getElem_mem _)
          have c4 : gIx W (.int (j : Nat)) = some (.tup [.int (ws[j].1 : Nat), .int (ws[j].2 : Nat)]) := by
            rw [← hW]
            simp only [gIx]
            exact atI_nat (by simp [hwj])
          have c5 : ∃ y : Nat, y ≤ 3 ∧ gIx (.tup [.int (ws[j].1 : Nat), .int (ws[j].2 : Nat)]) (.int (sg x j : Nat)) = some (.int y) := by
            have : sg x j = 0 ∨ sg x j = 1 := by omega
            rcases this with e | e <;> rw [e]
            · exact ⟨ws[j].1, w1, rfl⟩
            · exact ⟨ws[j].2, w2, rfl⟩
          obtain ⟨y, hy, c5⟩ := c5
          have hp : 3 ^ j ≤ 81 := Nat.le_trans (Nat.pow_le_pow_right (by decide) (show j ≤ 4 by omega)) (by decide)
          have c6 : gMul (.int (z : Nat)) (.int (y : Nat)) = some (.int ((z * y : Nat) : Int)) := by
            rw [gMul_small (by omega) (by omega)]
            simp
          refine ⟨[.io o3, .v (.int n), .v W, s3, .v (.int (j : Nat)), .ow (dctS ((rowsS n).take i) t), .v (.str x), .v (.int z), s8, s9, s10], by simp [h4], wp_asg ?_⟩
          simp [↓bind_eq, c1, c2, c4, c5, c6]
          refine ⟨_, z * y, ⟨rfl, by simp⟩, rfl, ?_⟩
          rw [Nat.pow_succ]
          exact Nat.mul_le_mul hz hy
        · rintro e ⟨s4, z, rfl, h4, hz⟩
          rw [rng_len] at hz
          have hz81 : z ≤ 81 := Nat.le_trans hz (Nat.le_trans (Nat.pow_le_pow_right (by decide) hn) (by decide))
          have hsrc : xIter (xVar 3) [.io o3, .v (.int n), .v W, s3, s4, .ow (dctS ((rowsS n).take i) t), .v (.str x), .v (.int z), s8, s9, s10] = .ok T [.io o3, .v (.int n), .v W, .v (.lst T), s4, .ow (dctS ((rowsS n).take i) t), .v (.str x), .v (.int z), s8, s9, s10] := by
            rcases h3 with rfl | rfl <;> simp [↓bind_eq, iterD]
          refine wp_seq (wp_forD hsrc
            (fun j e => ∃ (s8 s9 s10 : Sl) (z : Nat), e = [.io o3, .v (.int n), .v W, .v (.lst T), s4, .ow (dctS ((rowsS n).take i) t), .v (.str x), .v (.int z), s8, s9, s10] ∧ isIoS s8 = false ∧ isIoS s9 = false ∧ isIoS s10 = false ∧ z ≤ 81 * 3 ^ j) ⟨_, _, _, z, rfl, h8, h9, h10, by simpa using hz81⟩ ?_ ?_)
          · rintro j d e hd ⟨s8, s9, s10, z, rfl, h8, h9, h10, hz⟩
            rw [← hT] at hd
            simp only [List.getElem?_map, Option.map_eq_some_iff] at hd
            obtain ⟨p, hp, rfl⟩ := hd
            have hj : j < ts.length := (List.getElem?_eq_some_iff.mp hp).1
            obtain ⟨p1, p2, p3⟩ := ht p (List.mem_of_getElem? hp)
            obtain ⟨c1, _, _⟩ := r_sign hn hxr p1
            obtain ⟨c2, _, _⟩ := r_sign hn hxr p2
            have hp3 : 3 ^ j ≤ 27 := Nat.le_trans (Nat.pow_le_pow_right (by decide) (show j ≤ 3 by omega)) (by decide)
            refine ⟨[.io o3, .v (.int n), .v W, .v (.lst T), s4, .ow (dctS ((rowsS n).take i) t), .v (.str x), .v (.int z), .v (.int p.1), .v (.int p.2.1), .v (.int p.2.2)], by simp [h8, h9, h10], wp_asg ?_⟩
            have e1 : ∀ y : Nat, y ≤ 3 → gMul (.int (z : Nat)) (.int (y : Nat)) = some (.int ((z * y : Nat) : Int)) := fun y hy => by
              rw [gMul_small (by omega) (by omega)]
              simp
            have e2 := e1 1 (by omega)
            replace e2 : gMul (.int (z : Nat)) (.int 1) = some (.int ((z * 1 : Nat) : Int)) := e2
            by_cases hs : (⟨#[48 + sg x p.1]⟩ : Str) = ⟨#[48 + sg x p.2.1]⟩
            · simp [↓bind_eq, c1, c2, gEq_ss, hs, e1 p.2.2 p3]
              refine ⟨_, _, _, z * p.2.2, ⟨by simp, rfl, rfl, rfl⟩, rfl, rfl, rfl, ?_⟩
              rw [Nat.pow_succ, ← Nat.mul_assoc]
              exact Nat.mul_le_mul hz p3
            · simp [↓bind_eq, c1, c2, gEq_ss, hs, e2]
              refine ⟨_, _, _, z, ⟨rfl, rfl, rfl, rfl⟩, rfl, rfl, rfl, ?_⟩
              rw [Nat.pow_succ]
              omega
          · rintro e ⟨s8, s9, s10, z, rfl, h8, h9, h10, hz⟩
            have hTl : T.length = k := by rw [← hT]; simp [hl]
            rw [hTl] at hz
            have hz3 : z ≤ 2187 := Nat.le_trans hz (by
              have : 3 ^ k ≤ 27 := Nat.le_trans (Nat.pow_le_pow_right (by decide) (show k ≤ 3 by omega)) (by decide)
              omega)
            refine wp_ev ?_
            have nin : x ∉ (rowsS n).take i := nodup_take (rows_nd hn) hx
            have g := tab_new (l := (rowsS n).take i) (t := t) (x := x) (z := (z : Nat)) ((rows_nd hn).sublist (List.take_sublist _ _)) (by have := rows_len hn; simp; omega) nin
            simp [↓bind_eq, g]
            refine ⟨setF t x (z : Nat), _, _, _, _, _, _, _, ⟨rfl, rfl, ?_, rfl, rfl, rfl, rfl, rfl⟩, .inr rfl, h4, rfl, rfl, h8, h9, h10, ?_⟩
            · rw [take_snoc hx]
            · intro y hy
              rw [take_snoc hx] at hy
              rcases List.mem_append.mp hy with q | q
              · have := hb y q
                unfold setF
                rw [if_neg (fun e => by rw [e] at q; exact nin q)]
                exact this
              · simp at q
                unfold setF
                rw [if_pos q]
                omega
      · rintro e ⟨t, s3, s4, s6, s7, s8, s9, s10, rfl, h3, h4, h6, h7, h8, h9, h10, hb⟩
        rw [len_txs, List.take_length] at *
        refine wn_ev ?_
        simp
        exact ⟨o3, t, rfl, rfl, B3.mono (by omega), hb⟩
  obtain ⟨r, e, h1, o', t, rfl, h3, h4, h5⟩ := core.ex
  exact ⟨o', t, e, h1, h3, h4, h5⟩
end Pl

set_option Elab.async false
set_option linter.all false
set_option maxRecDepth 100000
set_option maxHeartbeats 4000000
/-! Pj3: tables drawn; shares made -/
namespace Pl
open PySem Mi
def vS : Sl → Bool
  | .un => true
  | .v _ => true
  | _ => false
theorem vS_cases {s : Sl} (h : vS s = true) : s = .un ∨ ∃ d, s = .v d := by
  cases s with
  | un => exact .inl rfl
  | v d => exact .inr ⟨d, rfl⟩
  | _ => cases h
/-- how a def ends: its result, its object -/
def PIo (P : D → Ob → Prop) (fl : Fl) (e : En) : Prop := ∃ d o', (fl = .rt d ∨ (fl = .nx ∧ d = .non)) ∧ e[0]? = some (.io o') ∧ P d o'
def PV (d : D) (fl : Fl) (_ : En) : Prop := fl = .rt d ∨ (fl = .nx ∧ d = .non)
theorem PIo.ret {P : D → Ob → Prop} {d : D} {o' : Ob} {r : En} (h : P d o') : PIo P (.rt d) (.io o' :: r) := ⟨d, o', .inl rfl, rfl, h⟩
theorem PIo.nx {P : D → Ob → Prop} {o' : Ob} {r : En} (h : P .non o') : PIo P .nx (.io o' :: r) := ⟨.non, o', .inr ⟨rfl, rfl⟩, rfl, h⟩
theorem PV.ret {d : D} {e : En} : PV d (.rt d) e := .inl rfl
theorem PV.nx {e : En} : PV .non .nx e := .inr ⟨rfl, rfl⟩
theorem io2 {N : Nat} {mb : En → Rs Fl} {o : Ob} {a : D} {P : D → Ob → Prop} (h : Wp mb (.io o :: .v a :: List.replicate (N - 2) .un) (PIo P)) : ∃ d o', mDef 2 N mb [.io o, .v a] = .ok d [.io o', .v a] ∧ P d o' := mDef_io (ds := [a]) (P := P) rfl h
theorem io1 {N : Nat} {mb : En → Rs Fl} {o : Ob} {P : D → Ob → Prop} (h : Wp mb (.io o :: List.replicate (N - 1) .un) (PIo P)) : ∃ d o', mDef 1 N mb [.io o] = .ok d [.io o'] ∧ P d o' := mDef_io (ds := []) (P := P) rfl h
theorem io3 {N : Nat} {mb : En → Rs Fl} {o : Ob} {a b : D} {P : D → Ob → Prop} (h : Wp mb (.io o :: .v a :: .v b :: List.replicate (N - 3) .un) (PIo P)) : ∃ d o', mDef 3 N mb [.io o, .v a, .v b] = .ok d [.io o', .v a, .v b] ∧ P d o' := mDef_io (ds := [a, b]) (P := P) rfl h
theorem dv1 {N : Nat} {mb : En → Rs Fl} {a d : D} (h : Wp mb (.v a :: List.replicate (N - 1) .un) (PV d)) : mDef 1 N mb [.v a] = .ok d [.v a] := mDef_1 h
theorem dv2 {N : Nat} {mb : En → Rs Fl} {a b d : D} (h : Wp mb (.v a :: .v b :: List.replicate (N - 2) .un) (PV d)) : mDef 2 N mb [.v a, .v b] = .ok d [.v a, .v b] := mDef_2 h
theorem dv3 {N : Nat} {mb : En → Rs Fl} {a b c d : D} (h : Wp mb (.v a :: .v b :: .v c :: List.replicate (N - 3) .un) (PV d)) : mDef 3 N mb [.v a, .v b, .v c] = .ok d [.v a, .v b, .v c] := mDef_3 h
theorem dv4 {N : Nat} {mb : En → Rs Fl} {a b c f d : D} (h : Wp mb (.v a :: .v b :: .v c :: .v f :: List.replicate (N - 4) .un) (PV d)) : mDef 4 N mb [.v a, .v b, .v c, .v f] = .ok d [.v a, .v b, .v c, .v f] := mDef_4 h
def sumT (l : List Str) (t : Str → Int) : Int := (l.map t).sum
structure Tab (n : Nat) (t : Str → Int) : Prop where
  bd : ∀ x ∈ rowsS n, 0 ≤ t x ∧ t x ≤ 1000000000000
  nz : sumT (rowsS n) t ≠ 0
theorem gPow_10_12 : gPow (.int 10) (.int 12) = some (.int 1000000000000) := by decide +kernel
theorem dct_nil (t : Str → Int) : Ob.dct false [] [] = dctS [] t := rfl
theorem sum_pos {l : List Str} {t : Str → Int} (h : ∀ x ∈ l, 0 ≤ t x) : 0 ≤ sumT l t ∧ ((∃ x ∈ l, t x ≠ 0) → sumT l t ≠ 0) := by
  induction l with
  | nil => exact ⟨Int.le_refl _, fun ⟨x, hx, _⟩ => by cases hx⟩
  | cons y l ih =>
    obtain ⟨h1, h2⟩ := ih fun x hx => h x (List.mem_cons_of_mem _ hx)
    have h0 := h y List.mem_cons_self
    have e : sumT (y :: l) t = t y + sumT l t := by simp [sumT]
    refine ⟨by omega, fun ⟨x, hx, hz⟩ => ?_⟩
    rcases List.mem_cons.mp hx with rfl | hx
    · omega
    · have := h2 ⟨x, hx, hz⟩
      omega
theorem gEq_00 (i : Int) : gEq (.int i) (.int 0) = some (.bl (decide (i = 0))) := by
  rw [gEq_ii]
  congr 2
theorem jfitted {m : Nat} {o : Ob} (B : Bag m o) (hm : m + 100 < 2 ^ 40) (n : Nat) (hn : n ≤ 4) (h0 : 0 < n) :
    ∃ (o' : Ob) (t : Str → Int), Cm.m_law_fitted [.io o, .v (.int n)] = .ok (dctS (rowsS n) t) [.io o', .v (.int n)] ∧ Bag (m + 20) o' ∧ jFitB n t := by
  obtain ⟨o', t, e, h1, h2, h3, h4⟩ := jfitted_ok B hm n hn h0
  refine ⟨o', t, ?_, h3, h4⟩
  show (match Cm.m_law_fitted_b [.io o, .v (.int n), .un, .un, .un, .un, .un, .un, .un, .un, .un] with
    | .ok o2 env => Rs.ok o2 (mergeA [.io o, .v (.int n)] env)
    | .er x env => .er x (mergeA [.io o, .v (.int n)] env)
    | .bad => .bad) = _
  rw [h1]
  cases e with
  | nil => cases h2
  | cons s r =>
    cases h2
    have : mergeA [.v (.int n)] r = [.v (.int (n : Nat))] := mergeA_vals (fun s hs => by simp at hs; rw [hs]; rfl) r
    simp only [ev_mrgO, this]
theorem jtable_ok {m : Nat} {o : Ob} (B : Bag m o) (hm : m + 200 < 2 ^ 40) (n : Nat) (hn : n ≤ 4) (h0 : 0 < n) :
    ∃ (o' : Ob) (t : Str → Int), Cm.m_law_table [.io o, .v (.int n)] = .ok (tabD n t) [.io o', .v (.int n)] ∧ Bag (m + 150) o' ∧ Tab n t := by
  have rl := rows_len hn
  have r0 : 0 < (txs (rowsS n)).length := by
    rw [len_txs]
    have : ∀ n ∈ [0, 1, 2, 3, 4], 0 < (rowsS n).length := by decide +kernel
    exact this n (four hn)
  have r1 : (txs (rowsS n)).length < 1000 := by rw [len_txs]; omega
  have core : ∃ d o', mDef 2 7 Cm.m_law_table_b [.io o, .v (.int n)] = .ok d [.io o', .v (.int n)] ∧ ∃ t, d = tabD n t ∧ Bag (m + 150) o' ∧ Tab n t := by
    refine io2 (P := fun d o' => ∃ t, d = tabD n t ∧ Bag (m + 150) o' ∧ Tab n t) (wp_seq (wp_par ?_))
    obtain ⟨o1, way, q1, B1, hway⟩ := jdraw B (by omega) 7 (by decide) (by decide)
    replace q1 : Cm.m_law_draw_2 [.io o, .v (.int 7)] = .ok (.int way) [.io o1, .v (.int 7)] := q1
    simp [↓bind_eq, q1, r_law_rows_2 hn]
    refine wp_seq (wp_ow ?_)
    simp [↓bind_eq]
    refine wp_seq (wp_forD (ds := txs (rowsS n)) (e1 := [.io o1, .v (.int n), .v (.int way), .v (.lst (txs (rowsS n))), .ow (dctS [] fun _ => 0), .un, .un]) (by simp [↓bind_eq, iterD, dctS])
      (fun i e => ∃ (o' : Ob) (t : Str → Int) (s5 s6 : Sl), e = [.io o', .v (.int n), .v (.int way), .v (.lst (txs (rowsS n))), .ow (dctS ((rowsS n).take i) t), s5, s6] ∧ Bag (m + 1 + 5 * i) o' ∧ isIoS s5 = false ∧ vS s5 = true ∧ isIoS s6 = false ∧ ∀ x ∈ (rowsS n).take i, 0 ≤ t x ∧ t x ≤ 1000000000000)
      ⟨o1, fun _ => 0, _, _, rfl, B1, rfl, rfl, rfl, fun x hx => (by simp at hx)⟩ ?_ ?_)
    · rintro i d e hd ⟨o2, t, s5, s6, rfl, B2, h5, v5, h6, hb⟩
      obtain ⟨x, hx, rfl⟩ := txs_get hd
      have hxr : x ∈ rowsS n := List.mem_of_getElem? hx
      have hi : i < 16 := by have := (List.getElem?_eq_some_iff.mp hx).1; omega
      refine ⟨[.io o2, .v (.int n), .v (.int way), .v (.lst (txs (rowsS n))), .ow (dctS ((rowsS n).take i) t), .v (.str x), s6], by simp [h5], wp_seq (wp_asg ?_)⟩
      obtain ⟨o3, a, g1, B3, ha⟩ := jdraw B2 (by omega) 4 (by decide) (by decide)
      obtain ⟨o4, b, g2, B4, hb4⟩ := jdraw B3 (by omega) 9 (by decide) (by decide)
      obtain ⟨o5, c, g3, B5, hc⟩ := jpick_lst B4 (by omega) [.int 0, .int 0, .int 0, .int 1, .int 2] (by simp) (by simp)
      have hc : ∃ c' : Nat, c = .int (c' : Nat) ∧ c' ≤ 2 := by
        simp only [List.mem_cons, List.mem_nil_iff, or_false] at hc
        rcases hc with rfl | rfl | rfl | rfl | rfl
        · exact ⟨0, rfl, by omega⟩
        · exact ⟨0, rfl, by omega⟩
        · exact ⟨0, rfl, by omega⟩
        · exact ⟨1, rfl, by omega⟩
        · exact ⟨2, rfl, by omega⟩
      obtain ⟨c', rfl, hc'⟩ := hc
      replace g1 : Cm.m_law_draw_2 [.io o2, .v (.int 4)] = .ok (.int a) [.io o3, .v (.int 4)] := g1
      replace g2 : Cm.m_law_draw_2 [.io o3, .v (.int 9)] = .ok (.int b) [.io o4, .v (.int 9)] := g2
      have small : ∃ z : Nat, z ≤ 9 ∧ gIx (.lst [.int a, .int (1 + b), .int c']) (.int (if (2 : Int) < (way : Int) then 2 else (way : Int))) = some (.int z) := by
        have : way = 0 ∨ way = 1 ∨ 2 ≤ way := by omega
        rcases this with e | e | e
        · exact ⟨a, by omega, by rw [e]; rfl⟩
        · exact ⟨1 + b, by omega, by rw [e]; rfl⟩
        · refine ⟨c', by omega, ?_⟩
          have : (if (2 : Int) < (way : Int) then 2 else (way : Int)) = 2 := by split <;> omega
          rw [this]
          rfl
      obtain ⟨z, hz, g4⟩ := small
      simp [↓bind_eq, g1, g2, g3, gBest2, g4, h6]
      have nin : x ∉ (rowsS n).take i := nodup_take (rows_nd hn) hx
      have fin : ∀ (o' : Ob) (w : Int), Bag (m + 1 + 5 * (i + 1)) o' → 0 ≤ w → w ≤ 1000000000000 → gSto (dctS ((rowsS n).take i) t) (.str x) (.int w) = some (dctS ((rowsS n).take (i + 1)) (setF t x w)) ∧ ∀ y ∈ (rowsS n).take (i + 1), 0 ≤ setF t x w y ∧ setF t x w y ≤ 1000000000000 := fun o' w Bo w1 w2 => by
        refine ⟨?_, fun y hy => ?_⟩
        · rw [take_snoc hx]
          exact tab_new ((rows_nd hn).sublist (List.take_sublist _ _)) (by simp; omega) nin
        · rw [take_snoc hx] at hy
          unfold setF
          rcases List.mem_append.mp hy with q | q
          · rw [if_neg (fun e => by rw [e] at q; exact nin q)]
            exact hb y q
          · simp at q
            rw [if_pos q]
            exact ⟨w1, w2⟩
      refine wp_ev ?_
      by_cases hw3 : way = 3
      · subst hw3
        obtain ⟨o6, f, g5, B6, hf⟩ := jdraw B5 (by omega) 1000000000001 (by decide) (by decide)
        replace g5 : Cm.m_law_draw_2 [.io o5, .v (.int 1000000000001)] = .ok (.int f) [.io o6, .v (.int 1000000000001)] := g5
        obtain ⟨o7, w, g6, B7, hw⟩ := jpick_lst B6 (by omega) [.int 0, .int 1, .int f, .int 1000000000000] (by simp) (by simp)
        have hw : ∃ w' : Int, w = .int w' ∧ 0 ≤ w' ∧ w' ≤ 1000000000000 := by
          simp only [List.mem_cons, List.mem_nil_iff, or_false] at hw
          rcases hw with rfl | rfl | rfl | rfl
          · exact ⟨0, rfl, by omega, by omega⟩
          · exact ⟨1, rfl, by omega, by omega⟩
          · exact ⟨f, rfl, by omega, by omega⟩
          · exact ⟨1000000000000, rfl, by omega, by omega⟩
        obtain ⟨w', rfl, w1, w2⟩ := hw
        obtain ⟨k1, k2⟩ := fin o7 w' (B7.mono (by omega)) w1 w2
        have c3 : gEq (.int 3) (.int 3) = some (.bl true) := by decide +kernel
        simp [↓bind_eq, c3, gPow_10_12, g5, g6, k1]
        exact ⟨o7, setF t x w', _, _, ⟨rfl, rfl, rfl, rfl⟩, B7.mono (by omega), rfl, rfl, rfl, k2⟩
      · obtain ⟨k1, k2⟩ := fin o5 z (B5.mono (by omega)) (by omega) (by omega)
        have c3 : gEq (.int (way : Nat)) (.int 3) = some (.bl false) := by rw [gEq_ii]; simp; omega
        simp [↓bind_eq, c3, k1]
        exact ⟨o5, setF t x z, _, _, ⟨rfl, rfl, rfl, rfl⟩, B5.mono (by omega), rfl, rfl, rfl, k2⟩
    · rintro e ⟨o2, t, s5, s6, rfl, B2, h5, v5, h6, hb⟩
      rw [len_txs] at B2 hb ⊢
      rw [List.take_length] at hb ⊢
      refine wp_seq (wp_if ?_)
      have cg : gGt (.int (way : Nat)) (.int 3) = some (.bl (decide (3 < (way : Int)))) := gGt_ii _ _
      simp [↓bind_eq, cg]
      -- .. and what is left, from any table
      have rest : ∀ (o2 : Ob) (t : Str → Int), Bag (m + 110) o2 → (∀ x ∈ rowsS n, 0 ≤ t x ∧ t x ≤ 1000000000000) →
          Wp (mSeq (mIf (tB1 (x2 gEq (xVar 2) (xC (.int 6)))) (mSto 4 gSto (xCall Cm.m_law_draw_2 (qIo 0 (qVal (xC (.int 9)) qNil))) (xCall Cm.m_law_pick (qIo 0 (qVal (xVar 3) qNil)))) mNx)
            (mSeq (mIf (tB1 (x2 gEq (xN gSum (xCons (xVal (mLc [5] (xIter (xVar 3)) (gSet 5) ttYes (lcPush (xBor (p2 gIx (pVar 4) (pVar 5)))))) xNil)) (xC (.int 0)))) (mSto 4 gSto (xC (.int 1)) (xCall Cm.m_law_pick (qIo 0 (qVal (xVar 3) qNil)))) mNx)
            (mRet (xVar 4)))) [.io o2, .v (.int n), .v (.int way), .v (.lst (txs (rowsS n))), .ow (dctS (rowsS n) t), s5, s6] (PIo fun d o' => ∃ t, d = tabD n t ∧ Bag (m + 150) o' ∧ Tab n t) := by
        intro o2 t B2 hb
        have rest2 : ∀ (o2 : Ob) (t : Str → Int), Bag (m + 120) o2 → (∀ x ∈ rowsS n, 0 ≤ t x ∧ t x ≤ 1000000000000) →
            Wp (mSeq (mIf (tB1 (x2 gEq (xN gSum (xCons (xVal (mLc [5] (xIter (xVar 3)) (gSet 5) ttYes (lcPush (xBor (p2 gIx (pVar 4) (pVar 5)))))) xNil)) (xC (.int 0)))) (mSto 4 gSto (xC (.int 1)) (xCall Cm.m_law_pick (qIo 0 (qVal (xVar 3) qNil)))) mNx)
            (mRet (xVar 4))) [.io o2, .v (.int n), .v (.int way), .v (.lst (txs (rowsS n))), .ow (dctS (rowsS n) t), s5, s6] (PIo fun d o' => ∃ t, d = tabD n t ∧ Bag (m + 150) o' ∧ Tab n t) := by
          intro o2 t B2 hb
          refine wp_seq (wp_if ?_)
          have l := lcA (v := 5) (e := [.io o2, .v (.int n), .v (.int way), .v (.lst (txs (rowsS n))), .ow (dctS (rowsS n) t), .un, s6]) (me := xBor (p2 gIx (pVar 4) (pVar 5))) rfl (rowsS n) (fun x => .str x) (fun x => .int (t x))
            (fun x hx => by simp [↓bind_eq, dctS_ix hx]) (by omega)
          replace l : lcL [5] (gSet 5) ttYes (lcPush (xBor (p2 gIx (pVar 4) (pVar 5)))) (txs (rowsS n)) [] [.io o2, .v (.int n), .v (.int way), .v (.lst (txs (rowsS n))), .ow (dctS (rowsS n) t), .un, s6] = _ := l
          have gs := gSum_l t (rowsS n)
          have ge := gEq_00 (sumT (rowsS n) t)
          unfold sumT at ge
          rcases vS_cases v5 with rfl | ⟨d5, rfl⟩
          all_goals
            simp [↓bind_eq, iterD, l, gs, ge]
            by_cases hz : ((rowsS n).map t).sum = 0
            · rw [if_pos hz]
              obtain ⟨o3, d, g1, B3, hd⟩ := jpick_lst B2 (by omega) (txs (rowsS n)) r0 r1
              obtain ⟨x, hx, rfl⟩ := List.mem_map.mp hd
              have k := tab_set (t := t) (z := 1) (rows_nd hn) (by omega) hx
              refine wp_ev ?_
              simp [↓bind_eq, g1, k]
              refine wp_ret ?_
              simp [↓bind_eq]
              refine .ret ⟨setF t x 1, rfl, B3.mono (by omega), ⟨fun y hy => ?_, (sum_pos fun y hy => ?_).2 ⟨x, hx, by simp [setF]⟩⟩⟩
              · unfold setF
                split
                · omega
                · exact hb y hy
              · unfold setF
                split
                · omega
                · exact (hb y hy).1
            · rw [if_neg hz]
              refine wp_nx (wp_ret ?_)
              simp [↓bind_eq]
              exact .ret ⟨t, rfl, B2.mono (by omega), ⟨hb, hz⟩⟩
        refine wp_seq (wp_if ?_)
        have c6 : gEq (.int (way : Nat)) (.int 6) = some (.bl (decide (way = 6))) := by
          rw [gEq_ii]
          congr 2
          by_cases e : way = 6
          · subst e; rfl
          · simp [e]; omega
        simp [↓bind_eq, c6]
        by_cases e6 : way = 6
        · rw [if_pos e6]
          obtain ⟨o3, f, g1, B3, hf⟩ := jdraw B2 (by omega) 9 (by decide) (by decide)
          replace g1 : Cm.m_law_draw_2 [.io o2, .v (.int 9)] = .ok (.int f) [.io o3, .v (.int 9)] := g1
          obtain ⟨o4, d, g2, B4, hd⟩ := jpick_lst B3 (by omega) (txs (rowsS n)) r0 r1
          obtain ⟨x, hx, rfl⟩ := List.mem_map.mp hd
          have k := tab_set (t := t) (z := (f : Nat)) (rows_nd hn) (by omega) hx
          refine wp_ev ?_
          simp [↓bind_eq, g1, g2, k]
          refine rest2 o4 _ (B4.mono (by omega)) fun y hy => ?_
          unfold setF
          split
          · omega
          · exact hb y hy
        · rw [if_neg e6]
          exact wp_nx (rest2 o2 t (B2.mono (by omega)) hb)
      by_cases hw : (3 : Int) < (way : Int)
      · rw [if_pos hw]
        obtain ⟨o3, t3, g1, B3, hb3⟩ := jfitted B2 (by omega) n hn h0
        refine wp_ow ?_
        simp [↓bind_eq, g1]
        exact rest o3 t3 (B3.mono (by omega)) fun x hx => ⟨(hb3 x hx).1, by have := (hb3 x hx).2; omega⟩
      · rw [if_neg hw]
        exact wp_nx (rest o2 t (B2.mono (by omega)) hb)
  obtain ⟨d, o', h1, t, rfl, h2, h3⟩ := core
  exact ⟨o', t, h1, h2, h3⟩
end Pl

set_option Elab.async false
set_option linter.all false
set_option maxRecDepth 100000
set_option maxHeartbeats 4000000
/-! Ps1: shares as objects -/
namespace Pl
open PySem Mi
def numsD (l : List Str) (t : Str → Int) : List D := l.map fun x => .int (t x)
def shNs : List Str := ["marks", "numbers", "total", "known"]
def shVs (n : Nat) (ms : List Str) (t : Str → Int) : List D := [.tup (txs ms), .tup (numsD (rowsS n) t), .int (sumT (rowsS n) t), tabD n t]
def shD (n : Nat) (ms : List Str) (t : Str → Int) : D := .obj "Shares" shNs (shVs n ms t)
/-! ### dict(zip(..)) -/
theorem dctOf_map (f : Str → D) : ∀ (b a : List Str), (a ++ b).Nodup → (b.map fun x => ((Sum.inr x : L2.Key), f x)).foldl (fun a p => putKy (kyOf p.1) p.2 a.1 a.2) (a.map Ky.str, a.map f) = ((a ++ b).map Ky.str, (a ++ b).map f)
  | [], a, _ => by simp
  | x :: b, a, nd => by
    have h : x ∉ a := fun h => by
      rw [List.nodup_append] at nd
      exact nd.2.2 x h x List.mem_cons_self rfl
    have e := putKy_new f x (f x) a h
    simp only [List.map_cons, List.foldl_cons, kyOf]
    rw [e]
    have ih := dctOf_map f b (a ++ [x]) (by simpa using nd)
    simp only [List.append_assoc, List.singleton_append, List.map_append, List.map_cons, List.map_nil] at ih ⊢
    exact ih
theorem keyPairs_map (f : Str → D) : ∀ l : List Str, keyPairs (txs l) (l.map f) = some (l.map fun x => ((Sum.inr x : L2.Key), f x))
  | [] => rfl
  | x :: l => by
    have ih := keyPairs_map f l
    simp only [txs] at ih
    simp [txs, keyPairs, keyOf, ih]
theorem gZipD_ok {l : List Str} (t : Str → Int) (nd : l.Nodup) (hl : l.length ≤ 4000) : gZipD [.lst (txs l), .tup (numsD l t)] = some (dctS l t) := by
  have h := dctOf_map (fun x => .int (t x)) l [] (by simpa using nd)
  simp only [gZipD, gZipD.iterL, numsD, keyPairs_map, Option.bind_some, List.length_map]
  rw [if_pos hl]
  unfold dctOf
  simp only [List.map_nil, List.nil_append] at h
  rw [h]
  rfl
/-! ### numbers are judged -/
theorem is_integer_i (z : Int) : Cm.m_is_integer [.v (.int z)] = .ok (.bl true) [.v (.int z)] := by
  refine dv1 (wp_ret ?_)
  simp [↓bind_eq, isIntD, isBoolD, D.truth, PV]
theorem is_between_i {z a b : Int} : Cm.m_is_between [.v (.int z), .v (.int a), .v (.int b)] = .ok (.bl (decide (a ≤ z) && decide (z ≤ b))) [.v (.int z), .v (.int a), .v (.int b)] := by
  refine dv3 (wp_ret ?_)
  by_cases h : a ≤ z
  · simp [↓bind_eq, is_integer_i, gLe_ii, h, PV]
  · simp [↓bind_eq, is_integer_i, gLe_ii, h, PV]
theorem nums_get {l : List Str} {t : Str → Int} {i : Nat} {d : D} (h : (numsD l t)[i]? = some d) : ∃ x, l[i]? = some x ∧ d = .int (t x) := by
  simp only [numsD, List.getElem?_map, Option.map_eq_some_iff] at h
  obtain ⟨x, hx, rfl⟩ := h
  exact ⟨x, hx, rfl⟩
theorem nums_len (l : List Str) (t : Str → Int) : (numsD l t).length = l.length := by simp [numsD]
theorem wrong_number_ok {l : List Str} {t : Str → Int} (h : ∀ x ∈ l, 0 ≤ t x ∧ t x ≤ 1000000000000) : Cm.m_wrong_number [.v (.tup (numsD l t))] = .ok .non [.v (.tup (numsD l t))] := by
  refine dv1 (wp_seq (wp_forD (ds := enumD (numsD l t)) (e1 := [.v (.tup (numsD l t)), .un, .un]) (by simp [↓bind_eq, iterD]) (fun _ e => ∃ s1 s2, e = [.v (.tup (numsD l t)), s1, s2] ∧ isIoS s1 = false ∧ isIoS s2 = false) ⟨_, _, rfl, rfl, rfl⟩ ?_ ?_))
  · rintro i d e hd ⟨s1, s2, rfl, h1, h2⟩
    obtain ⟨x, hx, rfl⟩ := enum_get hd
    obtain ⟨y, hy, rfl⟩ := nums_get hx
    obtain ⟨b1, b2⟩ := h y (List.mem_of_getElem? hy)
    refine ⟨[.v (.tup (numsD l t)), .v (.int (i : Nat)), .v (.int (t y))], by simp [h1, h2], wp_if ?_⟩
    simp [↓bind_eq, is_between_i, D.truth, b1, b2]
    exact wp_nx ⟨_, _, rfl, rfl, rfl⟩
  · rintro e ⟨s1, s2, rfl, _, _⟩
    exact wp_ret (by simp [PV])
theorem gSl_all (a : List D) : gSl none (some ((a.length : Nat) : Int)) (.tup a) = some (.tup a) := by
  rw [gSl_to, List.take_length]
theorem gLt_nn (i : Int) : gLt (.int i) (.int i) = some (.bl false) := by rw [show gLt (.int i) (.int i) = some (.bl (decide (i < i))) from rfl]; simp
theorem gGt_nn (i : Int) : gGt (.int i) (.int i) = some (.bl false) := by rw [gGt_ii]; simp
theorem check_numbers_ok {n : Nat} {t : Str → Int} (T : Tab n t) : Cm.m_check_numbers [.v (.tup (numsD (rowsS n) t)), .v (.int ((rowsS n).length : Nat))] = .ok .non [.v (.tup (numsD (rowsS n) t)), .v (.int ((rowsS n).length : Nat))] := by
  refine dv2 (wp_seq (wp_if ?_))
  have l1 := nums_len (rowsS n) t
  have l2 : gLen [.tup (numsD (rowsS n) t)] = some (.int ((rowsS n).length : Nat)) := by simp [gLen, l1]
  have s1 : gSl none (some (((rowsS n).length : Nat) : Int)) (.tup (numsD (rowsS n) t)) = some (.tup (numsD (rowsS n) t)) := by
    have := gSl_all (numsD (rowsS n) t)
    rwa [l1] at this
  have w := wrong_number_ok T.bd
  have gs : gSum [.tup (numsD (rowsS n) t)] = some (.int (sumT (rowsS n) t)) := gSum_t t (rowsS n)
  have ge := gEq_00 (sumT (rowsS n) t)
  have nz := T.nz
  simp [↓bind_eq, isTupD, D.truth, l2, gLt_nn]
  refine wp_nx (wp_seq (wp_asg ?_))
  simp [↓bind_eq, isInt, s1, w]
  refine wp_seq (wp_if ?_)
  simp [↓bind_eq, gNotN, isNon]
  refine wp_nx (wp_seq (wp_if ?_))
  simp [↓bind_eq, l2, gGt_nn]
  refine wp_nx (wp_if ?_)
  simp [↓bind_eq, gs, ge, nz]
  exact wp_nx .nx
theorem ne1 : ¬ ("marks" : Str) = "numbers" := by decide +kernel
theorem ne2 : ¬ ("marks" : Str) = "total" := by decide +kernel
theorem ne3 : ¬ ("marks" : Str) = "known" := by decide +kernel
theorem ne4 : ¬ ("numbers" : Str) = "total" := by decide +kernel
theorem ne5 : ¬ ("numbers" : Str) = "known" := by decide +kernel
theorem ne6 : ¬ ("total" : Str) = "known" := by decide +kernel
/-! ### shares are made -/
theorem shares_init {n : Nat} {ms : List Str} {t : Str → Int} (M : Names n ms) (T : Tab n t) (hn : n ≤ 4) (h0 : 0 < n) :
    Cm.m_Shares___init__ [.io (.ins "Shares" [] []), .v (.tup (txs ms)), .v (.tup (numsD (rowsS n) t))] = .ok .non [.io (.ins "Shares" shNs (shVs n ms t)), .v (.tup (txs ms)), .v (.tup (numsD (rowsS n) t))] := by
  have l : gLen [.tup (txs ms)] = some (.int (n : Nat)) := by simp [gLen, len_txs, M.1]
  have l2 : gLen [.lst (txs (rowsS n))] = some (.int ((rowsS n).length : Nat)) := by simp [gLen, len_txs]
  have gs : gSum [.tup (numsD (rowsS n) t)] = some (.int (sumT (rowsS n) t)) := gSum_t t (rowsS n)
  have z := gZipD_ok t (rows_nd hn) (by have := rows_len hn; omega)
  obtain ⟨d, o', h1, h2, rfl⟩ := io3 (N := 3) (mb := Cm.m_Shares___init___b) (o := .ins "Shares" [] []) (a := .tup (txs ms)) (b := .tup (numsD (rowsS n) t)) (P := fun d o' => d = .non ∧ o' = .ins "Shares" shNs (shVs n ms t)) (by
    refine wp_seq (wp_drop ?_)
    simp [↓bind_eq, check_marks_ok M hn h0]
    refine wp_seq (wp_drop ?_)
    simp [↓bind_eq, l, r_all_rows hn, l2, check_numbers_ok T]
    refine wp_seq (wp_ev ?_)
    simp [↓bind_eq]
    refine wp_seq (wp_ev ?_)
    simp [↓bind_eq]
    refine wp_seq (wp_ev ?_)
    simp [↓bind_eq, gs]
    refine wp_ev ?_
    simp [↓bind_eq, l, r_all_rows hn, z, dct_val]
    exact .nx ⟨rfl, rfl⟩)
  subst h2
  exact h1
theorem shares_many {n : Nat} {ms : List Str} {t : Str → Int} (M : Names n ms) : Cm.m_Shares_many [.v (shD n ms t)] = .ok (.int (n : Nat)) [.v (shD n ms t)] := by
  refine dv1 (wp_ret ?_)
  simp [↓bind_eq, shD, shNs, shVs, gLen, len_txs, M.1, PV]
theorem fld_marks {n : Nat} {ms : List Str} {t : Str → Int} : gFld "Shares" "marks" (shD n ms t) = some (.tup (txs ms)) := rfl
theorem fld_numbers {n : Nat} {ms : List Str} {t : Str → Int} : gFld "Shares" "numbers" (shD n ms t) = some (.tup (numsD (rowsS n) t)) := by simp [shD, shNs, shVs, ne1, ne2, ne3, ne4, ne5, ne6]
theorem fld_total {n : Nat} {ms : List Str} {t : Str → Int} : gFld "Shares" "total" (shD n ms t) = some (.int (sumT (rowsS n) t)) := by simp [shD, shNs, shVs, ne1, ne2, ne3, ne4, ne5, ne6]
theorem fld_known {n : Nat} {ms : List Str} {t : Str → Int} : gFld "Shares" "known" (shD n ms t) = some (tabD n t) := by simp [shD, shNs, shVs, ne1, ne2, ne3, ne4, ne5, ne6]
theorem prop_many {n : Nat} {ms : List Str} {t : Str → Int} (M : Names n ms) (mo : En → Rs D) (env e : En) (h : mo env = .ok (shD n ms t) e) : xProp "Shares" Cm.m_Shares_many mo env = .ok (.int (n : Nat)) e := by
  have q := shares_many (t := t) M
  simp only [shD] at h q
  simp [↓bind_eq, h, q]
theorem isO_sh {n : Nat} {ms : List Str} {t : Str → Int} : isOwnD ["Shares"] "Shares" (shD n ms t) = some true := by simp [shD]
theorem check_shares_ok {n : Nat} {ms : List Str} {t : Str → Int} : Cm.m_check_shares [.v (shD n ms t)] = .ok .non [.v (shD n ms t)] := by
  refine dv1 (wp_if ?_)
  simp [↓bind_eq, isO_sh, D.truth]
  exact wp_nx .nx
end Pl

set_option Elab.async false
set_option linter.all false
set_option maxRecDepth 100000
set_option maxHeartbeats 4000000
/-! Wr: what can be written by repr, compared by == -/
namespace Pl
open PySem Mi
/-- d is plain data, of such a weight and depth; eq: it can be compared -/
structure Rp (w k : Nat) (d : D) (p : PyData) : Prop where
  py : d.py = some p
  sh : p.showable = true
  ls : p.leavesShort 2000 = true
  wt : p.weight ≤ w
  dp : p.depth ≤ k
  lay : PyData.canLay0 p = true
theorem Rp.mono {w k w' k' : Nat} {d : D} {p : PyData} (h : Rp w k d p) (h1 : w ≤ w') (h2 : k ≤ k') : Rp w' k' d p := ⟨h.py, h.sh, h.ls, by have := h.wt; omega, by have := h.dp; omega, h.lay⟩
theorem Rp.non : Rp 0 0 .non .none := ⟨rfl, rfl, rfl, Nat.le_refl _, Nat.le_refl _, rfl⟩
theorem Rp.bl (b : Bool) : Rp 0 0 (.bl b) (.bool b) := ⟨rfl, rfl, rfl, Nat.le_refl _, Nat.le_refl _, rfl⟩
theorem Rp.int {i : Int} (h : i.natAbs < 2 ^ 200) : Rp 201 0 (.int i) (.int i) := by
  have h2 := log2_small h
  refine ⟨rfl, ?_, ?_, ?_, Nat.le_refl _, rfl⟩
  · show decide (i.natAbs.log2 < 1920) = true
    simp; omega
  · show decide ((PyData.shown (.int i)).length ≤ 2000) = true
    have e : (PyData.shown (.int i)) = Str.ofString (toString i) := rfl
    have l := PySem.int_text_length_le (a := i) (k := 201) (by decide) (by omega)
    rw [e, PySem.ofString_length, decide_eq_true_eq]
    exact Nat.le_trans l (by decide)
  · show (if (i == 0) = true then 0 else i.natAbs.log2 + 1) ≤ 201
    split <;> omega
theorem Rp.str {x : Str} {k : Nat} (h : ∀ c ∈ x.cps.toList, c < 0x110000) (hl : x.length ≤ k) : Rp k 0 (.str x) (.str x) := by
  refine ⟨rfl, rfl, ?_, hl, Nat.le_refl _, ?_⟩
  · show (x.cps.toList.all fun c => decide (c < 16 ^ 8)) = true
    rw [List.all_eq_true]
    intro c hc
    have := h c hc
    simp
    omega
  · show PyData.canLay0 (.str x) = true
    rw [PyData.canLay0]
    show (x.cps.all fun c => decide (c < 0x110000)) = true
    rw [← Array.all_toList, List.all_eq_true]
    exact fun c hc => by simpa using h c hc
/-- a list of such -/
structure Rps (w k : Nat) (ds : List D) (ps : List PyData) : Prop where
  py : D.py.pys ds = some ps
  sh : PyData.showableAll ps = true
  ls : PyData.leavesShortAll 2000 ps = true
  wt : PyData.weightAll ps ≤ w
  dp : PyData.depthAll ps ≤ k
  lay : PyData.canLayAll0 ps = true
theorem Rps.nil {k : Nat} : Rps 0 k [] [] := ⟨rfl, rfl, rfl, Nat.le_refl _, Nat.zero_le _, rfl⟩
theorem Rps.cons {w w' k : Nat} {d : D} {p : PyData} {ds : List D} {ps : List PyData} (h : Rp w k d p) (t : Rps w' k ds ps) : Rps (w + 1 + w') k (d :: ds) (p :: ps) := by
  refine ⟨?_, ?_, ?_, ?_, ?_, ?_⟩
  · simp [D.py.pys, h.py, t.py]
  · rw [PyData.showableAll, h.sh, t.sh]; rfl
  · rw [PyData.leavesShortAll, h.ls, t.ls]; rfl
  · have := h.wt; have := t.wt; rw [PyData.weightAll]; omega
  · have := h.dp; have := t.dp; rw [PyData.depthAll]; omega
  · rw [PyData.canLayAll0, h.lay, t.lay]; rfl
theorem Rps.all {w k : Nat} {α : Type} (f : α → D) (g : α → PyData) : ∀ (l : List α), (∀ x ∈ l, Rp w k (f x) (g x)) → Rps ((w + 1) * l.length) k (l.map f) (l.map g)
  | [], _ => .nil
  | x :: l, h => by
    have := Rps.cons (h x List.mem_cons_self) (Rps.all f g l fun y hy => h y (List.mem_cons_of_mem _ hy))
    rw [List.length_cons, Nat.mul_succ, Nat.add_comm]
    exact this
theorem Rps.lst {w k : Nat} {ds : List D} {ps : List PyData} (h : Rps w k ds ps) : Rp w (k + 1) (.lst ds) (.list ps) := by
  refine ⟨by rw [D.py, h.py]; rfl, h.sh, h.ls, h.wt, ?_, ?_⟩
  · show PyData.depthAll ps + 1 ≤ k + 1
    have := h.dp; omega
  · rw [PyData.canLay0]; exact h.lay
theorem Rps.tup {w k : Nat} {ds : List D} {ps : List PyData} (h : Rps w k ds ps) : Rp w (k + 1) (.tup ds) (.tuple ps) := by
  refine ⟨by rw [D.py, h.py]; rfl, h.sh, h.ls, h.wt, ?_, ?_⟩
  · show PyData.depthAll ps + 1 ≤ k + 1
    have := h.dp; omega
  · rw [PyData.canLay0]; exact h.lay
theorem Rps.mono {w k w' k' : Nat} {d : List D} {p : List PyData} (h : Rps w k d p) (h1 : w ≤ w') (h2 : k ≤ k') : Rps w' k' d p := ⟨h.py, h.sh, h.ls, by have := h.wt; omega, by have := h.dp; omega, h.lay⟩
theorem Rp.repr {w k : Nat} {d : D} {p : PyData} (h : Rp w k d p) (hw : w ≤ 8000) (hk : k ≤ 60) : gRepr [d] = some (.str p.shown) := by
  have c : canRepr p = true := by
    have h1 := h.wt
    have h2 := h.dp
    simp only [canRepr, h.sh, h.ls, Bool.and_eq_true, decide_eq_true_eq, true_and]
    omega
  simp [gRepr, h.py, c]
theorem Rp.shaped {w k : Nat} {d : D} {p : PyData} (h : Rp w k d p) (hk : k ≤ 60) : SeqAt.shaped p = true := by
  unfold SeqAt.shaped
  have := h.dp
  rw [h.lay]
  simp
  omega
theorem Rp.eq {w k w' k' : Nat} {d e : D} {p q : PyData} (h : Rp w k d p) (h' : Rp w' k' e q) (hk : k ≤ 60) (hk' : k' ≤ 60) (hs : ∀ x y, d = .str x → e = .str y → False) : gEq d e = some (.bl (PyData.eqv p q)) ∧ gNe d e = some (.bl (!PyData.eqv p q)) := by
  have key : eqD d e = some (PyData.eqv p q) := by
    have gen : (match d.py, e.py with
        | some p, some q => if SeqAt.shaped p = true ∧ SeqAt.shaped q = true then some (PyData.eqv p q) else none
        | _, _ => none) = some (PyData.eqv p q) := by
      rw [h.py, h'.py]
      simp only
      rw [if_pos ⟨h.shaped hk, h'.shaped hk'⟩]
    cases d with
    | str x =>
      cases e with
      | str y => exact (hs x y rfl rfl).elim
      | _ => exact gen
    | _ => exact gen
  exact ⟨by rw [gEq, key]; rfl, by rw [gNe, key]; rfl⟩
end Pl

set_option Elab.async false
set_option linter.all false
set_option maxRecDepth 100000
set_option maxHeartbeats 4000000
/-! Ps2: sums of lots, help -/
namespace Pl
open PySem Mi
theorem strKs_map : ∀ l : List Str, strKs (l.map Ky.str) = some l
  | [] => rfl
  | x :: l => by simp [strKs, strKs_map l]
theorem g_sortedS : ∀ n ∈ [0, 1, 2, 3, 4], PyProof.Rows.sortedS (rowsS n) = true := by decide +kernel
theorem gSort_tab {n : Nat} (hn : n ≤ 4) (t : Str → Int) : gSortX [tabD n t] = some (.lst (txs (rowsS n))) := by
  have := rows_len hn
  simp only [tabD, gSortX, strKs_map, Option.bind_some]
  rw [if_pos ⟨by omega, g_sortedS n (four hn)⟩]
  rfl
theorem jmade_ok {n : Nat} {ms : List Str} {t : Str → Int} (M : Names n ms) (T : Tab n t) (hn : n ≤ 4) (h0 : 0 < n) : Cm.m_law_made [.v (.tup (txs ms)), .v (tabD n t)] = .ok (shD n ms t) [.v (.tup (txs ms)), .v (tabD n t)] := by
  refine dv2 (wp_ret ?_)
  have l := lcA (v := 2) (e := [.v (.tup (txs ms)), .v (tabD n t), .un]) (me := x2 gIx (xVar 1) (xVar 2)) rfl (rowsS n) (fun x => .str x) (fun x => .int (t x)) (fun x hx => by simp [↓bind_eq, tab_ix hx]) (by have := rows_len hn; omega)
  replace l : lcL [2] (gSet 2) ttYes (lcPush (x2 gIx (xVar 1) (xVar 2))) (txs (rowsS n)) [] [.v (.tup (txs ms)), .v (tabD n t), .un] = .ok (numsD (rowsS n) t) [.v (.tup (txs ms)), .v (tabD n t), .un] := l
  have s := shares_init M T hn h0
  simp [↓bind_eq, gSort_tab hn, iterD, l, gTuple, s, Ob.val]
  exact .ret
/-- the sum over some rows -/
theorem sum_lc {n : Nat} {t : Str → Int} {a : List Str} (h : InR n a) : gSum [.lst (a.map fun x => D.int (t x))] = some (.int (sumT a t)) := gSum_l t a
theorem jsum_ok {n : Nat} {t : Str → Int} {a : List Str} (h : InR n a) (hl : a.length ≤ 4000) (c : D) (hc : c = .tup (txs a) ∨ c = .lst (txs a)) : Cm.m_law_sum_2 [.v (tabD n t), .v c] = .ok (.int (sumT a t)) [.v (tabD n t), .v c] := by
  refine dv2 (wp_ret ?_)
  have l := lcA (v := 2) (e := [.v (tabD n t), .v c, .un]) (me := x2 gIx (xVar 0) (xVar 2)) rfl a (fun x => .str x) (fun x => .int (t x)) (fun x hx => by simp [↓bind_eq, tab_ix (h x hx)]) hl
  replace l : lcL [2] (gSet 2) ttYes (lcPush (x2 gIx (xVar 0) (xVar 2))) (txs a) [] [.v (tabD n t), .v c, .un] = _ := l
  have it : iterD c = some (txs a) := by rcases hc with rfl | rfl <;> rfl
  simp [↓bind_eq, it, l, gSum_l]
  exact .ret
theorem added_ok {n : Nat} {ms : List Str} {t : Str → Int} {a : List Str} (h : InR n a) (hl : a.length ≤ 4000) (c : D) (hc : c = .tup (txs a) ∨ c = .lst (txs a)) : Cm.m_Shares_added [.v (shD n ms t), .v c] = .ok (.int (sumT a t)) [.v (shD n ms t), .v c] := by
  refine dv2 (wp_ret ?_)
  have l := lcA (v := 2) (e := [.v (shD n ms t), .v c, .un]) (me := x2 gIx (x1 (gFld "Shares" "known") (xVar 0)) (xVar 2)) rfl a (fun x => .str x) (fun x => .int (t x)) (fun x hx => by simp [↓bind_eq, fld_known, tab_ix (h x hx)]) hl
  replace l : lcL [2] (gSet 2) ttYes (lcPush (x2 gIx (x1 (gFld "Shares" "known") (xVar 0)) (xVar 2))) (txs a) [] [.v (shD n ms t), .v c, .un] = _ := l
  have it : iterD c = some (txs a) := by rcases hc with rfl | rfl <;> rfl
  simp [↓bind_eq, it, l, gSum_l]
  exact .ret
theorem hasN_added : hasN "added" shNs = false := by decide +kernel
theorem xAdded {n : Nat} {ms : List Str} {t : Str → Int} {a : List Str} (h : InR n a) (hl : a.length ≤ 4000) {c : D} (hc : c = .tup (txs a) ∨ c = .lst (txs a)) {mo : En → Rs D} {ma : En → Rs (List D)} {env e e2 : En} (h1 : mo env = .ok (shD n ms t) e) (h2 : ma e = .ok [c] e2) :
    xMth "Shares" "added" Cm.m_Shares_added mo ma env = .ok (.int (sumT a t)) e2 := by
  have q := added_ok (ms := ms) (t := t) h hl c hc
  simp only [shD] at h1 q
  simp [↓bind_eq, h1, h2, hasN_added, q]
def helpZ (n : Nat) (t : Str → Int) (a b : List Str) : Int := sumT (rowsS n) t * sumT (a.filter fun x => decide (x ∈ b)) t - sumT a t * sumT b t
theorem sum_le {l : List Str} {t : Str → Int} {m : Int} (h : ∀ x ∈ l, 0 ≤ t x ∧ t x ≤ m) (hm : 0 ≤ m) : 0 ≤ sumT l t ∧ sumT l t ≤ l.length * m := by
  induction l with
  | nil => simp [sumT]
  | cons x l ih =>
    obtain ⟨h1, h2⟩ := ih fun y hy => h y (List.mem_cons_of_mem _ hy)
    obtain ⟨h3, h4⟩ := h x List.mem_cons_self
    have e : sumT (x :: l) t = t x + sumT l t := by simp [sumT]
    rw [e, List.length_cons]
    have : ((l.length + 1 : Nat) : Int) * m = (l.length : Int) * m + m := by rw [Int.natCast_add, Int.add_mul]; simp
    omega
theorem Tab.sum {n : Nat} {t : Str → Int} (T : Tab n t) {a : List Str} (h : InR n a) (hl : a.length ≤ 16) : (sumT a t).natAbs < 2 ^ 45 ∧ 0 ≤ sumT a t := by
  obtain ⟨h1, h2⟩ := sum_le (l := a) (t := t) (m := 1000000000000) (fun x hx => T.bd x (h x hx)) (by decide)
  have : (a.length : Int) * 1000000000000 ≤ 16 * 1000000000000 := Int.mul_le_mul_of_nonneg_right (by omega) (by decide)
  omega
theorem filter_in {n : Nat} {a : List Str} (h : InR n a) (f : Str → Bool) : InR n (a.filter f) := fun x hx => h x (List.mem_filter.mp hx).1
theorem jhelp_ok {n : Nat} {t : Str → Int} (T : Tab n t) (hn : n ≤ 4) {a b : List Str} (ha : InR n a) (hb : InR n b) (la : a.length ≤ 16) (lb : b.length ≤ 16) :
    Cm.m_law_help_2 [.v (tabD n t), .v (.tup (txs a)), .v (.tup (txs b))] = .ok (.int (helpZ n t a b)) [.v (tabD n t), .v (.tup (txs a)), .v (.tup (txs b))] := by
  have l := lcM (v := 5) (e := [.v (tabD n t), .v (.tup (txs a)), .v (.tup (txs b)), .un, .un, .un]) (mt := tB1 (x2 gIn (xVar 5) (xVar 2))) (me := xVar 5) rfl a (fun x => .str x) (fun x => decide (x ∈ b)) (fun x => .str x) (fun x hx => by simp [↓bind_eq, gIn_t]) (fun x hx _ => by simp) (by omega)
  replace l : lcL [5] (gSet 5) (tB1 (x2 gIn (xVar 5) (xVar 2))) (lcPush (xVar 5)) (txs a) [] [.v (tabD n t), .v (.tup (txs a)), .v (.tup (txs b)), .un, .un, .un] = .ok (txs (a.filter fun x => decide (x ∈ b))) _ := l
  have lf : (a.filter fun x => decide (x ∈ b)).length ≤ 16 := Nat.le_trans (List.length_filter_le _ _) la
  have rl := rows_len hn
  have s1 := jsum_ok (t := t) (filter_in ha fun x => decide (x ∈ b)) (by omega) _ (.inr rfl)
  have s2 := jsum_ok (n := n) (t := t) (a := rowsS n) (fun x hx => hx) (by omega) _ (.inr rfl)
  have s3 := jsum_ok (t := t) ha (by omega) _ (.inl rfl)
  have s4 := jsum_ok (t := t) hb (by omega) _ (.inl rfl)
  have b1 := (T.sum (filter_in ha fun x => decide (x ∈ b)) lf).1
  have b2 := (T.sum (a := rowsS n) (fun x hx => hx) rl).1
  have b3 := (T.sum ha la).1
  have b4 := (T.sum hb lb).1
  have m1 := gMul_ok (i := sumT (rowsS n) t) (j := sumT (a.filter fun x => decide (x ∈ b)) t) (by omega) (by omega)
  have m2 := gMul_ok (i := sumT a t) (j := sumT b t) (by omega) (by omega)
  refine dv3 (wp_seq (wp_par ?_))
  simp [↓bind_eq, iterD, l, s1, gSort_tab hn, s2]
  refine wp_ret ?_
  simp [↓bind_eq, s3, s4, m1, m2]
  exact .ret
theorem help_between_ok {n : Nat} {ms : List Str} {t : Str → Int} (T : Tab n t) (hn : n ≤ 4) {a b : List Str} (ha : InR n a) (hb : InR n b) (la : a.length ≤ 16) (lb : b.length ≤ 16) :
    Cm.m_help_between [.v (shD n ms t), .v (.tup (txs a)), .v (.tup (txs b))] = .ok (.int (helpZ n t a b)) [.v (shD n ms t), .v (.tup (txs a)), .v (.tup (txs b))] := by
  have l := lcM (v := 4) (e := [.v (shD n ms t), .v (.tup (txs a)), .v (.tup (txs b)), .un, .un]) (mt := tB1 (x2 gIn (xVar 4) (xVar 2))) (me := xVar 4) rfl a (fun x => .str x) (fun x => decide (x ∈ b)) (fun x => .str x) (fun x hx => by simp [↓bind_eq, gIn_t]) (fun x hx _ => by simp) (by omega)
  replace l : lcL [4] (gSet 4) (tB1 (x2 gIn (xVar 4) (xVar 2))) (lcPush (xVar 4)) (txs a) [] [.v (shD n ms t), .v (.tup (txs a)), .v (.tup (txs b)), .un, .un] = .ok (txs (a.filter fun x => decide (x ∈ b))) _ := l
  have lf : (a.filter fun x => decide (x ∈ b)).length ≤ 16 := Nat.le_trans (List.length_filter_le _ _) la
  have rl := rows_len hn
  have b1 := (T.sum (filter_in ha fun x => decide (x ∈ b)) lf).1
  have b2 := (T.sum (a := rowsS n) (fun x hx => hx) rl).1
  have b3 := (T.sum ha la).1
  have b4 := (T.sum hb lb).1
  have m1 := gMul_ok (i := sumT (rowsS n) t) (j := sumT (a.filter fun x => decide (x ∈ b)) t) (by omega) (by omega)
  have m2 := gMul_ok (i := sumT a t) (j := sumT b t) (by omega) (by omega)
  refine dv3 (wp_seq (wp_asg ?_))
  simp [↓bind_eq, iterD, l]
  refine wp_ret ?_
  have g : ∀ {c : List Str} (hc : InR n c) (lc : c.length ≤ 4000) (k : Nat) (d : D) (hd : d = .tup (txs c) ∨ d = .lst (txs c)) (e : En), e[0]? = some (.v (shD n ms t)) → e[k]? = some (.v d) → xMth "Shares" "added" Cm.m_Shares_added (xVar 0) (xCons (xVar k) xNil) e = .ok (.int (sumT c t)) e := fun hc lc k d hd e h0 hk =>
    xAdded (n := n) (ms := ms) (t := t) hc lc hd (e := e) (by simp [h0]) (by simp [↓bind_eq, hk])
  have g1 := g (filter_in ha fun x => decide (x ∈ b)) (by omega) 3 (.lst (txs (a.filter fun x => decide (x ∈ b)))) (.inr rfl) [.v (shD n ms t), .v (.tup (txs a)), .v (.tup (txs b)), .v (.lst (txs (a.filter fun x => decide (x ∈ b)))), .un] rfl rfl
  have g2 := g ha (by omega) 1 (.tup (txs a)) (.inl rfl) [.v (shD n ms t), .v (.tup (txs a)), .v (.tup (txs b)), .v (.lst (txs (a.filter fun x => decide (x ∈ b)))), .un] rfl rfl
  have g3 := g hb (by omega) 2 (.tup (txs b)) (.inl rfl) [.v (shD n ms t), .v (.tup (txs a)), .v (.tup (txs b)), .v (.lst (txs (a.filter fun x => decide (x ∈ b)))), .un] rfl rfl
  simp [↓bind_eq, fld_total, -ev_xMth, g1, g2, g3, m1, m2]
  exact .ret
theorem help_of_ok {n : Nat} {ms : List Str} {t : Str → Int} (M : Names n ms) (T : Tab n t) (hn : n ≤ 4) {a b : List Str} (ha : Lot n a) (hb : Lot n b) :
    Cm.m_help_of [.v (shD n ms t), .v (.tup (txs a)), .v (.tup (txs b))] = .ok (.int (helpZ n t a b)) [.v (shD n ms t), .v (.tup (txs a)), .v (.tup (txs b))] := by
  have p := prop_many (t := t) M (xVar 0) [.v (shD n ms t), .v (.tup (txs a)), .v (.tup (txs b))] [.v (shD n ms t), .v (.tup (txs a)), .v (.tup (txs b))] (by simp)
  refine dv3 (wp_seq (wp_drop ?_))
  simp [↓bind_eq, check_shares_ok]
  refine wp_seq (wp_drop ?_)
  simp [↓bind_eq, -ev_xProp, p, check_lot_ok hn ha]
  refine wp_seq (wp_drop ?_)
  simp [↓bind_eq, -ev_xProp, p, check_lot_ok hn hb]
  refine wp_ret ?_
  simp [↓bind_eq, help_between_ok T hn ha.inR hb.inR (ha.len hn) (hb.len hn)]
  exact .ret
end Pl

set_option Elab.async false
set_option linter.all false
set_option maxRecDepth 100000
set_option maxHeartbeats 4000000
/-! Pj4: the jar is made; the law's loop -/
namespace Pl
open PySem Mi
theorem gMul_any {i j : Int} (hj : j.natAbs < 2 ^ 50) : gMul (.int i) (.int j) = some (.int (i * j)) := by
  have h2 := log2_small hj
  simp only [gMul]
  rw [if_pos (by omega)]
theorem ints_get {ns : List Int} {i : Nat} {d : D} (h : (ns.map D.int)[i]? = some d) : ∃ n, ns[i]? = some n ∧ d = .int n := by
  simp only [List.getElem?_map, Option.map_eq_some_iff] at h
  obtain ⟨x, hx, rfl⟩ := h
  exact ⟨x, hx, rfl⟩
theorem gSl_fz (a : List D) (i : Nat) : gSl none (some ((i : Nat) : Int)) (.fz a) = some (.lst (a.take i)) := by
  simp only [gSl]
  rw [cut_to2]
theorem gLt_ii (i j : Int) : gLt (.int i) (.int j) = some (.bl (decide (i < j))) := rfl
theorem gGe_ii (i j : Int) : gGe (.int i) (.int j) = some (.bl (decide (j ≤ i))) := rfl
theorem jar_ok (ns : List Int) (k : Nat) (hk : k < 100) : ∃ o e, Cm.m_law_jar [.fz (ns.map .int), .int (k : Nat)] = .ok o e ∧ Bag 0 o := by
  have core : Wp Cm.m_law_jar_b [.v (.fz (ns.map .int)), .v (.int (k : Nat)), .un, .un, .un] fun o _ => Bag 0 o := by
    have u1 : gMul (.int 30103) (.int (k : Nat)) = some (.int (30103 * (k : Nat))) := gMul_any (by omega)
    have c1 := gSl_fz (ns.map .int) 7
    replace c1 : gSl none (some 7) (.fz (ns.map .int)) = some (.lst ((ns.map .int).take 7)) := c1
    refine wn_seq (wp_asg ?_)
    simp [↓bind_eq, u1]
    refine wn_seq (wp_forD (ds := (ns.map .int).take 7) (e1 := [.v (.fz (ns.map .int)), .v (.int (k : Nat)), .v (.int (628318 + 30103 * (k : Nat))), .un, .un]) (by simp [↓bind_eq, isInt, c1, iterD])
      (fun _ e => ∃ (s : Int) (s3 : Sl), e = [.v (.fz (ns.map .int)), .v (.int (k : Nat)), .v (.int s), s3, .un] ∧ s.natAbs < 2 ^ 31 ∧ isIoS s3 = false) ⟨_, _, rfl, by omega, rfl⟩ ?_ ?_)
    · rintro i d e hd ⟨s, s3, rfl, hs, h3⟩
      obtain ⟨z, _, rfl⟩ := List.mem_map.mp (List.mem_of_mem_take (List.mem_of_getElem? hd))
      have m2 : ∀ i, gMod (.int i) (.int 2147483137) = some (.int (i % 2147483137)) := fun i => gMod_ok (by decide)
      have u2 : gMul (.int s) (.int 50021) = some (.int (s * 50021)) := gMul_any (by decide)
      have u3 : gMul (.int z) (.int 23) = some (.int (z * 23)) := gMul_any (by decide)
      refine ⟨[.v (.fz (ns.map .int)), .v (.int (k : Nat)), .v (.int s), .v (.int z), .un], by simp [h3], wp_asg ?_⟩
      simp [↓bind_eq, m2, u2, u3]
      refine ⟨_, _, ⟨rfl, rfl⟩, ?_, rfl⟩
      omega
    · rintro e ⟨s, s3, rfl, hs, h3⟩
      have own : ∃ h : Int, xIf (tB1 (x2 gLt (xVar 1) (xN gLen (xCons (xVar 0) xNil)))) (xN gInt (xCons (x2 gIx (xVar 0) (xVar 1)) xNil)) (xVar 2) [.v (.fz (ns.map .int)), .v (.int (k : Nat)), .v (.int s), s3, .un] = .ok (.int h) [.v (.fz (ns.map .int)), .v (.int (k : Nat)), .v (.int s), s3, .un] := by
        by_cases hl : k < ns.length
        · refine ⟨ns[k], ?_⟩
          have c : gIx (.fz (ns.map .int)) (.int (k : Nat)) = some (.int ns[k]) := by
            simp only [gIx]
            exact atI_nat (by simp [hl])
          have c2 : gLt (.int (k : Nat)) (.int ((ns.length : Nat) : Int)) = some (.bl true) := by
            rw [gLt_ii]
            simp
            omega
          simp [↓bind_eq, gLen, c, c2]
        · refine ⟨s, ?_⟩
          have c2 : gLt (.int (k : Nat)) (.int ((ns.length : Nat) : Int)) = some (.bl false) := by
            rw [gLt_ii]
            simp
            omega
          simp [↓bind_eq, gLen, c2]
      obtain ⟨h, own⟩ := own
      refine wn_seq (wp_asg ?_)
      rw [own]
      simp
      have p1 : gPow (.int 10) (.int 18) = some (.int 1000000000000000000) := by decide +kernel
      have m2 : ∀ i, gMod (.int i) (.int 2147483137) = some (.int (i % 2147483137)) := fun i => gMod_ok (by decide)
      have u2 : gMul (.int h) (.int 29) = some (.int (h * 29)) := gMul_any (by decide)
      have held : ∃ a : Int, xIf (ttOr (tB1 (x2 gLt (xVar 4) (xC (.int 0)))) (tB1 (x2 gGe (xVar 4) (x2 Mi.gPow (xC (.int 10)) (xC (.int 18)))))) (xN gAbs (xCons (xVar 4) xNil)) (xC (.int 0)) [.v (.fz (ns.map .int)), .v (.int (k : Nat)), .v (.int s), s3, .v (.int h)] = .ok (.int a) [.v (.fz (ns.map .int)), .v (.int (k : Nat)), .v (.int s), s3, .v (.int h)] := by
        by_cases b1 : h < 0
        · refine ⟨-h, ?_⟩
          simp [↓bind_eq, gLt_ii, b1, gAbs]
        · by_cases b2 : 1000000000000000000 ≤ h
          · refine ⟨h, ?_⟩
            simp [↓bind_eq, gLt_ii, gGe_ii, b1, b2, gAbs, p1]
          · refine ⟨0, ?_⟩
            simp [↓bind_eq, gLt_ii, gGe_ii, b1, b2, gAbs, p1]
      obtain ⟨a, held⟩ := held
      refine wn_ev ?_
      simp [↓bind_eq, ↓held, m2, u2]
      exact ⟨a, _, 0, rfl, by omega, by decide⟩
  obtain ⟨o, e, h1, h2⟩ := core.ex
  refine ⟨o, e, ?_, h2⟩
  show (match Cm.m_law_jar_b [.v (.fz (ns.map .int)), .v (.int (k : Nat)), .un, .un, .un] with
    | .ok o e => Rs.ok o e
    | _ => .bad) = _
  rw [h1]
theorem jloop_ok {m_right : En → Rs D} (hr : ∀ o, Bag 0 o → ∃ e, m_right [.io o] = .ok (.bl true) e) (ns : List Int) (n : Nat) (hn : n ≤ 90) :
    lcL [1] (gSet 1) ttYes (lcPush (xCallF m_right (xCallN Cm.m_law_jar (xCons (xVar 0) (xCons (xVar 1) xNil))))) (rng n) [] [.v (.fz (ns.map .int)), .un] = .ok (List.replicate n (.bl true)) [.v (.fz (ns.map .int)), .un] := by
  have st : ∀ i d acc e, (rng n)[i]? = some d → (acc = List.replicate i (.bl true) ∧ e = [.v (.fz (ns.map .int)), .un]) →
      ∃ acc' e', lcStep [1] (gSet 1) ttYes (lcPush (xCallF m_right (xCallN Cm.m_law_jar (xCons (xVar 0) (xCons (xVar 1) xNil))))) d acc e = .ok acc' e' ∧ (acc' = List.replicate (i + 1) (.bl true) ∧ e' = [.v (.fz (ns.map .int)), .un]) := by
    rintro i d acc e hd ⟨rfl, rfl⟩
    obtain ⟨hi, rfl⟩ := rng_get hd
    obtain ⟨o, e1, q1, B⟩ := jar_ok ns i (by omega)
    obtain ⟨e2, q2⟩ := hr o B
    refine ⟨_, _, ?_, rfl, rfl⟩
    rw [lcStep_push (z := .bl true) (e2 := [.v (.fz (ns.map .int)), .v (.int (i : Nat))]) (e3 := [.v (.fz (ns.map .int)), .v (.int (i : Nat))]) (e4 := [.v (.fz (ns.map .int)), .v (.int (i : Nat))]) (by simp) (by simp) (by simp [↓bind_eq, q1, q2]) (by simp; omega)]
    simp [List.replicate_succ']
  obtain ⟨acc, e, h1, h2, h3⟩ := lcL_inv _ st (acc := []) (e := [.v (.fz (ns.map .int)), .un]) ⟨rfl, rfl⟩
  rw [rng_len] at h2
  rw [h1, h2, h3]
theorem all_true (n : Nat) : gAll [.lst (List.replicate n (.bl true))] = some (.bl true) := by
  have : List.replicate n (D.bl true) = (List.replicate n true).map .bl := by simp
  simp only [gAll]
  rw [this, blsD_map]
  simp
/-- how many turns -/
theorem turns (ns : List Int) (c : Nat) (hc : c ≤ 90) : ∃ n : Nat, n ≤ 90 ∧ (if (if (c : Int) < (ns.length : Int) then (c : Int) else (ns.length : Int)) > 2 then (if (c : Int) < (ns.length : Int) then (c : Int) else (ns.length : Int)) else 2) = (n : Nat) := by
  refine ⟨if (if c < ns.length then c else ns.length) > 2 then (if c < ns.length then c else ns.length) else 2, ?_, ?_⟩
  · split <;> split at * <;> omega
  · split <;> split <;> split <;> split <;> omega
/-- the law's own body, c: how many numbers at most -/
theorem jgood {m_right m_law : En → Rs D} (c : Nat) (hc : c ≤ 90) (hl : m_law = mDef 1 2 (mRet (xN gAll (xCons (xVal (mLc [1] (xRng1 (xCons (xN gMaxB (xCons (xC (.int 2)) (xCons (xN gMinB (xCons (xN gLen (xCons (xVar 0) xNil)) (xCons (xC (.int c)) xNil))) xNil))) xNil)) (gSet 1) ttYes (lcPush (xCallF m_right (xCallN Cm.m_law_jar (xCons (xVar 0) (xCons (xVar 1) xNil))))))) xNil))))
    (hr : ∀ o, Bag 0 o → ∃ e, m_right [.io o] = .ok (.bl true) e) (ns : List Int) : ∃ e, m_law [.v (.fz (ns.map .int))] = .ok (.bl true) e := by
  subst hl
  obtain ⟨n, hn, e⟩ := turns ns c hc
  have q := jloop_ok hr ns n hn
  refine ⟨[.v (.fz (ns.map .int))], ?_⟩
  have e2 : rngD 0 (if (if (c : Int) < (ns.length : Int) then (c : Int) else (ns.length : Int)) > 2 then (if (c : Int) < (ns.length : Int) then (c : Int) else (ns.length : Int)) else 2) = some (rng n) := by
    rw [e]
    exact rngD_nat (by omega)
  simp only [gt_iff_lt, Int.ofNat_lt] at e2
  simp [↓bind_eq, mDef, gLen, gBest2, e2, q, all_true]
end Pl

set_option Elab.async false
set_option linter.all false
set_option maxRecDepth 100000
set_option maxHeartbeats 4000000
/-! Ps3: rows two by two: or, and, the first pair that fails -/
namespace Pl
open PySem Mi
def orS (a b : Str) : Str := ⟨((a.cps.toList.zip b.cps.toList).map fun p => max p.1 p.2).toArray⟩
def andS (a b : Str) : Str := ⟨((a.cps.toList.zip b.cps.toList).map fun p => min p.1 p.2).toArray⟩
def unl (a b : Str) : Nat := ((a.cps.toList.zip b.cps.toList).filter fun p => !(p.1 == p.2)).length
theorem g_row_or : ∀ n ∈ [0, 1, 2, 3, 4], ∀ a ∈ rowsS n, ∀ b ∈ rowsS n, Cm.m_row_or [.v (.str a), .v (.str b)] = .ok (.str (orS a b)) [.v (.str a), .v (.str b)] := by decide +kernel
theorem g_row_and : ∀ n ∈ [0, 1, 2, 3, 4], ∀ a ∈ rowsS n, ∀ b ∈ rowsS n, Cm.m_row_and [.v (.str a), .v (.str b)] = .ok (.str (andS a b)) [.v (.str a), .v (.str b)] := by decide +kernel
theorem g_or_in : ∀ n ∈ [0, 1, 2, 3, 4], ∀ a ∈ rowsS n, ∀ b ∈ rowsS n, orS a b ∈ rowsS n ∧ andS a b ∈ rowsS n ∧ unl a b ≤ 4 := by decide +kernel
theorem g_unl1 : ∀ n ∈ [0, 1, 2, 3, 4], ∀ a ∈ rowsS n, ∀ b ∈ rowsS n, unl a b ≤ 1 → (orS a b = a ∧ andS a b = b) ∨ (orS a b = b ∧ andS a b = a) := by decide +kernel
section
variable {n : Nat} (hn : n ≤ 4) {a b : Str} (ha : a ∈ rowsS n) (hb : b ∈ rowsS n)
include hn ha hb
theorem r_row_or : Cm.m_row_or [.v (.str a), .v (.str b)] = .ok (.str (orS a b)) [.v (.str a), .v (.str b)] := g_row_or n (four hn) a ha b hb
theorem r_row_and : Cm.m_row_and [.v (.str a), .v (.str b)] = .ok (.str (andS a b)) [.v (.str a), .v (.str b)] := g_row_and n (four hn) a ha b hb
theorem or_in : orS a b ∈ rowsS n := (g_or_in n (four hn) a ha b hb).1
theorem and_in : andS a b ∈ rowsS n := (g_or_in n (four hn) a ha b hb).2.1
theorem unl_le : unl a b ≤ 4 := (g_or_in n (four hn) a ha b hb).2.2
end
/-- the products speak against it: first table for or and x, second for and and y -/
def failB (t u : Str → Int) (x y : Str) : Bool := decide (t (orS x y) * u (andS x y) < t x * u y)
theorem tb {n : Nat} {t : Str → Int} (T : Tab n t) {x : Str} (hx : x ∈ rowsS n) : (t x).natAbs < 2 ^ 45 := by
  have := T.bd x hx
  omega
theorem passes_at_ok {n : Nat} (hn : n ≤ 4) {t u : Str → Int} (T : Tab n t) (V : Tab n u) {x y : Str} (hx : x ∈ rowsS n) (hy : y ∈ rowsS n) :
    Cm.m_passes_at [.v (tabD n t), .v (tabD n u), .v (.str x), .v (.str y)] = .ok (.bl (!failB t u x y)) [.v (tabD n t), .v (tabD n u), .v (.str x), .v (.str y)] := by
  have m1 := gMul_ok (i := t (orS x y)) (j := u (andS x y)) (by have := tb T (or_in hn hx hy); omega) (by have := tb V (and_in hn hx hy); omega)
  have m2 := gMul_ok (i := t x) (j := u y) (by have := tb T hx; omega) (by have := tb V hy; omega)
  refine dv4 (wp_ret ?_)
  simp [↓bind_eq, r_row_or hn hx hy, r_row_and hn hx hy, tab_ix (or_in hn hx hy), tab_ix (and_in hn hx hy), tab_ix hx, tab_ix hy, m1, m2, gGe_ii]
  have e : decide (t x * u y ≤ t (orS x y) * u (andS x y)) = !failB t u x y := by
    unfold failB
    by_cases h : t (orS x y) * u (andS x y) < t x * u y
    · simp [h]
    · simp [h]; omega
  rw [e]
  exact .ret
/-! ### loops that search -/
/-- a loop that returns at the first item of which f tells something -/
theorem wp_search {α : Type} {mi : En → Rs (List D)} {mg : D → En → Option En} {mb : En → Rs Fl} {env e1 : En} {Q : Fl → En → Prop} (l : List α) (enc : α → D) (hm : mi env = .ok (l.map enc) e1) (f : α → Option D) (I : En → Prop) (h0 : I e1)
    (step : ∀ x ∈ l, ∀ e, I e → ∃ e2, mg (enc x) e = some e2 ∧ Wp mb e2 fun fl e3 => match f x with
      | some d => fl = .rt d
      | none => fl = .nx ∧ I e3)
    (ret : ∀ d e, l.findSome? f = some d → Q (.rt d) e) (fin : ∀ e, l.findSome? f = none → I e → Q .nx e) : Wp (mFor mi mg mb) env Q := by
  refine wp_forD hm (fun i e => I e ∧ (l.take i).findSome? f = none) ⟨h0, rfl⟩ ?_ ?_
  · rintro i d e hd ⟨hI, hf⟩
    simp only [List.getElem?_map, Option.map_eq_some_iff] at hd
    obtain ⟨x, hx, rfl⟩ := hd
    obtain ⟨e2, h1, h2⟩ := step x (List.mem_of_getElem? hx) e hI
    refine ⟨e2, h1, h2.mono fun fl e3 h => ?_⟩
    have hs : l = l.take i ++ x :: l.drop (i + 1) := by
      have hlt := (List.getElem?_eq_some_iff.mp hx).1
      have e0 := (List.getElem?_eq_some_iff.mp hx).2
      conv => lhs; rw [← List.take_append_drop i l, List.drop_eq_getElem_cons hlt, e0]
    cases hfx : f x with
    | some d =>
      rw [hfx] at h
      subst h
      refine ret d e3 ?_
      rw [hs, List.findSome?_append, hf]
      simp [hfx]
    | none =>
      rw [hfx] at h
      obtain ⟨rfl, h⟩ := h
      refine ⟨h, ?_⟩
      rw [take_snoc hx, List.findSome?_append, hf]
      simp [hfx]
  · rintro e ⟨hI, hf⟩
    rw [List.length_map, List.take_length] at hf
    exact fin e hf hI
/-- the first pair of a list, by places, of which P tells so -/
def pairF (l : List Str) (P : Str → Str → Bool) (i : Nat) : Option D := ((l.drop (i + 1)).find? (P (l[i]?.getD ""))).map fun y => .tup [.str (l[i]?.getD ""), .str y]
def ffS (l : List Str) (P : Str → Str → Bool) : Option D := (List.range l.length).findSome? (pairF l P)
def optD (o : Option D) : D := o.getD .non
theorem find_some {α : Type} (l : List α) (P : α → Bool) (g : α → D) : (l.find? P).map g = l.findSome? fun y => if P y = true then some (g y) else none := by
  induction l with
  | nil => rfl
  | cons x l ih =>
    by_cases h : P x = true
    · simp [h]
    · simp [h, ih]
theorem range_enum (l : List Str) : enumD (txs l) = (List.range l.length).map fun i => .tup [.int (i : Nat), .str (l[i]?.getD "")] := by
  apply List.ext_getElem?
  intro i
  simp only [enumD, txs, List.getElem?_map, List.getElem?_zipIdx]
  by_cases h : i < l.length
  · simp [h]
  · simp [h]
theorem first_failing_ok {n : Nat} {ms : List Str} {t : Str → Int} (M : Names n ms) (T : Tab n t) (hn : n ≤ 4) (far : Bool) :
    Cm.m_first_failing [.v (shD n ms t), .v (.bl far)] = .ok (optD (ffS (rowsS n) fun x y => (far || unl x y == 2) && failB t t x y)) [.v (shD n ms t), .v (.bl far)] := by
  have rl := rows_len hn
  have p := prop_many (t := t) M (xVar 0) [.v (shD n ms t), .v (.bl far), .un, .un, .un, .un, .un, .un, .un] [.v (shD n ms t), .v (.bl far), .un, .un, .un, .un, .un, .un, .un] (by simp)
  refine dv2 (wp_seq (wp_asg ?_))
  simp [↓bind_eq, -ev_xProp, p, r_all_rows hn]
  refine wp_seq (wp_search (List.range (rowsS n).length) (fun i => .tup [.int (i : Nat), .str ((rowsS n)[i]?.getD "")]) (e1 := [.v (shD n ms t), .v (.bl far), .v (.lst (txs (rowsS n))), .un, .un, .un, .un, .un, .un]) (by simp [↓bind_eq, iterD, range_enum])
    (pairF (rowsS n) fun x y => (far || unl x y == 2) && failB t t x y) (fun e => ∃ (s3 s4 s5 s6 : Sl), e = [.v (shD n ms t), .v (.bl far), .v (.lst (txs (rowsS n))), s3, s4, s5, s6, .un, .un] ∧ isIoS s3 = false ∧ isIoS s4 = false ∧ isIoS s5 = false ∧ isIoS s6 = false) ⟨_, _, _, _, rfl, rfl, rfl, rfl, rfl⟩ ?_ ?_ ?_)
  · rintro i hi e ⟨s3, s4, s5, s6, rfl, h3, h4, h5, h6⟩
    have hi : i < (rowsS n).length := List.mem_range.mp hi
    have ex : (rowsS n)[i]? = some (rowsS n)[i] := List.getElem?_eq_getElem hi
    generalize hx : (rowsS n)[i] = x at ex
    have hxr : x ∈ rowsS n := List.mem_of_getElem? ex
    simp only [pairF, ex, Option.getD_some]
    refine ⟨[.v (shD n ms t), .v (.bl far), .v (.lst (txs (rowsS n))), .v (.int (i : Nat)), .v (.str x), s5, s6, .un, .un], by simp [h3, h4], ?_⟩
    have sl : gSl (some ((i : Int) + 1)) none (.lst (txs (rowsS n))) = some (.lst (txs ((rowsS n).drop (i + 1)))) := by
      have := cut_from (ds := txs (rowsS n)) (i := i + 1) (by rw [len_txs]; omega)
      simp only [gSl]
      rw [show ((i : Int) + 1) = ((i + 1 : Nat) : Int) by simp, this, drop_txs]
    rw [find_some]
    refine wp_search ((rowsS n).drop (i + 1)) (fun y => .str y) (e1 := [.v (shD n ms t), .v (.bl far), .v (.lst (txs (rowsS n))), .v (.int (i : Nat)), .v (.str x), s5, s6, .un, .un]) (by simp [↓bind_eq, isInt, sl, iterD]; simp [txs]) (fun y => if ((far || unl x y == 2) && failB t t x y) = true then some (.tup [.str x, .str y]) else none)
      (fun e => ∃ (s5 s6 : Sl), e = [.v (shD n ms t), .v (.bl far), .v (.lst (txs (rowsS n))), .v (.int (i : Nat)), .v (.str x), s5, s6, .un, .un] ∧ isIoS s5 = false ∧ isIoS s6 = false) ⟨_, _, rfl, h5, h6⟩ ?_ ?_ ?_
    · rintro y hy e ⟨s5, s6, rfl, h5, h6⟩
      have hyr : y ∈ rowsS n := List.mem_of_mem_drop hy
      refine ⟨[.v (shD n ms t), .v (.bl far), .v (.lst (txs (rowsS n))), .v (.int (i : Nat)), .v (.str x), .v (.str y), s6, .un, .un], by simp [h5], wp_seq (wp_asg ?_)⟩
      have l := lcZ (v := 7) (w := 8) (e := [.v (shD n ms t), .v (.bl far), .v (.lst (txs (rowsS n))), .v (.int (i : Nat)), .v (.str x), .v (.str y), s6, .un, .un]) (mt := tB1 (x2 gNe (xVar 7) (xVar 8))) (me := xVar 7) rfl rfl (by decide) (x.cps.toList.zip y.cps.toList) (fun p => .str ⟨#[p.1]⟩) (fun p => .str ⟨#[p.2]⟩) (fun p => !(p.1 == p.2)) (fun p => .str ⟨#[p.1]⟩)
        (fun p _ => by
          have : (⟨#[p.1]⟩ : Str) = ⟨#[p.2]⟩ ↔ p.1 = p.2 := by simp
          simp [↓bind_eq, gNe_ss, this]
          by_cases h : p.1 = p.2 <;> simp [h]) (fun p _ _ => by simp) (by
          have := (g_ok n (four hn)) x hxr
          simp only [Bool.and_eq_true, decide_eq_true_eq] at this
          simp
          omega)
      have zd : zipD (x.cps.toList.map fun c => D.str ⟨#[c]⟩) (y.cps.toList.map fun c => D.str ⟨#[c]⟩) = (x.cps.toList.zip y.cps.toList).map fun p => .tup [.str ⟨#[p.1]⟩, .str ⟨#[p.2]⟩] := by
        simp only [zipD, List.zip_map, List.map_map]
        rfl
      have gl : gLen [.lst (((x.cps.toList.zip y.cps.toList).filter fun p => !(p.1 == p.2)).map fun p => D.str ⟨#[p.1]⟩)] = some (.int (unl x y : Nat)) := by simp [gLen, unl]
      simp only [ev_xN, ev_xCons, ev_xVal, ev_mLc, ev_xZip, ev_xVar, ↓bind_eq, iterD, Rs.of_some, List.getElem?_cons_zero, ev_okVs, ev_okVs0, List.getElem?_cons_succ, Bool.and_self, if_true, ev_wipe, ev_wipe0, List.set_cons_succ, List.set_cons_zero, ev_val, ev_xNil, ev_back, ev_back0, Option.bind_some, Option.map_some, zd, l, gl]
      simp [h6]
      refine wp_if ?_
      have c2 : ∀ u : Nat, gEq (.int (u : Nat)) (.int 2) = some (.bl (u == 2)) := fun u => by
        rw [gEq_ii]
        by_cases h : u = 2
        · subst h; rfl
        · rw [show ((u : Int) == 2) = false from beq_eq_false_iff_ne.mpr (by omega), show (u == 2) = false from beq_eq_false_iff_ne.mpr h]
      have c3 : gEq (.int 2) (.int 2) = some (.bl true) := c2 2
      have pa := passes_at_ok hn T T hxr hyr
      cases far with
      | true =>
        simp [↓bind_eq, D.truth, fld_known, pa]
        by_cases hf : failB t t x y = true
        · rw [if_pos hf, if_pos hf]
          exact wp_ret (by simp [↓bind_eq])
        · rw [if_neg hf, if_neg hf]
          exact wp_nx ⟨rfl, _, _, rfl, rfl, rfl⟩
      | false =>
        by_cases hu : unl x y = 2
        · simp [↓bind_eq, D.truth, c2, c3, hu, fld_known, pa]
          by_cases hf : failB t t x y = true
          · rw [if_pos hf, if_pos hf]
            exact wp_ret (by simp [↓bind_eq])
          · rw [if_neg hf, if_neg hf]
            exact wp_nx ⟨rfl, _, _, rfl, rfl, rfl⟩
        · have hb : (unl x y == 2) = false := beq_eq_false_iff_ne.mpr hu
          simp [↓bind_eq, D.truth, c2, c3, hb, hu]
          exact wp_nx ⟨rfl, _, _, rfl, rfl, rfl⟩
    · intro d e hd
      rw [hd]
    · rintro e hd ⟨s5, s6, rfl, h5, h6⟩
      rw [hd]
      exact ⟨rfl, _, _, _, _, rfl, rfl, rfl, h5, h6⟩
  · intro d e hd
    show PV _ _ _
    rw [show ffS (rowsS n) (fun x y => (far || unl x y == 2) && failB t t x y) = some d from hd]
    exact .ret
  · rintro e hd ⟨s3, s4, s5, s6, rfl, _⟩
    refine wp_ret ?_
    rw [show ffS (rowsS n) (fun x y => (far || unl x y == 2) && failB t t x y) = none from hd]
    simp
    exact .ret
theorem failing_ok {n : Nat} {ms : List Str} {t : Str → Int} (M : Names n ms) (T : Tab n t) (hn : n ≤ 4) :
    Cm.m_failing [.v (shD n ms t)] = .ok (optD (ffS (rowsS n) fun x y => failB t t x y)) [.v (shD n ms t)] := by
  refine dv1 (wp_seq (wp_drop ?_))
  simp [↓bind_eq, check_shares_ok]
  refine wp_ret ?_
  have f := first_failing_ok M T hn true
  simp at f
  simp [↓bind_eq, f]
  exact .ret
theorem ffS_tup {l : List Str} {P : Str → Str → Bool} {d : D} (h : ffS l P = some d) : ∃ x y, d = .tup [.str x, .str y] ∧ P x y = true ∧ x ∈ l ∧ y ∈ l := by
  obtain ⟨l1, i, l2, h1, h2, h3⟩ := List.findSome?_eq_some_iff.mp h
  have hi : i < l.length := by
    have : i ∈ List.range l.length := by rw [h1]; simp
    exact List.mem_range.mp this
  unfold pairF at h2
  obtain ⟨y, hy, rfl⟩ := Option.map_eq_some_iff.mp h2
  have e : l[i]? = some l[i] := List.getElem?_eq_getElem hi
  refine ⟨_, y, rfl, List.find?_some hy, ?_, List.mem_of_mem_drop (List.mem_of_find?_eq_some hy)⟩
  rw [e]
  exact List.getElem_mem hi
theorem isN_opt (l : List Str) (P : Str → Str → Bool) : gIsN (optD (ffS l P)) .non = some (.bl (ffS l P).isNone) := by
  cases h : ffS l P with
  | none => rfl
  | some d =>
    obtain ⟨x, y, rfl, _⟩ := ffS_tup h
    rfl
theorem fits_ok {n : Nat} {ms : List Str} {t : Str → Int} (M : Names n ms) (T : Tab n t) (hn : n ≤ 4) :
    Cm.m_fits [.v (shD n ms t)] = .ok (.bl (ffS (rowsS n) fun x y => failB t t x y).isNone) [.v (shD n ms t)] := by
  refine dv1 (wp_ret ?_)
  simp [↓bind_eq, failing_ok M T hn, isN_opt]
  exact .ret
theorem findSome_congr {α : Type} {l : List α} {f g : α → Option D} (h : ∀ x ∈ l, f x = g x) : l.findSome? f = l.findSome? g := by
  induction l with
  | nil => rfl
  | cons x l ih =>
    rw [List.findSome?_cons, List.findSome?_cons, h x List.mem_cons_self, ih fun y hy => h y (List.mem_cons_of_mem _ hy)]
theorem ffS_congr {l : List Str} {P P' : Str → Str → Bool} (h : ∀ x ∈ l, ∀ y ∈ l, P x y = P' x y) : ffS l P = ffS l P' := by
  refine findSome_congr fun i hi => ?_
  have hi := List.mem_range.mp hi
  have e : l[i]? = some l[i] := List.getElem?_eq_getElem hi
  unfold pairF
  rw [find_some, find_some]
  refine findSome_congr fun y hy => ?_
  rw [e, Option.getD_some, h _ (List.getElem_mem hi) y (List.mem_of_mem_drop hy)]
end Pl

set_option Elab.async false
set_option linter.all false
set_option maxRecDepth 100000
set_option maxHeartbeats 4000000
/-! Ps4: the laws' own or and and, own search for the first pair that fails -/
namespace Pl
open PySem Mi
theorem g_law_or : ∀ n ∈ [0, 1, 2, 3, 4], ∀ a ∈ rowsS n, ∀ b ∈ rowsS n, Cm.m_law_or [.v (.str a), .v (.str b)] = .ok (.str (orS a b)) [.v (.str a), .v (.str b)] := by decide +kernel
theorem g_law_and : ∀ n ∈ [0, 1, 2, 3, 4], ∀ a ∈ rowsS n, ∀ b ∈ rowsS n, Cm.m_law_and [.v (.str a), .v (.str b)] = .ok (.str (andS a b)) [.v (.str a), .v (.str b)] := by decide +kernel
def chD (y : Str) (k : Nat) : D := .str ⟨#[y.cps.toList.getD k 0]⟩
def difB (x y : Str) (k : Nat) : Bool := !(x.cps.toList.getD k 0 == y.cps.toList.getD k 0)
theorem g_ch : ∀ n ∈ [0, 1, 2, 3, 4], ∀ y ∈ rowsS n, gLen [.str y] = some (.int (n : Nat)) ∧ ∀ k ∈ List.range n, gIx (.str y) (.int (k : Nat)) = some (chD y k) := by decide +kernel
theorem g_dif : ∀ n ∈ [0, 1, 2, 3, 4], ∀ x ∈ rowsS n, ∀ y ∈ rowsS n, ((List.range n).filter (difB y x)).length = unl x y ∧ ∀ k ∈ List.range n, gNe (chD y k) (chD x k) = some (.bl (difB y x k)) := by decide +kernel
section
variable {n : Nat} (hn : n ≤ 4) {a b : Str} (ha : a ∈ rowsS n) (hb : b ∈ rowsS n)
include hn ha hb
theorem r_law_or : Cm.m_law_or [.v (.str a), .v (.str b)] = .ok (.str (orS a b)) [.v (.str a), .v (.str b)] := g_law_or n (four hn) a ha b hb
theorem r_law_and : Cm.m_law_and [.v (.str a), .v (.str b)] = .ok (.str (andS a b)) [.v (.str a), .v (.str b)] := g_law_and n (four hn) a ha b hb
end
theorem law_passes_at_ok {n : Nat} (hn : n ≤ 4) {t u : Str → Int} (T : Tab n t) (V : Tab n u) {x y : Str} (hx : x ∈ rowsS n) (hy : y ∈ rowsS n) :
    Cm.m_law_passes_at [.v (tabD n t), .v (tabD n u), .v (.str x), .v (.str y)] = .ok (.bl (!failB t u x y)) [.v (tabD n t), .v (tabD n u), .v (.str x), .v (.str y)] := by
  have m1 := gMul_ok (i := t (orS x y)) (j := u (andS x y)) (by have := tb T (or_in hn hx hy); omega) (by have := tb V (and_in hn hx hy); omega)
  have m2 := gMul_ok (i := t x) (j := u y) (by have := tb T hx; omega) (by have := tb V hy; omega)
  refine dv4 (wp_seq (wp_asg ?_))
  simp [↓bind_eq, r_law_or hn hx hy, r_law_and hn hx hy, tab_ix (or_in hn hx hy), tab_ix (and_in hn hx hy), m1]
  refine wp_ret ?_
  simp [↓bind_eq, tab_ix hx, tab_ix hy, m2, gGe_ii]
  have e : decide (t x * u y ≤ t (orS x y) * u (andS x y)) = !failB t u x y := by
    unfold failB
    by_cases h : t (orS x y) * u (andS x y) < t x * u y
    · simp [h]
    · simp [h]; omega
  rw [e]
  exact .ret
@[simp] theorem ev_xChain (g g' : D → D → Option D) (ma mb mc : En → Rs D) (env : En) : xChain g g' ma mb mc env = (ma env).bind fun d1 e1 => (mb e1).bind fun d2 e2 => match g d1 d2 with
  | some (.bl true) => (mc e2).bind fun d3 e3 => .of (g' d2 d3) e3
  | some (.bl false) => .ok (.bl false) e2
  | _ => .bad := id rfl
/-- the pairs that a law looks at -/
def farB (most : Nat) (x y : Str) : Bool := decide (1 < unl x y) && decide (unl x y ≤ most)
theorem ix_txs {l : List Str} {i : Nat} {x : Str} (h : l[i]? = some x) : gIx (.lst (txs l)) (.int (i : Nat)) = some (.str x) := by
  have hi := (List.getElem?_eq_some_iff.mp h).1
  simp only [gIx, L2.atI]
  rw [show L2.ixN (txs l).length (i : Nat) = some i from by
    simp [L2.ixN, len_txs]; omega]
  simp [txs, h]
theorem law_failing_ok {n : Nat} {t : Str → Int} (T : Tab n t) (hn : n ≤ 4) (most : Nat) :
    Cm.m_law_failing [.v (tabD n t), .v (.int (most : Nat))] = .ok (optD (ffS (rowsS n) fun x y => farB most x y && failB t t x y)) [.v (tabD n t), .v (.int (most : Nat))] := by
  have rl := rows_len hn
  have rr : rngD 0 ((rowsS n).length : Nat) = some (rng (rowsS n).length) := rngD_nat (by omega)
  refine dv2 (wp_seq (wp_asg ?_))
  simp [↓bind_eq, gSort_tab hn]
  refine wp_seq (wp_search (List.range (rowsS n).length) (fun i => .int (i : Nat)) (e1 := [.v (tabD n t), .v (.int (most : Nat)), .v (.lst (txs (rowsS n))), .un, .un, .un, .un]) (by simp [↓bind_eq, gLen, len_txs, rr]; rfl)
    (pairF (rowsS n) fun x y => farB most x y && failB t t x y) (fun e => ∃ (s3 s4 s5 : Sl), e = [.v (tabD n t), .v (.int (most : Nat)), .v (.lst (txs (rowsS n))), s3, s4, s5, .un] ∧ isIoS s3 = false ∧ isIoS s4 = false ∧ isIoS s5 = false) ⟨_, _, _, rfl, rfl, rfl, rfl⟩ ?_ ?_ ?_)
  · rintro i hi e ⟨s3, s4, s5, rfl, h3, h4, h5⟩
    have hi : i < (rowsS n).length := List.mem_range.mp hi
    have ex : (rowsS n)[i]? = some (rowsS n)[i] := List.getElem?_eq_getElem hi
    generalize hx : (rowsS n)[i] = x at ex
    have hxr : x ∈ rowsS n := List.mem_of_getElem? ex
    have ix := ix_txs ex
    simp only [pairF, ex, Option.getD_some]
    refine ⟨[.v (tabD n t), .v (.int (most : Nat)), .v (.lst (txs (rowsS n))), .v (.int (i : Nat)), s4, s5, .un], by simp [h3], ?_⟩
    have sl : gSl (some ((i : Int) + 1)) none (.lst (txs (rowsS n))) = some (.lst (txs ((rowsS n).drop (i + 1)))) := by
      have := cut_from (ds := txs (rowsS n)) (i := i + 1) (by rw [len_txs]; omega)
      simp only [gSl]
      rw [show ((i : Int) + 1) = ((i + 1 : Nat) : Int) by simp, this, drop_txs]
    rw [find_some]
    refine wp_search ((rowsS n).drop (i + 1)) (fun y => .str y) (e1 := [.v (tabD n t), .v (.int (most : Nat)), .v (.lst (txs (rowsS n))), .v (.int (i : Nat)), s4, s5, .un]) (by simp [↓bind_eq, isInt, sl, iterD]; simp [txs]) (fun y => if (farB most x y && failB t t x y) = true then some (.tup [.str x, .str y]) else none)
      (fun e => ∃ (s4 s5 : Sl), e = [.v (tabD n t), .v (.int (most : Nat)), .v (.lst (txs (rowsS n))), .v (.int (i : Nat)), s4, s5, .un] ∧ isIoS s4 = false ∧ isIoS s5 = false) ⟨_, _, rfl, h4, h5⟩ ?_ ?_ ?_
    · rintro y hy e ⟨s4, s5, rfl, h4, h5⟩
      have hyr : y ∈ rowsS n := List.mem_of_mem_drop hy
      refine ⟨[.v (tabD n t), .v (.int (most : Nat)), .v (.lst (txs (rowsS n))), .v (.int (i : Nat)), .v (.str y), s5, .un], by simp [h4], wp_seq (wp_asg ?_)⟩
      have cy := g_ch n (four hn) y hyr
      have cx := g_ch n (four hn) x hxr
      have dx := g_dif n (four hn) x hxr y hyr
      have l := lcM (v := 6) (e := [.v (tabD n t), .v (.int (most : Nat)), .v (.lst (txs (rowsS n))), .v (.int (i : Nat)), .v (.str y), s5, .un]) (mt := tB1 (x2 gNe (x2 gIx (xVar 4) (xVar 6)) (x2 gIx (x2 gIx (xVar 2) (xVar 3)) (xVar 6)))) (me := xVar 6) rfl (List.range n) (fun k => .int (k : Nat)) (difB y x) (fun k => .int (k : Nat))
        (fun k hk => by simp [↓bind_eq, cy.2 k hk, cx.2 k hk, ix, dx.2 k hk]) (fun k _ _ => by simp) (by simp; omega)
      have rn : rngD 0 (n : Nat) = some ((List.range n).map fun k => .int (k : Nat)) := rngD_nat (by omega)
      have gl : gLen [.lst (((List.range n).filter (difB y x)).map fun k => D.int (k : Nat))] = some (.int (unl x y : Nat)) := by
        simp [gLen, dx.1]
      simp [↓bind_eq, cy.1, rn, l, gl, h5]
      refine wp_if ?_
      have pa := law_passes_at_ok hn T T hxr hyr
      have c1 : gLt (.int 1) (.int (unl x y : Nat)) = some (.bl (decide (1 < unl x y))) := by
        rw [gLt_ii]; congr 2; simp; omega
      have c2 : gLe (.int (unl x y : Nat)) (.int (most : Nat)) = some (.bl (decide (unl x y ≤ most))) := by
        rw [gLe_ii]; congr 2; simp
      by_cases u1 : 1 < unl x y
      · by_cases u2 : unl x y ≤ most
        · have f1 : farB most x y = true := by simp [farB, u1, u2]
          rw [show decide (1 < unl x y) = true from decide_eq_true u1] at c1
          rw [show decide (unl x y ≤ most) = true from decide_eq_true u2] at c2
          simp [↓bind_eq, D.truth, c1, c2, ix, pa, f1]
          by_cases hf : failB t t x y = true
          · rw [if_pos hf, if_pos hf]
            exact wp_ret (by simp [↓bind_eq, ix])
          · rw [if_neg hf, if_neg hf]
            exact wp_nx ⟨rfl, _, _, rfl, rfl, rfl⟩
        · have f1 : farB most x y = false := by simp [farB, u2]
          rw [show decide (1 < unl x y) = true from decide_eq_true u1] at c1
          rw [show decide (unl x y ≤ most) = false from decide_eq_false u2] at c2
          simp [↓bind_eq, D.truth, c1, c2, f1]
          exact wp_nx ⟨rfl, _, _, rfl, rfl, rfl⟩
      · have f1 : farB most x y = false := by simp [farB, u1]
        rw [show decide (1 < unl x y) = false from decide_eq_false u1] at c1
        simp [↓bind_eq, D.truth, c1, f1]
        exact wp_nx ⟨rfl, _, _, rfl, rfl, rfl⟩
    · intro d e hd
      rw [hd]
    · rintro e hd ⟨s4, s5, rfl, h4, h5⟩
      rw [hd]
      exact ⟨rfl, _, _, _, rfl, rfl, h4, h5⟩
  · intro d e hd
    show PV _ _ _
    rw [show ffS (rowsS n) (fun x y => farB most x y && failB t t x y) = some d from hd]
    exact .ret
  · rintro e hd ⟨s3, s4, s5, rfl, _⟩
    refine wp_ret ?_
    rw [show ffS (rowsS n) (fun x y => farB most x y && failB t t x y) = none from hd]
    simp
    exact .ret
end Pl

set_option Elab.async false
set_option linter.all false
set_option maxRecDepth 100000
set_option maxHeartbeats 4000000
/-! Ps5: the loop of turns of a law, over a jar -/
namespace Pl
open PySem Mi
theorem len_1 {ss : En} (h : ss.length = 1) (hv : allV ss) : ∃ a1, ss = [a1] ∧ isIoS a1 = false := by
  rcases ss with _|⟨a1,_|⟨x,r⟩⟩
  all_goals simp at h
  exact ⟨_, rfl, hv _ (by simp)⟩
theorem len_2 {ss : En} (h : ss.length = 2) (hv : allV ss) : ∃ a1 a2, ss = [a1, a2] ∧ isIoS a1 = false ∧ isIoS a2 = false := by
  rcases ss with _|⟨a1,_|⟨a2,_|⟨x,r⟩⟩⟩
  all_goals simp at h
  exact ⟨_, _, rfl, hv _ (by simp), hv _ (by simp)⟩
theorem len_3 {ss : En} (h : ss.length = 3) (hv : allV ss) : ∃ a1 a2 a3, ss = [a1, a2, a3] ∧ isIoS a1 = false ∧ isIoS a2 = false ∧ isIoS a3 = false := by
  rcases ss with _|⟨a1,_|⟨a2,_|⟨a3,_|⟨x,r⟩⟩⟩⟩
  all_goals simp at h
  exact ⟨_, _, _, rfl, hv _ (by simp), hv _ (by simp), hv _ (by simp)⟩
theorem len_4 {ss : En} (h : ss.length = 4) (hv : allV ss) : ∃ a1 a2 a3 a4, ss = [a1, a2, a3, a4] ∧ isIoS a1 = false ∧ isIoS a2 = false ∧ isIoS a3 = false ∧ isIoS a4 = false := by
  rcases ss with _|⟨a1,_|⟨a2,_|⟨a3,_|⟨a4,_|⟨x,r⟩⟩⟩⟩⟩
  all_goals simp at h
  exact ⟨_, _, _, _, rfl, hv _ (by simp), hv _ (by simp), hv _ (by simp), hv _ (by simp)⟩
theorem len_5 {ss : En} (h : ss.length = 5) (hv : allV ss) : ∃ a1 a2 a3 a4 a5, ss = [a1, a2, a3, a4, a5] ∧ isIoS a1 = false ∧ isIoS a2 = false ∧ isIoS a3 = false ∧ isIoS a4 = false ∧ isIoS a5 = false := by
  rcases ss with _|⟨a1,_|⟨a2,_|⟨a3,_|⟨a4,_|⟨a5,_|⟨x,r⟩⟩⟩⟩⟩⟩
  all_goals simp at h
  exact ⟨_, _, _, _, _, rfl, hv _ (by simp), hv _ (by simp), hv _ (by simp), hv _ (by simp), hv _ (by simp)⟩
theorem len_6 {ss : En} (h : ss.length = 6) (hv : allV ss) : ∃ a1 a2 a3 a4 a5 a6, ss = [a1, a2, a3, a4, a5, a6] ∧ isIoS a1 = false ∧ isIoS a2 = false ∧ isIoS a3 = false ∧ isIoS a4 = false ∧ isIoS a5 = false ∧ isIoS a6 = false := by
  rcases ss with _|⟨a1,_|⟨a2,_|⟨a3,_|⟨a4,_|⟨a5,_|⟨a6,_|⟨x,r⟩⟩⟩⟩⟩⟩⟩
  all_goals simp at h
  exact ⟨_, _, _, _, _, _, rfl, hv _ (by simp), hv _ (by simp), hv _ (by simp), hv _ (by simp), hv _ (by simp), hv _ (by simp)⟩
theorem len_7 {ss : En} (h : ss.length = 7) (hv : allV ss) : ∃ a1 a2 a3 a4 a5 a6 a7, ss = [a1, a2, a3, a4, a5, a6, a7] ∧ isIoS a1 = false ∧ isIoS a2 = false ∧ isIoS a3 = false ∧ isIoS a4 = false ∧ isIoS a5 = false ∧ isIoS a6 = false ∧ isIoS a7 = false := by
  rcases ss with _|⟨a1,_|⟨a2,_|⟨a3,_|⟨a4,_|⟨a5,_|⟨a6,_|⟨a7,_|⟨x,r⟩⟩⟩⟩⟩⟩⟩⟩
  all_goals simp at h
  exact ⟨_, _, _, _, _, _, _, rfl, hv _ (by simp), hv _ (by simp), hv _ (by simp), hv _ (by simp), hv _ (by simp), hv _ (by simp), hv _ (by simp)⟩
theorem len_8 {ss : En} (h : ss.length = 8) (hv : allV ss) : ∃ a1 a2 a3 a4 a5 a6 a7 a8, ss = [a1, a2, a3, a4, a5, a6, a7, a8] ∧ isIoS a1 = false ∧ isIoS a2 = false ∧ isIoS a3 = false ∧ isIoS a4 = false ∧ isIoS a5 = false ∧ isIoS a6 = false ∧ isIoS a7 = false ∧ isIoS a8 = false := by
  rcases ss with _|⟨a1,_|⟨a2,_|⟨a3,_|⟨a4,_|⟨a5,_|⟨a6,_|⟨a7,_|⟨a8,_|⟨x,r⟩⟩⟩⟩⟩⟩⟩⟩⟩
  all_goals simp at h
  exact ⟨_, _, _, _, _, _, _, _, rfl, hv _ (by simp), hv _ (by simp), hv _ (by simp), hv _ (by simp), hv _ (by simp), hv _ (by simp), hv _ (by simp), hv _ (by simp)⟩
theorem len_9 {ss : En} (h : ss.length = 9) (hv : allV ss) : ∃ a1 a2 a3 a4 a5 a6 a7 a8 a9, ss = [a1, a2, a3, a4, a5, a6, a7, a8, a9] ∧ isIoS a1 = false ∧ isIoS a2 = false ∧ isIoS a3 = false ∧ isIoS a4 = false ∧ isIoS a5 = false ∧ isIoS a6 = false ∧ isIoS a7 = false ∧ isIoS a8 = false ∧ isIoS a9 = false := by
  rcases ss with _|⟨a1,_|⟨a2,_|⟨a3,_|⟨a4,_|⟨a5,_|⟨a6,_|⟨a7,_|⟨a8,_|⟨a9,_|⟨x,r⟩⟩⟩⟩⟩⟩⟩⟩⟩⟩
  all_goals simp at h
  exact ⟨_, _, _, _, _, _, _, _, _, rfl, hv _ (by simp), hv _ (by simp), hv _ (by simp), hv _ (by simp), hv _ (by simp), hv _ (by simp), hv _ (by simp), hv _ (by simp), hv _ (by simp)⟩
theorem len_10 {ss : En} (h : ss.length = 10) (hv : allV ss) : ∃ a1 a2 a3 a4 a5 a6 a7 a8 a9 a10, ss = [a1, a2, a3, a4, a5, a6, a7, a8, a9, a10] ∧ isIoS a1 = false ∧ isIoS a2 = false ∧ isIoS a3 = false ∧ isIoS a4 = false ∧ isIoS a5 = false ∧ isIoS a6 = false ∧ isIoS a7 = false ∧ isIoS a8 = false ∧ isIoS a9 = false ∧ isIoS a10 = false := by
  rcases ss with _|⟨a1,_|⟨a2,_|⟨a3,_|⟨a4,_|⟨a5,_|⟨a6,_|⟨a7,_|⟨a8,_|⟨a9,_|⟨a10,_|⟨x,r⟩⟩⟩⟩⟩⟩⟩⟩⟩⟩⟩
  all_goals simp at h
  exact ⟨_, _, _, _, _, _, _, _, _, _, rfl, hv _ (by simp), hv _ (by simp), hv _ (by simp), hv _ (by simp), hv _ (by simp), hv _ (by simp), hv _ (by simp), hv _ (by simp), hv _ (by simp), hv _ (by simp)⟩
theorem len_11 {ss : En} (h : ss.length = 11) (hv : allV ss) : ∃ a1 a2 a3 a4 a5 a6 a7 a8 a9 a10 a11, ss = [a1, a2, a3, a4, a5, a6, a7, a8, a9, a10, a11] ∧ isIoS a1 = false ∧ isIoS a2 = false ∧ isIoS a3 = false ∧ isIoS a4 = false ∧ isIoS a5 = false ∧ isIoS a6 = false ∧ isIoS a7 = false ∧ isIoS a8 = false ∧ isIoS a9 = false ∧ isIoS a10 = false ∧ isIoS a11 = false := by
  rcases ss with _|⟨a1,_|⟨a2,_|⟨a3,_|⟨a4,_|⟨a5,_|⟨a6,_|⟨a7,_|⟨a8,_|⟨a9,_|⟨a10,_|⟨a11,_|⟨x,r⟩⟩⟩⟩⟩⟩⟩⟩⟩⟩⟩⟩
  all_goals simp at h
  exact ⟨_, _, _, _, _, _, _, _, _, _, _, rfl, hv _ (by simp), hv _ (by simp), hv _ (by simp), hv _ (by simp), hv _ (by simp), hv _ (by simp), hv _ (by simp), hv _ (by simp), hv _ (by simp), hv _ (by simp), hv _ (by simp)⟩
theorem len_12 {ss : En} (h : ss.length = 12) (hv : allV ss) : ∃ a1 a2 a3 a4 a5 a6 a7 a8 a9 a10 a11 a12, ss = [a1, a2, a3, a4, a5, a6, a7, a8, a9, a10, a11, a12] ∧ isIoS a1 = false ∧ isIoS a2 = false ∧ isIoS a3 = false ∧ isIoS a4 = false ∧ isIoS a5 = false ∧ isIoS a6 = false ∧ isIoS a7 = false ∧ isIoS a8 = false ∧ isIoS a9 = false ∧ isIoS a10 = false ∧ isIoS a11 = false ∧ isIoS a12 = false := by
  rcases ss with _|⟨a1,_|⟨a2,_|⟨a3,_|⟨a4,_|⟨a5,_|⟨a6,_|⟨a7,_|⟨a8,_|⟨a9,_|⟨a10,_|⟨a11,_|⟨a12,_|⟨x,r⟩⟩⟩⟩⟩⟩⟩⟩⟩⟩⟩⟩⟩
  all_goals simp at h
  exact ⟨_, _, _, _, _, _, _, _, _, _, _, _, rfl, hv _ (by simp), hv _ (by simp), hv _ (by simp), hv _ (by simp), hv _ (by simp), hv _ (by simp), hv _ (by simp), hv _ (by simp), hv _ (by simp), hv _ (by simp), hv _ (by simp), hv _ (by simp)⟩
theorem len_13 {ss : En} (h : ss.length = 13) (hv : allV ss) : ∃ a1 a2 a3 a4 a5 a6 a7 a8 a9 a10 a11 a12 a13, ss = [a1, a2, a3, a4, a5, a6, a7, a8, a9, a10, a11, a12, a13] ∧ isIoS a1 = false ∧ isIoS a2 = false ∧ isIoS a3 = false ∧ isIoS a4 = false ∧ isIoS a5 = false ∧ isIoS a6 = false ∧ isIoS a7 = false ∧ isIoS a8 = false ∧ isIoS a9 = false ∧ isIoS a10 = false ∧ isIoS a11 = false ∧ isIoS a12 = false ∧ isIoS a13 = false := by
  rcases ss with _|⟨a1,_|⟨a2,_|⟨a3,_|⟨a4,_|⟨a5,_|⟨a6,_|⟨a7,_|⟨a8,_|⟨a9,_|⟨a10,_|⟨a11,_|⟨a12,_|⟨a13,_|⟨x,r⟩⟩⟩⟩⟩⟩⟩⟩⟩⟩⟩⟩⟩⟩
  all_goals simp at h
  exact ⟨_, _, _, _, _, _, _, _, _, _, _, _, _, rfl, hv _ (by simp), hv _ (by simp), hv _ (by simp), hv _ (by simp), hv _ (by simp), hv _ (by simp), hv _ (by simp), hv _ (by simp), hv _ (by simp), hv _ (by simp), hv _ (by simp), hv _ (by simp), hv _ (by simp)⟩
theorem len_14 {ss : En} (h : ss.length = 14) (hv : allV ss) : ∃ a1 a2 a3 a4 a5 a6 a7 a8 a9 a10 a11 a12 a13 a14, ss = [a1, a2, a3, a4, a5, a6, a7, a8, a9, a10, a11, a12, a13, a14] ∧ isIoS a1 = false ∧ isIoS a2 = false ∧ isIoS a3 = false ∧ isIoS a4 = false ∧ isIoS a5 = false ∧ isIoS a6 = false ∧ isIoS a7 = false ∧ isIoS a8 = false ∧ isIoS a9 = false ∧ isIoS a10 = false ∧ isIoS a11 = false ∧ isIoS a12 = false ∧ isIoS a13 = false ∧ isIoS a14 = false := by
  rcases ss with _|⟨a1,_|⟨a2,_|⟨a3,_|⟨a4,_|⟨a5,_|⟨a6,_|⟨a7,_|⟨a8,_|⟨a9,_|⟨a10,_|⟨a11,_|⟨a12,_|⟨a13,_|⟨a14,_|⟨x,r⟩⟩⟩⟩⟩⟩⟩⟩⟩⟩⟩⟩⟩⟩⟩
  all_goals simp at h
  exact ⟨_, _, _, _, _, _, _, _, _, _, _, _, _, _, rfl, hv _ (by simp), hv _ (by simp), hv _ (by simp), hv _ (by simp), hv _ (by simp), hv _ (by simp), hv _ (by simp), hv _ (by simp), hv _ (by simp), hv _ (by simp), hv _ (by simp), hv _ (by simp), hv _ (by simp), hv _ (by simp)⟩
theorem rloop {f1 m_right : En → Rs Fl} {K c L : Nat} (hK : K ≤ 100) (hc : c ≤ 2 ^ 20) (hm : m_right = mSeq (mFor (xRng1 (xCons (xC (.int (K : Nat))) xNil)) (gSet 1) f1) (mRet (xC (.bl true))))
    (step : ∀ (i m : Nat) (o : Ob) (ss : En), m < 2 ^ 32 → Bag m o → ss.length = L → allV ss → Wp f1 (.io o :: .v (.int (i : Nat)) :: ss) fun fl e => fl = .nx ∧ ∃ (o' : Ob) (ss' : En), e = .io o' :: .v (.int (i : Nat)) :: ss' ∧ ss'.length = L ∧ allV ss' ∧ Bag (m + c) o')
    {o : Ob} (B : Bag 0 o) : ∃ e, mDef 1 (L + 2) m_right [.io o] = .ok (.bl true) e := by
  subst hm
  obtain ⟨d, o', h1, rfl⟩ := io1 (N := L + 2) (mb := mSeq (mFor (xRng1 (xCons (xC (.int (K : Nat))) xNil)) (gSet 1) f1) (mRet (xC (.bl true)))) (o := o) (P := fun d _ => d = .bl true) (by
    refine wp_seq (wp_forD (ds := rng K) (e1 := .io o :: .un :: List.replicate L .un) (by
        have := rngD_nat (k := K) (by omega)
        simp [↓bind_eq, this]
        rfl)
      (fun i e => ∃ (o' : Ob) (s : Sl) (ss : En), e = .io o' :: s :: ss ∧ isIoS s = false ∧ ss.length = L ∧ allV ss ∧ Bag (c * i) o')
      ⟨o, _, _, rfl, rfl, by simp, fun s hs => by rw [List.eq_of_mem_replicate hs]; rfl, by simpa using B⟩ ?_ ?_)
    · rintro i d e hd ⟨o4, s, ss, rfl, h1, hl, hv, B4⟩
      obtain ⟨hi, rfl⟩ := rng_get hd
      have hb : c * i ≤ 2 ^ 20 * 100 := Nat.mul_le_mul hc (by omega)
      refine ⟨.io o4 :: .v (.int (i : Nat)) :: ss, by simp [h1], ?_⟩
      refine (step i _ o4 ss (by omega) B4 hl hv).mono fun fl e ⟨hf, o5, ss', he, gl, gv, B5⟩ => ?_
      subst hf
      exact ⟨o5, _, ss', he, rfl, gl, gv, by rw [Nat.mul_succ]; exact B5⟩
    · rintro e ⟨o4, s, ss, rfl, h1, hl, hv, B4⟩
      refine wp_ret ?_
      simp
      exact .ret rfl)
  exact ⟨_, h1⟩
theorem allV_nil : allV [] := fun s hs => by cases hs
theorem allV_cons {s : Sl} {ss : En} (h : isIoS s = false) (t : allV ss) : allV (s :: ss) := fun x hx => by
  rcases List.mem_cons.mp hx with rfl | hx
  · exact h
  · exact t x hx
end Pl

set_option Elab.async false
set_option linter.all false
set_option maxRecDepth 100000
set_option maxHeartbeats 4000000
/-! Ps6: pairs found, written; when they speak against it -/
namespace Pl
open PySem Mi
theorem g_rch : ∀ n ∈ [0, 1, 2, 3, 4], ∀ x ∈ rowsS n, x.length ≤ 4 ∧ ∀ c ∈ x.cps.toList, c < 0x110000 := by decide +kernel
theorem row_rp {n : Nat} (hn : n ≤ 4) {x : Str} (hx : x ∈ rowsS n) : Rp 4 0 (.str x) (.str x) := .str (g_rch n (four hn) x hx).2 (g_rch n (four hn) x hx).1
theorem opt_rp {n : Nat} (hn : n ≤ 4) (P : Str → Str → Bool) : ∃ p, Rp 20 1 (optD (ffS (rowsS n) P)) p := by
  cases h : ffS (rowsS n) P with
  | none => exact ⟨_, Rp.non.mono (by omega) (by omega)⟩
  | some d =>
    obtain ⟨x, y, rfl, _, hx, hy⟩ := ffS_tup h
    exact ⟨_, ((Rps.cons (row_rp hn hx) (Rps.cons (row_rp hn hy) Rps.nil)).tup).mono (by omega) (by omega)⟩
theorem notN_opt (l : List Str) (P : Str → Str → Bool) : gNotN (optD (ffS l P)) .non = some (.bl (!(ffS l P).isNone)) := by
  cases h : ffS l P with
  | none => rfl
  | some d =>
    obtain ⟨x, y, rfl, _⟩ := ffS_tup h
    rfl
theorem g_unln : ∀ n ∈ [0, 1, 2, 3, 4], ∀ a ∈ rowsS n, ∀ b ∈ rowsS n, unl a b ≤ n := by decide +kernel
theorem unl1 {n : Nat} (hn : n ≤ 4) {t u : Str → Int} {x y : Str} (hx : x ∈ rowsS n) (hy : y ∈ rowsS n) (h : unl x y ≤ 1) : failB t t x y = false := by
  unfold failB
  rcases g_unl1 n (four hn) x hx y hy h with ⟨e1, e2⟩ | ⟨e1, e2⟩
  · rw [e1, e2]; simp
  · rw [e1, e2, Int.mul_comm]; simp
theorem far4 {n : Nat} (hn : n ≤ 4) (t : Str → Int) : (ffS (rowsS n) fun x y => farB 4 x y && failB t t x y) = ffS (rowsS n) fun x y => failB t t x y := by
  refine ffS_congr fun x hx y hy => ?_
  have h4 := unl_le hn hx hy
  by_cases h : 1 < unl x y
  · simp [farB, h, h4]
  · rw [unl1 (u := t) hn hx hy (by omega)]
    simp
theorem one_none {n : Nat} (h1 : n ≤ 1) (t : Str → Int) : (ffS (rowsS n) fun x y => failB t t x y) = none := by
  have : (ffS (rowsS n) fun x y => failB t t x y) = ffS (rowsS n) fun _ _ => false := ffS_congr fun x hx y hy => unl1 (u := t) (by omega) hx hy (by
    have := g_unln n (four (by omega)) x hx y hy
    omega)
  rw [this]
  cases h : ffS (rowsS n) fun _ _ => false with
  | none => rfl
  | some d =>
    obtain ⟨_, _, _, h, _⟩ := ffS_tup h
    cases h
end Pl

set_option Elab.async false
set_option linter.all false
set_option maxRecDepth 100000
set_option maxHeartbeats 4000000
/-! Ps7: rows that climb: from one mark to all -/
namespace Pl
open PySem Mi
/-- a row of the other marks with a sign at a place -/
def wS (x : Str) (k c : Nat) : Str := ⟨(x.cps.toList.take k ++ c :: x.cps.toList.drop k).toArray⟩
def dS (x : Str) (k : Nat) : Str := ⟨(x.cps.toList.eraseIdx k).toArray⟩
def kS (x y : Str) : Nat := (x.cps.toList.zip y.cps.toList).findIdx fun p => decide (p.2 < p.1)
theorem g_step : ∀ n ∈ [0, 1, 2, 3, 4], ∀ x ∈ rowsS n, ∀ y ∈ rowsS n, overS y x = false → (kS x y < n ∧ dS x (kS x y) ∈ rowsS (n - 1) ∧ orS (dS x (kS x y)) (dS y (kS x y)) ∈ rowsS (n - 1)) ∧
    overS (orS (dS x (kS x y)) (dS y (kS x y))) (dS x (kS x y)) = true ∧ wS (dS x (kS x y)) (kS x y) 49 = x ∧
    wS (orS (dS x (kS x y)) (dS y (kS x y))) (kS x y) 48 = orS (wS (dS x (kS x y)) (kS x y) 48) y ∧ wS (orS (dS x (kS x y)) (dS y (kS x y))) (kS x y) 49 = orS x y ∧
    andS (wS (dS x (kS x y)) (kS x y) 48) y = andS x y ∧ ones (wS (dS x (kS x y)) (kS x y) 48) < ones x ∧ wS (dS x (kS x y)) (kS x y) 48 ∈ rowsS n := by decide +kernel
theorem g_below : ∀ n ∈ [0, 1, 2, 3, 4], ∀ x ∈ rowsS n, ∀ y ∈ rowsS n, overS y x = true → orS x y = y ∧ andS x y = x := by decide +kernel
theorem g_oc : ∀ n ∈ [0, 1, 2, 3, 4], ∀ x ∈ rowsS n, ∀ y ∈ rowsS n, orS x y = orS y x ∧ andS x y = andS y x := by decide +kernel
theorem g_put : ∀ n ∈ [1, 2, 3, 4], ∀ k ∈ List.range n, ∀ low ∈ rowsS (n - 1), ∀ high ∈ rowsS (n - 1), overS high low = true → orS (wS low k 49) (wS high k 48) = wS high k 49 ∧ andS (wS low k 49) (wS high k 48) = wS low k 48 := by decide +kernel
theorem g_wS : ∀ n ∈ [1, 2, 3, 4], ∀ k ∈ List.range n, ∀ low ∈ rowsS (n - 1), ∀ c ∈ [48, 49], wS low k c ∈ rowsS n := by decide +kernel
theorem one4 {n : Nat} (h0 : 0 < n) (hn : n ≤ 4) : n ∈ [1, 2, 3, 4] := by
  simp; omega
/-- it speaks against climbing -/
def notB (t : Str → Int) (k : Nat) (low high : Str) : Bool := overS high low && decide (t (wS high k 49) * t (wS low k 48) < t (wS low k 49) * t (wS high k 48))
def climbB (n : Nat) (t : Str → Int) : Bool := (List.range n).all fun k => (rowsS (n - 1)).all fun low => (rowsS (n - 1)).all fun high => !notB t k low high
theorem failB_comm {n : Nat} (hn : n ≤ 4) {t : Str → Int} {x y : Str} (hx : x ∈ rowsS n) (hy : y ∈ rowsS n) : failB t t x y = failB t t y x := by
  unfold failB
  rw [(g_oc n (four hn) x hx y hy).1, (g_oc n (four hn) x hx y hy).2, Int.mul_comm (t x)]
/-- no pair found: none speaks against it -/
theorem ff_all {n : Nat} {P : Str → Str → Bool} (h : ffS (rowsS n) P = none) (hs : ∀ x ∈ rowsS n, P x x = false) (hc : ∀ x ∈ rowsS n, ∀ y ∈ rowsS n, P x y = P y x) : ∀ x ∈ rowsS n, ∀ y ∈ rowsS n, P x y = false := by
  have h1 : ∀ i j : Nat, i < j → ∀ x y, (rowsS n)[i]? = some x → (rowsS n)[j]? = some y → P x y = false := fun i j hij x y hx hy => by
    have hi := (List.getElem?_eq_some_iff.mp hx).1
    have := List.findSome?_eq_none_iff.mp h i (List.mem_range.mpr hi)
    unfold pairF at this
    rw [hx, Option.getD_some, Option.map_eq_none_iff, List.find?_eq_none] at this
    have m : y ∈ (rowsS n).drop (i + 1) := List.mem_of_getElem? (i := j - (i + 1)) (by rw [List.getElem?_drop, show i + 1 + (j - (i + 1)) = j by omega]; exact hy)
    simpa using this y m
  intro x hx y hy
  obtain ⟨i, hi⟩ := List.mem_iff_getElem?.mp hx
  obtain ⟨j, hj⟩ := List.mem_iff_getElem?.mp hy
  rcases Nat.lt_trichotomy i j with q | q | q
  · exact h1 i j q x y hi hj
  · subst q
    rw [hi] at hj
    cases hj
    exact hs x hx
  · rw [hc x hx y hy]
    exact h1 j i q y x hj hi
theorem failB_self {n : Nat} (hn : n ≤ 4) {t : Str → Int} {x : Str} (hx : x ∈ rowsS n) : failB t t x x = false := by
  have := g_below n (four hn) x hx x hx (g_refl n (four hn) x hx)
  unfold failB
  rw [this.1, this.2]
  simp
theorem fit_all {n : Nat} (hn : n ≤ 4) {t : Str → Int} : (ffS (rowsS n) fun x y => failB t t x y) = none ↔ ∀ x ∈ rowsS n, ∀ y ∈ rowsS n, failB t t x y = false := by
  constructor
  · exact fun h => ff_all h (fun x hx => failB_self hn hx) (fun x hx y hy => failB_comm hn hx hy)
  · intro h
    have : (ffS (rowsS n) fun x y => failB t t x y) = ffS (rowsS n) fun _ _ => false := ffS_congr fun x hx y hy => h x hx y hy
    rw [this]
    cases h : ffS (rowsS n) fun _ _ => false with
    | none => rfl
    | some d =>
      obtain ⟨_, _, _, h, _⟩ := ffS_tup h
      cases h
theorem climb_all {n : Nat} {t : Str → Int} : climbB n t = true ↔ ∀ k < n, ∀ low ∈ rowsS (n - 1), ∀ high ∈ rowsS (n - 1), overS high low = true → t (wS low k 49) * t (wS high k 48) ≤ t (wS high k 49) * t (wS low k 48) := by
  simp only [climbB, List.all_eq_true, List.mem_range, notB, Bool.not_eq_true', Bool.and_eq_false_iff, decide_eq_false_iff_not]
  constructor
  · intro h k hk low hl high hh ho
    rcases h k hk low hl high hh with q | q
    · rw [ho] at q; cases q
    · omega
  · intro h k hk low hl high hh
    by_cases ho : overS high low = true
    · have := h k hk low hl high hh ho
      exact .inr (by omega)
    · exact .inl (by simpa using ho)
theorem fit_climbs {n : Nat} (hn : n ≤ 4) (h0 : 0 < n) {t : Str → Int} (h : (ffS (rowsS n) fun x y => failB t t x y) = none) : climbB n t = true := by
  rw [fit_all hn] at h
  rw [climb_all]
  intro k hk low hl high hh ho
  obtain ⟨e1, e2⟩ := g_put n (one4 h0 hn) k (List.mem_range.mpr hk) low hl high hh ho
  have := h _ (g_wS n (one4 h0 hn) k (List.mem_range.mpr hk) low hl 49 (by simp)) _ (g_wS n (one4 h0 hn) k (List.mem_range.mpr hk) high hh 48 (by simp))
  simp only [failB, decide_eq_false_iff_not, e1, e2] at this
  omega
theorem cancel {A B C D E F : Int} (hB : 0 < B) (hD : 0 < D) (h1 : C * D ≤ A * B) (h2 : B * F ≤ D * E) (hA : 0 ≤ A) (hF : 0 ≤ F) : C * F ≤ A * E := by
  have p : 0 < B * D := Int.mul_pos hB hD
  have q1 : (C * D) * (B * F) ≤ (A * B) * (B * F) := Int.mul_le_mul_of_nonneg_right h1 (Int.mul_nonneg (by omega) hF)
  have q2 : (A * B) * (B * F) ≤ (A * B) * (D * E) := Int.mul_le_mul_of_nonneg_left h2 (Int.mul_nonneg hA (by omega))
  have e1 : (C * D) * (B * F) = (C * F) * (B * D) := by ac_rfl
  have e2 : (A * B) * (D * E) = (A * E) * (B * D) := by ac_rfl
  exact Int.le_of_mul_le_mul_right (by rw [← e1, ← e2]; exact Int.le_trans q1 q2) p
theorem climbs_fit {n : Nat} (hn : n ≤ 4) {t : Str → Int} (hp : ∀ x ∈ rowsS n, 0 < t x) (h : climbB n t = true) : (ffS (rowsS n) fun x y => failB t t x y) = none := by
  rw [fit_all hn]
  rw [climb_all] at h
  have core : ∀ (m : Nat) (x : Str), x ∈ rowsS n → ones x ≤ m → ∀ y ∈ rowsS n, t x * t y ≤ t (orS x y) * t (andS x y) := by
    intro m
    induction m with
    | zero =>
      intro x hx hm y hy
      by_cases ho : overS y x = true
      · obtain ⟨e1, e2⟩ := g_below n (four hn) x hx y hy ho
        rw [e1, e2, Int.mul_comm]
        exact Int.le_refl _
      · obtain ⟨_, _, _, _, _, _, q, _⟩ := g_step n (four hn) x hx y hy (by simpa using ho)
        omega
    | succ m ih =>
      intro x hx hm y hy
      by_cases ho : overS y x = true
      · obtain ⟨e1, e2⟩ := g_below n (four hn) x hx y hy ho
        rw [e1, e2, Int.mul_comm]
        exact Int.le_refl _
      · obtain ⟨⟨k1, k2, k3⟩, k4, k5, k6, k7, k8, k9, k10⟩ := g_step n (four hn) x hx y hy (by simpa using ho)
        have c := h _ k1 _ k2 _ k3 k4
        have i := ih _ k10 (by omega) y hy
        rw [k5, k6, k7] at c
        rw [k8] at i
        exact cancel (hp _ k10) (hp _ (or_in hn k10 hy)) c i (Int.le_of_lt (hp _ (or_in hn hx hy))) (Int.le_of_lt (hp _ hy))
  intro x hx y hy
  have := core _ x hx (Nat.le_refl _) y hy
  simp only [failB, decide_eq_false_iff_not]
  omega
end Pl

set_option Elab.async false
set_option linter.all false
set_option maxRecDepth 100000
set_option maxHeartbeats 4000000
/-! Ps8: loops that ask all; climbs -/
namespace Pl
open PySem Mi
/-- a loop that returns False at the first item that P does not hold of -/
theorem wp_allL {α : Type} {mi : En → Rs (List D)} {mg : D → En → Option En} {mb : En → Rs Fl} {env e1 : En} {Q : Fl → En → Prop} (l : List α) (enc : α → D) (hm : mi env = .ok (l.map enc) e1) (P : α → Bool) (I : En → Prop) (h0 : I e1)
    (step : ∀ x ∈ l, ∀ e, I e → ∃ e2, mg (enc x) e = some e2 ∧ Wp mb e2 fun fl e3 => if P x = true then fl = .nx ∧ I e3 else fl = .rt (.bl false))
    (ret : ∀ e, l.all P = false → Q (.rt (.bl false)) e) (fin : ∀ e, l.all P = true → I e → Q .nx e) : Wp (mFor mi mg mb) env Q := by
  have hn : ∀ l : List α, (l.findSome? fun x => if P x = true then none else some (D.bl false)) = none ↔ l.all P = true := fun l => by
    rw [List.findSome?_eq_none_iff, List.all_eq_true]
    constructor
    · intro h x hx
      have := h x hx
      by_cases q : P x = true
      · exact q
      · rw [if_neg q] at this; cases this
    · intro h x hx
      rw [if_pos (h x hx)]
  refine wp_search l enc hm (fun x => if P x = true then none else some (.bl false)) I h0 (fun x hx e hI => ?_) (fun d e h => ?_) (fun e h hI => fin e ((hn l).mp h) hI)
  · obtain ⟨e2, h1, h2⟩ := step x hx e hI
    refine ⟨e2, h1, h2.mono fun fl e3 h => ?_⟩
    by_cases q : P x = true
    · rw [if_pos q] at h ⊢
      exact h
    · rw [if_neg q] at h ⊢
      exact h
  · have hd : d = .bl false := by
      obtain ⟨x, _, hx⟩ := List.exists_of_findSome?_eq_some h
      by_cases q : P x = true
      · rw [if_pos q] at hx; cases hx
      · rw [if_neg q] at hx; cases hx; rfl
    subst hd
    refine ret e ?_
    cases hq : l.all P with
    | false => rfl
    | true => rw [(hn l).mpr hq] at h; cases h
theorem g_with : ∀ n ∈ [1, 2, 3, 4], ∀ k ∈ List.range n, ∀ x ∈ rowsS (n - 1), Cm.m_with_sign [.v (.str x), .v (.int (k : Nat)), .v (.str "1")] = .ok (.str (wS x k 49)) [.v (.str x), .v (.int (k : Nat)), .v (.str "1")] ∧ Cm.m_with_sign [.v (.str x), .v (.int (k : Nat)), .v (.str "0")] = .ok (.str (wS x k 48)) [.v (.str x), .v (.int (k : Nat)), .v (.str "0")] := by decide +kernel
theorem g_law_is_over : ∀ n ∈ [0, 1, 2, 3, 4], ∀ a ∈ rowsS n, ∀ b ∈ rowsS n, Cm.m_law_is_over [.v (.str a), .v (.str b)] = .ok (.bl (overS a b)) [.v (.str a), .v (.str b)] := by decide +kernel
theorem sub1 {n : Nat} (h0 : 0 < n) : ((n : Nat) : Int) - 1 = ((n - 1 : Nat) : Int) := by omega
theorem climbs_ok {n : Nat} {ms : List Str} {t : Str → Int} (M : Names n ms) (T : Tab n t) (hn : n ≤ 4) (h0 : 0 < n) :
    Cm.m_climbs [.v (shD n ms t)] = .ok (.bl (climbB n t)) [.v (shD n ms t)] := by
  have p := prop_many (t := t) M (xVar 0) [.v (shD n ms t), .un, .un, .un, .un, .un, .un] [.v (shD n ms t), .un, .un, .un, .un, .un, .un] (by simp)
  have ga : gSub (.int (n : Nat)) (.int 1) = some (.int (n - 1 : Nat)) := by
    show some (D.int ((n : Nat) - 1 : Int)) = _
    rw [sub1 h0]
  have ar := r_all_rows (n := n - 1) (by omega)
  refine dv1 (wp_seq (wp_drop ?_))
  simp [↓bind_eq, check_shares_ok]
  refine wp_seq (wp_par ?_)
  simp [↓bind_eq, -ev_xProp, fld_known, p, ga, ar]
  refine wp_seq (wp_allL (List.range n) (fun k => .int (k : Nat)) (e1 := [.v (shD n ms t), .v (tabD n t), .v (.lst (txs (rowsS (n - 1)))), .un, .un, .un, .un]) ?_
    (fun k => (rowsS (n - 1)).all fun low => (rowsS (n - 1)).all fun high => !notB t k low high) (fun e => ∃ (s3 s4 s5 s6 : Sl), e = [.v (shD n ms t), .v (tabD n t), .v (.lst (txs (rowsS (n - 1)))), s3, s4, s5, s6] ∧ isIoS s3 = false ∧ isIoS s4 = false ∧ isIoS s5 = false ∧ isIoS s6 = false) ⟨_, _, _, _, rfl, rfl, rfl, rfl, rfl⟩ ?_ ?_ ?_)
  · have p2 := prop_many (t := t) M (xVar 0) [.v (shD n ms t), .v (tabD n t), .v (.lst (txs (rowsS (n - 1)))), .un, .un, .un, .un] [.v (shD n ms t), .v (tabD n t), .v (.lst (txs (rowsS (n - 1)))), .un, .un, .un, .un] (by simp)
    have rn : rngD 0 (n : Nat) = some ((List.range n).map fun k => .int (k : Nat)) := rngD_nat (by omega)
    simp [↓bind_eq, -ev_xProp, p2, rn]
  · rintro k hk e ⟨s3, s4, s5, s6, rfl, h3, h4, h5, h6⟩
    have hk' := List.mem_range.mp hk
    refine ⟨[.v (shD n ms t), .v (tabD n t), .v (.lst (txs (rowsS (n - 1)))), .v (.int (k : Nat)), s4, s5, s6], by simp [h3], ?_⟩
    refine wp_allL (rowsS (n - 1)) (fun x => .str x) (e1 := [.v (shD n ms t), .v (tabD n t), .v (.lst (txs (rowsS (n - 1)))), .v (.int (k : Nat)), s4, s5, s6]) (by simp [↓bind_eq, iterD]; rfl) (fun low => (rowsS (n - 1)).all fun high => !notB t k low high)
      (fun e => ∃ (s4 s5 s6 : Sl), e = [.v (shD n ms t), .v (tabD n t), .v (.lst (txs (rowsS (n - 1)))), .v (.int (k : Nat)), s4, s5, s6] ∧ isIoS s4 = false ∧ isIoS s5 = false ∧ isIoS s6 = false) ⟨_, _, _, rfl, h4, h5, h6⟩ ?_ ?_ ?_
    · rintro low hl e ⟨s4, s5, s6, rfl, h4, h5, h6⟩
      refine ⟨[.v (shD n ms t), .v (tabD n t), .v (.lst (txs (rowsS (n - 1)))), .v (.int (k : Nat)), .v (.str low), s5, s6], by simp [h4], ?_⟩
      refine wp_allL (rowsS (n - 1)) (fun x => .str x) (e1 := [.v (shD n ms t), .v (tabD n t), .v (.lst (txs (rowsS (n - 1)))), .v (.int (k : Nat)), .v (.str low), s5, s6]) (by simp [↓bind_eq, iterD]; rfl) (fun high => !notB t k low high)
        (fun e => ∃ (s5 s6 : Sl), e = [.v (shD n ms t), .v (tabD n t), .v (.lst (txs (rowsS (n - 1)))), .v (.int (k : Nat)), .v (.str low), s5, s6] ∧ isIoS s5 = false ∧ isIoS s6 = false) ⟨_, _, rfl, h5, h6⟩ ?_ ?_ ?_
      · rintro high hh e ⟨s5, s6, rfl, h5, h6⟩
        refine ⟨[.v (shD n ms t), .v (tabD n t), .v (.lst (txs (rowsS (n - 1)))), .v (.int (k : Nat)), .v (.str low), .v (.str high), s6], by simp [h5], wp_if ?_⟩
        have ov := r_over (n := n - 1) (by omega) hh hl
        obtain ⟨w1, w2⟩ := g_with n (one4 h0 hn) k hk high hh
        obtain ⟨w3, w4⟩ := g_with n (one4 h0 hn) k hk low hl
        have r1 := g_wS n (one4 h0 hn) k hk high hh 49 (by simp)
        have r2 := g_wS n (one4 h0 hn) k hk high hh 48 (by simp)
        have r3 := g_wS n (one4 h0 hn) k hk low hl 49 (by simp)
        have r4 := g_wS n (one4 h0 hn) k hk low hl 48 (by simp)
        have m1 := gMul_ok (i := t (wS high k 49)) (j := t (wS low k 48)) (by have := tb T r1; omega) (by have := tb T r4; omega)
        have m2 := gMul_ok (i := t (wS low k 49)) (j := t (wS high k 48)) (by have := tb T r3; omega) (by have := tb T r2; omega)
        simp [↓bind_eq, ov, D.truth]
        by_cases ho : overS high low = true
        · rw [if_pos ho]
          refine wp_seq (wp_asg ?_)
          simp [↓bind_eq, w1, w4, tab_ix r1, tab_ix r4, m1, h6]
          refine wp_if ?_
          simp [↓bind_eq, w3, w2, tab_ix r3, tab_ix r2, m2, gLt_ii, notB, ho]
          by_cases hq : t (wS high k 49) * t (wS low k 48) < t (wS low k 49) * t (wS high k 48)
          · simp only [hq, if_true]
            exact wp_ret (by simp [↓bind_eq])
          · simp only [hq, if_false]
            exact wp_nx ⟨rfl, _, _, rfl, rfl, rfl⟩
        · have hb : notB t k low high = false := by
            unfold notB
            rw [show overS high low = false from by simpa using ho]
            rfl
          simp only [ho, hb, if_false, Bool.false_eq_true]
          exact wp_nx ⟨rfl, _, _, rfl, rfl, h6⟩
      · intro e hd
        rw [if_neg (by rw [hd]; simp)]
      · rintro e hd ⟨s5, s6, rfl, h5, h6⟩
        rw [if_pos hd]
        exact ⟨rfl, _, _, _, rfl, rfl, h5, h6⟩
    · intro e hd
      rw [if_neg (by rw [hd]; simp)]
    · rintro e hd ⟨s4, s5, s6, rfl, h4, h5, h6⟩
      rw [if_pos hd]
      exact ⟨rfl, _, _, _, _, rfl, rfl, h4, h5, h6⟩
  · intro e hd
    show PV _ _ _
    rw [show climbB n t = false from hd]
    exact .ret
  · rintro e hd ⟨s3, s4, s5, s6, rfl, _⟩
    refine wp_ret ?_
    rw [show climbB n t = true from hd]
    simp
    exact .ret
end Pl

set_option Elab.async false
set_option linter.all false
set_option maxRecDepth 100000
set_option maxHeartbeats 4000000
/-! Ps9: near pairs are enough where all numbers are above 0 -/
namespace Pl
open PySem Mi
theorem g_up : ∀ m ∈ [0, 1, 2, 3], ∀ low ∈ rowsS m, ∀ high ∈ rowsS m, overS high low = true → high ≠ low → wS (dS high (kS high low)) (kS high low) 48 ∈ rowsS m ∧ overS (wS (dS high (kS high low)) (kS high low) 48) low = true ∧ ones (wS (dS high (kS high low)) (kS high low) 48) < ones high ∧
    overS high (wS (dS high (kS high low)) (kS high low) 48) = true ∧ ∀ k ∈ List.range (m + 1), unl (wS (wS (dS high (kS high low)) (kS high low) 48) k 49) (wS high k 48) = 2 := by decide +kernel
theorem g_ones : ∀ m ∈ [0, 1, 2, 3], ∀ low ∈ rowsS m, ∀ high ∈ rowsS m, overS high low = true → ones high = 0 → high = low := by decide +kernel
def nearB (t : Str → Int) (x y : Str) : Bool := unl x y == 2 && failB t t x y
theorem unl_comm {n : Nat} (hn : n ≤ 4) {x y : Str} (hx : x ∈ rowsS n) (hy : y ∈ rowsS n) : unl x y = unl y x := by
  have g : ∀ n ∈ [0, 1, 2, 3, 4], ∀ x ∈ rowsS n, ∀ y ∈ rowsS n, unl x y = unl y x := by decide +kernel
  exact g n (four hn) x hx y hy
theorem near_all {n : Nat} (hn : n ≤ 4) {t : Str → Int} (h : (ffS (rowsS n) (nearB t)) = none) : ∀ x ∈ rowsS n, ∀ y ∈ rowsS n, unl x y = 2 → failB t t x y = false := by
  have := ff_all h (fun x hx => by simp [nearB, failB_self hn hx]) (fun x hx y hy => by simp only [nearB, unl_comm hn hx hy, failB_comm hn hx hy])
  intro x hx y hy hu
  have q := this x hx y hy
  simpa [nearB, hu] using q
theorem fit_near {n : Nat} (hn : n ≤ 4) {t : Str → Int} (h : (ffS (rowsS n) fun x y => failB t t x y) = none) : (ffS (rowsS n) (nearB t)) = none := by
  rw [fit_all hn] at h
  have : ffS (rowsS n) (nearB t) = ffS (rowsS n) fun _ _ => false := ffS_congr fun x hx y hy => by simp [nearB, h x hx y hy]
  rw [this]
  cases h : ffS (rowsS n) fun _ _ => false with
  | none => rfl
  | some d =>
    obtain ⟨_, _, _, h, _⟩ := ffS_tup h
    cases h
theorem near_climbs {n : Nat} (hn : n ≤ 4) (h0 : 0 < n) {t : Str → Int} (hp : ∀ x ∈ rowsS n, 0 < t x) (h : (ffS (rowsS n) (nearB t)) = none) : climbB n t = true := by
  have hnear := near_all hn h
  rw [climb_all]
  intro k hk low hl
  have hkr := List.mem_range.mpr hk
  have m3 : n - 1 ∈ [0, 1, 2, 3] := by simp; omega
  have core : ∀ (m : Nat) (high : Str), high ∈ rowsS (n - 1) → ones high ≤ m → overS high low = true → t (wS low k 49) * t (wS high k 48) ≤ t (wS high k 49) * t (wS low k 48) := by
    intro m
    induction m with
    | zero =>
      intro high hh hm ho
      rw [g_ones _ m3 low hl high hh ho (by omega)]
      exact Int.le_refl _
    | succ m ih =>
      intro high hh hm ho
      by_cases he : high = low
      · rw [he]
        exact Int.le_refl _
      · obtain ⟨k1, k2, k3, k4, k5⟩ := g_up _ m3 low hl high hh ho he
        have k5 := k5 k (by rw [show n - 1 + 1 = n by omega]; exact hkr)
        generalize wS (dS high (kS high low)) (kS high low) 48 = h' at k1 k2 k3 k4 k5
        obtain ⟨e1, e2⟩ := g_put n (one4 h0 hn) k hkr h' k1 high hh k4
        have w1 := g_wS n (one4 h0 hn) k hkr h' k1 49 (by simp)
        have w2 := g_wS n (one4 h0 hn) k hkr h' k1 48 (by simp)
        have w3 := g_wS n (one4 h0 hn) k hkr high hh 49 (by simp)
        have w4 := g_wS n (one4 h0 hn) k hkr high hh 48 (by simp)
        have w5 := g_wS n (one4 h0 hn) k hkr low hl 49 (by simp)
        have w6 := g_wS n (one4 h0 hn) k hkr low hl 48 (by simp)
        have c := hnear _ w1 _ w4 k5
        simp only [failB, decide_eq_false_iff_not, e1, e2] at c
        have i := ih h' k1 (by omega) k2
        have := cancel (A := t (wS high k 49)) (B := t (wS h' k 48)) (C := t (wS high k 48)) (D := t (wS h' k 49)) (E := t (wS low k 48)) (F := t (wS low k 49)) (hp _ w2) (hp _ w1) (by rw [Int.mul_comm (t (wS high k 48))]; omega) (by rw [Int.mul_comm (t (wS h' k 48))]; exact i) (Int.le_of_lt (hp _ w3)) (Int.le_of_lt (hp _ w5))
        rw [Int.mul_comm (t (wS low k 49))]
        exact this
  exact fun high hh ho => core _ high hh (Nat.le_refl _) ho
theorem near_failing_ok {n : Nat} {ms : List Str} {t : Str → Int} (M : Names n ms) (T : Tab n t) (hn : n ≤ 4) :
    Cm.m_near_failing [.v (shD n ms t)] = .ok (optD (ffS (rowsS n) (nearB t))) [.v (shD n ms t)] := by
  refine dv1 (wp_seq (wp_drop ?_))
  simp [↓bind_eq, check_shares_ok]
  refine wp_ret ?_
  have f := first_failing_ok M T hn false
  simp at f
  simp [↓bind_eq, f]
  exact .ret
theorem far2 {n : Nat} (hn : n ≤ 4) (t : Str → Int) : (ffS (rowsS n) fun x y => farB 2 x y && failB t t x y) = ffS (rowsS n) (nearB t) := by
  refine ffS_congr fun x hx y hy => ?_
  simp only [farB, nearB]
  by_cases h : unl x y = 2
  · simp [h]
  · have : (unl x y == 2) = false := beq_eq_false_iff_ne.mpr h
    rw [this]
    by_cases h1 : 1 < unl x y
    · have : ¬ unl x y ≤ 2 := by omega
      simp [this]
    · simp [h1]
end Pl

set_option Elab.async false
set_option linter.all false
set_option maxRecDepth 100000
set_option maxHeartbeats 4000000
/-! Ps10: all rising lots -/
namespace Pl
open PySem Mi
def growS : Nat → List (List Str)
  | 0 => [[], [""]]
  | n + 1 => (growS n).flatMap fun low => ((growS n).filter fun high => low.all fun x => decide (x ∈ high)).map fun high => (low.map fun x => ("0" : Str) ++ x) ++ high.map fun x => ("1" : Str) ++ x
def growD (n : Nat) : List D := (growS n).map fun a => .tup (txs a)
def slot1 (o : Option En) : Option (Option Sl) := o.map fun e => e[1]?
theorem slot1_ok {r : Rs Fl} {s : Sl} (h : slot1 (nxE r) = some (some s)) : ∃ e, r = .ok .nx e ∧ e[1]? = some s := by
  cases hr : nxE r with
  | none => rw [hr] at h; cases h
  | some e =>
    rw [hr] at h
    exact ⟨e, nxE_ok hr, Option.some.inj h⟩
theorem g_lots : ∀ n ∈ [0, 1, 2, 3, 4], slot1 (nxE (mSeq (mAsg (gSet 1) (xLst (xCons (xTup xNil) (xCons (xTup (xCons (xC (.str "")) xNil)) xNil))))
  (mFor (xRng1 (xCons (xVar 0) xNil)) (gSet 2) (mSeq (mOw 3 (fLst xNil))
  (mSeq (mFor (xIter (xVar 1)) (gSet 4) (mFor (xIter (xVar 1)) (gSet 5) (mIf (ttTru (xN gAll (xCons (xVal (mLc [6] (xIter (xVar 4)) (gSet 6) ttYes (lcPush (x2 gIn (xVar 6) (xVar 5))))) xNil))) (mDrop (xMeth 3 gApp (xCons (xN gTuple (xCons (x2 Mi.gAdd (xVal (mLc [6] (xIter (xVar 4)) (gSet 6) ttYes (lcPush (x2 Mi.gAdd (xC (.str "0")) (xVar 6))))) (xVal (mLc [6] (xIter (xVar 5)) (gSet 6) ttYes (lcPush (x2 Mi.gAdd (xC (.str "1")) (xVar 6)))))) xNil)) xNil))) mNx)))
  (mAsg (gSet 1) (xVar 3))))) [.v (.int (n : Nat)), .un, .un, .un, .un, .un, .un])) = some (some (.v (.lst (growD n)))) := by decide +kernel
theorem g_law_lots : ∀ n ∈ [0, 1, 2, 3, 4], slot1 (nxE (mSeq (mAsg (gSet 1) (xLst (xCons (xTup xNil) (xCons (xTup (xCons (xC (.str "")) xNil)) xNil))))
  (mFor (xRng1 (xCons (xVar 0) xNil)) (gSet 2) (mSeq (mOw 3 (fLst xNil))
  (mSeq (mFor (xIter (xVar 1)) (gSet 4) (mFor (xIter (xVar 1)) (gSet 5) (mIf (tB1 (x2 gEq (xVal (mLc [6] (xIter (xVar 4)) (gSet 6) (tB1 (x2 gNotIn (xVar 6) (xVar 5))) (lcPush (xVar 6)))) (xLst xNil))) (mDrop (xMeth 3 gApp (xCons (xN gTuple (xCons (x2 Mi.gAdd (xVal (mLc [6] (xIter (xVar 4)) (gSet 6) ttYes (lcPush (x2 Mi.gAdd (xC (.str "0")) (xVar 6))))) (xVal (mLc [6] (xIter (xVar 5)) (gSet 6) ttYes (lcPush (x2 Mi.gAdd (xC (.str "1")) (xVar 6)))))) xNil)) xNil))) mNx)))
  (mAsg (gSet 1) (xVar 3))))) [.v (.int (n : Nat)), .un, .un, .un, .un, .un, .un])) = some (some (.v (.lst (growD n)))) := by decide +kernel
theorem g_sortOk : ∀ n ∈ [0, 1, 2, 3, 4], sortOk (growD n) = true := by decide +kernel
theorem g_growL : ∀ n ∈ [0, 1, 2, 3, 4], ∀ a ∈ growS n, a.isSublist (rowsS n) = true := by decide +kernel
/-- all rising lots, in order -/
def risL (n : Nat) : List D := (growD n).mergeSort leD
theorem ris_mem {n : Nat} {d : D} : d ∈ risL n ↔ ∃ a ∈ growS n, d = .tup (txs a) := by
  unfold risL growD
  rw [List.mem_mergeSort, List.mem_map]
  exact ⟨fun ⟨a, h, e⟩ => ⟨a, h, e.symm⟩, fun ⟨a, h, e⟩ => ⟨a, h, e.symm⟩⟩
theorem grow_lot {n : Nat} (hn : n ≤ 4) {a : List Str} (h : a ∈ growS n) : Lot n a := List.isSublist_iff_sublist.mp (g_growL n (four hn) a h)
theorem gSort_grow {n : Nat} (hn : n ≤ 4) : gSortX [.lst (growD n)] = some (.lst (risL n)) := by
  show gSort [.lst (growD n)] = _
  simp only [gSort]
  rw [if_pos (g_sortOk n (four hn))]
  rfl
theorem rising_lots_ok {n : Nat} (hn : n ≤ 4) : Cm.m_rising_lots [.v (.int (n : Nat))] = .ok (.lst (risL n)) [.v (.int (n : Nat))] := by
  obtain ⟨e, h, he⟩ := slot1_ok (g_lots n (four hn))
  have hs := gSort_grow hn
  have h2 := Wp.of (Q := fun fl e => match fl with
    | .nx => Wp (mRet (xN gSortX (xCons (xVar 1) xNil))) e fun fl _ => fl = .rt (.lst (risL n))
    | fl => fl = .rt (.lst (risL n))) h (wp_ret (by simp [↓bind_eq, he, hs]))
  refine mDef_1 ?_
  refine wp_seq (wp_asg ?_)
  simp [↓bind_eq]
  obtain ⟨fl, e', q1, q2⟩ := h2.ex
  rw [h] at q1
  cases q1
  simp [↓bind_eq] at h
  refine wp_seq (Wp.of (e := e) (a := .nx) ?_ q2)
  simpa [↓bind_eq] using h
end Pl

set_option Elab.async false
set_option linter.all false
set_option maxRecDepth 100000
set_option maxHeartbeats 4000000
/-! Ps11: less share of a rising lot; shares above others -/
namespace Pl
open PySem Mi
theorem law_lots_ok {n : Nat} (hn : n ≤ 4) : Cm.m_law_lots_2 [.v (.int (n : Nat))] = .ok (.lst (risL n)) [.v (.int (n : Nat))] := by
  obtain ⟨e, h, he⟩ := slot1_ok (g_law_lots n (four hn))
  have hs := gSort_grow hn
  have h2 := Wp.of (Q := fun fl e => match fl with
    | .nx => Wp (mRet (xN gSortX (xCons (xVar 1) xNil))) e fun fl _ => fl = .rt (.lst (risL n))
    | fl => fl = .rt (.lst (risL n))) h (wp_ret (by simp [↓bind_eq, he, hs]))
  refine mDef_1 ?_
  refine wp_seq (wp_asg ?_)
  simp [↓bind_eq]
  obtain ⟨fl, e', q1, q2⟩ := h2.ex
  rw [h] at q1
  cases q1
  simp [↓bind_eq] at h
  refine wp_seq (Wp.of (e := e) (a := .nx) ?_ q2)
  simpa [↓bind_eq] using h
def unD : D → List Str
  | .tup ds => ds.map fun d => match d with
    | .str x => x
    | _ => ""
  | _ => []
theorem unD_txs (a : List Str) : unD (.tup (txs a)) = a := by
  simp only [unD, txs, List.map_map]
  exact List.map_id' a
def lessB (n : Nat) (t u : Str → Int) (a : List Str) : Bool := decide (sumT a t * sumT (rowsS n) u < sumT a u * sumT (rowsS n) t)
def lessF (n : Nat) (t u : Str → Int) (d : D) : Option D := if lessB n t u (unD d) = true then some d else none
def lessS (n : Nat) (t u : Str → Int) : Option D := (risL n).findSome? (lessF n t u)
theorem lessS_none {n : Nat} {t u : Str → Int} : lessS n t u = none ↔ ∀ a ∈ growS n, lessB n t u a = false := by
  unfold lessS
  rw [List.findSome?_eq_none_iff]
  constructor
  · intro h a ha
    have := h (.tup (txs a)) (ris_mem.mpr ⟨a, ha, rfl⟩)
    unfold lessF at this
    rw [unD_txs] at this
    cases hb : lessB n t u a with
    | false => rfl
    | true => rw [hb, if_pos rfl] at this; cases this
  · intro h d hd
    obtain ⟨a, ha, rfl⟩ := ris_mem.mp hd
    unfold lessF
    rw [unD_txs, h a ha, if_neg Bool.false_ne_true]
theorem lessS_some {n : Nat} {t u : Str → Int} {d : D} (h : lessS n t u = some d) : ∃ a ∈ growS n, d = .tup (txs a) := by
  obtain ⟨x, hx, e⟩ := List.exists_of_findSome?_eq_some h
  unfold lessF at e
  split at e
  · cases e
    exact ris_mem.mp hx
  · cases e
theorem isN_less (n : Nat) (t u : Str → Int) : gIsN (optD (lessS n t u)) .non = some (.bl (lessS n t u).isNone) := by
  cases h : lessS n t u with
  | none => rfl
  | some d =>
    obtain ⟨a, _, rfl⟩ := lessS_some h
    rfl
theorem less_rp {n : Nat} (hn : n ≤ 4) (t u : Str → Int) : ∃ p, Rp 100 1 (optD (lessS n t u)) p := by
  cases h : lessS n t u with
  | none => exact ⟨_, Rp.non.mono (by omega) (by omega)⟩
  | some d =>
    obtain ⟨a, ha, rfl⟩ := lessS_some h
    have L := grow_lot hn ha
    have hl := L.len hn
    exact ⟨_, ((Rps.all (w := 4) (k := 0) (fun x => D.str x) (fun x => PyData.str x) a fun x hx => row_rp hn (L.inR x hx)).tup).mono (by omega) (by omega)⟩
theorem mulB {i j : Int} (hi : i.natAbs < 2 ^ 45) (hj : j.natAbs < 2 ^ 45) : gMul (.int i) (.int j) = some (.int (i * j)) := gMul_ok (by omega) (by omega)
theorem law_less_ok {n : Nat} (hn : n ≤ 4) {t u : Str → Int} (T : Tab n t) (V : Tab n u) :
    Cm.m_law_less [.v (tabD n t), .v (tabD n u), .v (.int (n : Nat))] = .ok (optD (lessS n t u)) [.v (tabD n t), .v (tabD n u), .v (.int (n : Nat))] := by
  have rl := rows_len hn
  have s1 := jsum_ok (n := n) (t := t) (a := rowsS n) (fun x hx => hx) (by omega) _ (.inr rfl)
  have s2 := jsum_ok (n := n) (t := u) (a := rowsS n) (fun x hx => hx) (by omega) _ (.inr rfl)
  have bt := (T.sum (a := rowsS n) (fun x hx => hx) rl).1
  have bu := (V.sum (a := rowsS n) (fun x hx => hx) rl).1
  have lo := law_lots_ok hn
  refine dv3 (wp_seq (wp_par ?_))
  simp [↓bind_eq, gSort_tab hn, s1, s2]
  refine wp_seq (wp_search (risL n) id (e1 := [.v (tabD n t), .v (tabD n u), .v (.int (n : Nat)), .v (.int (sumT (rowsS n) t)), .v (.int (sumT (rowsS n) u)), .un]) (by simp [↓bind_eq, lo, iterD]) (lessF n t u)
    (fun e => ∃ s5 : Sl, e = [.v (tabD n t), .v (tabD n u), .v (.int (n : Nat)), .v (.int (sumT (rowsS n) t)), .v (.int (sumT (rowsS n) u)), s5] ∧ isIoS s5 = false) ⟨_, rfl, rfl⟩ ?_ ?_ ?_)
  · rintro d hd e ⟨s5, rfl, h5⟩
    obtain ⟨a, ha, rfl⟩ := ris_mem.mp hd
    have L := grow_lot hn ha
    have la := L.len hn
    have a1 := jsum_ok (t := t) L.inR (by omega) _ (.inl rfl)
    have a2 := jsum_ok (t := u) L.inR (by omega) _ (.inl rfl)
    have m1 := mulB (T.sum L.inR la).1 bu
    have m2 := mulB (V.sum L.inR la).1 bt
    refine ⟨[.v (tabD n t), .v (tabD n u), .v (.int (n : Nat)), .v (.int (sumT (rowsS n) t)), .v (.int (sumT (rowsS n) u)), .v (.tup (txs a))], by simp [h5], wp_if ?_⟩
    simp [↓bind_eq, a1, a2, m1, m2, gLt_ii, lessF, lessB, unD_txs]
    by_cases hq : sumT a t * sumT (rowsS n) u < sumT a u * sumT (rowsS n) t
    · simp only [hq, if_true]
      exact wp_ret (by simp [↓bind_eq])
    · simp only [hq, if_false]
      exact wp_nx ⟨rfl, _, rfl, rfl⟩
  · intro d e hd
    show PV _ _ _
    rw [show lessS n t u = some d from hd]
    exact .ret
  · rintro e hd ⟨s5, rfl, _⟩
    refine wp_ret ?_
    rw [show lessS n t u = none from hd]
    simp
    exact .ret
theorem first_less_ok {n : Nat} {ms : List Str} (hn : n ≤ 4) {t u : Str → Int} (M : Names n ms) (T : Tab n t) (V : Tab n u) :
    Cm.m_first_less [.v (shD n ms t), .v (shD n ms u)] = .ok (optD (lessS n t u)) [.v (shD n ms t), .v (shD n ms u)] := by
  have rl := rows_len hn
  have bt := (T.sum (a := rowsS n) (fun x hx => hx) rl).1
  have bu := (V.sum (a := rowsS n) (fun x hx => hx) rl).1
  have lo := rising_lots_ok hn
  have p := prop_many (t := t) M (xVar 0) [.v (shD n ms t), .v (shD n ms u), .un] [.v (shD n ms t), .v (shD n ms u), .un] (by simp)
  refine dv2 (wp_seq (wp_search (risL n) id (e1 := [.v (shD n ms t), .v (shD n ms u), .un]) (by simp [↓bind_eq, -ev_xProp, p, lo, iterD]) (lessF n t u)
    (fun e => ∃ s2 : Sl, e = [.v (shD n ms t), .v (shD n ms u), s2] ∧ isIoS s2 = false) ⟨_, rfl, rfl⟩ ?_ ?_ ?_))
  · rintro d hd e ⟨s2, rfl, h2⟩
    obtain ⟨a, ha, rfl⟩ := ris_mem.mp hd
    have L := grow_lot hn ha
    have la := L.len hn
    have a1 := xAdded (n := n) (ms := ms) (t := t) L.inR (by omega) (.inl rfl) (mo := xVar 0) (ma := xCons (xVar 2) xNil) (env := [.v (shD n ms t), .v (shD n ms u), .v (.tup (txs a))]) (e := [.v (shD n ms t), .v (shD n ms u), .v (.tup (txs a))]) (e2 := [.v (shD n ms t), .v (shD n ms u), .v (.tup (txs a))]) (by simp) (by simp [↓bind_eq])
    have a2 := xAdded (n := n) (ms := ms) (t := u) L.inR (by omega) (.inl rfl) (mo := xVar 1) (ma := xCons (xVar 2) xNil) (env := [.v (shD n ms t), .v (shD n ms u), .v (.tup (txs a))]) (e := [.v (shD n ms t), .v (shD n ms u), .v (.tup (txs a))]) (e2 := [.v (shD n ms t), .v (shD n ms u), .v (.tup (txs a))]) (by simp) (by simp [↓bind_eq])
    have m1 := mulB (T.sum L.inR la).1 bu
    have m2 := mulB (V.sum L.inR la).1 bt
    refine ⟨[.v (shD n ms t), .v (shD n ms u), .v (.tup (txs a))], by simp [h2], wp_if ?_⟩
    simp [↓bind_eq, -ev_xMth, a1, a2, fld_total, m1, m2, gLt_ii, lessF, lessB, unD_txs]
    by_cases hq : sumT a t * sumT (rowsS n) u < sumT a u * sumT (rowsS n) t
    · simp only [hq, if_true]
      exact wp_ret (by simp [↓bind_eq])
    · simp only [hq, if_false]
      exact wp_nx ⟨rfl, _, rfl, rfl⟩
  · intro d e hd
    show PV _ _ _
    rw [show lessS n t u = some d from hd]
    exact .ret
  · rintro e hd ⟨s5, rfl, _⟩
    refine wp_ret ?_
    rw [show lessS n t u = none from hd]
    simp
    exact .ret
theorem gNe_marks {n : Nat} {ms : List Str} (M : Names n ms) (hn : n ≤ 4) : gNe (.tup (txs ms)) (.tup (txs ms)) = some (.bl false) := by
  have ok : ∀ x ∈ ms, okS x = true := fun x hx => okS_name (M.2.2 x hx)
  rw [gNe, eqD_tt ok ok]
  simp
theorem check_two_ok {n : Nat} {ms : List Str} {t u : Str → Int} (M : Names n ms) (hn : n ≤ 4) : Cm.m_check_two [.v (shD n ms t), .v (shD n ms u)] = .ok .non [.v (shD n ms t), .v (shD n ms u)] := by
  have g := gNe_marks M hn
  refine dv2 (wp_seq (wp_drop ?_))
  simp [↓bind_eq, check_shares_ok]
  refine wp_seq (wp_drop ?_)
  simp [↓bind_eq, check_shares_ok]
  refine wp_if ?_
  simp [↓bind_eq, fld_marks, g]
  exact wp_nx .nx
theorem less_at_ok {n : Nat} {ms : List Str} (hn : n ≤ 4) {t u : Str → Int} (M : Names n ms) (T : Tab n t) (V : Tab n u) :
    Cm.m_less_at [.v (shD n ms t), .v (shD n ms u)] = .ok (optD (lessS n t u)) [.v (shD n ms t), .v (shD n ms u)] := by
  refine dv2 (wp_seq (wp_drop ?_))
  simp [↓bind_eq, check_two_ok M hn]
  refine wp_ret ?_
  simp [↓bind_eq, first_less_ok hn M T V]
  exact .ret
theorem is_above_ok {n : Nat} {ms : List Str} (hn : n ≤ 4) {t u : Str → Int} (M : Names n ms) (T : Tab n t) (V : Tab n u) :
    Cm.m_is_above [.v (shD n ms t), .v (shD n ms u)] = .ok (.bl (lessS n t u).isNone) [.v (shD n ms t), .v (shD n ms u)] := by
  refine dv2 (wp_ret ?_)
  simp [↓bind_eq, less_at_ok hn M T V, isN_less]
  exact .ret
/-! ### both above one another -/
theorem less_self (n : Nat) (t : Str → Int) : lessS n t t = none := lessS_none.mpr fun a _ => by simp [lessB]
def upS (n : Nat) (x : Str) : List Str := (rowsS n).filter fun y => overS y x && !(y == x)
theorem g_ups : ∀ n ∈ [0, 1, 2, 3, 4], ∀ x ∈ rowsS n, upS n x ∈ growS n ∧ (x :: upS n x) ∈ growS n := by decide +kernel
theorem sum_cons (x : Str) (l : List Str) (t : Str → Int) : sumT (x :: l) t = t x + sumT l t := by simp [sumT]
theorem sum_scale {l : List Str} {t u : Str → Int} {a b : Int} (h : ∀ x ∈ l, t x * a = u x * b) : sumT l t * a = sumT l u * b := by
  induction l with
  | nil => simp [sumT]
  | cons x l ih =>
    rw [sum_cons, sum_cons, Int.add_mul, Int.add_mul, h x List.mem_cons_self, ih fun y hy => h y (List.mem_cons_of_mem _ hy)]
theorem alike {n : Nat} (hn : n ≤ 4) {t u : Str → Int} : (lessS n t u = none ∧ lessS n u t = none) ↔ ∀ x ∈ rowsS n, t x * sumT (rowsS n) u = u x * sumT (rowsS n) t := by
  constructor
  · rintro ⟨h1, h2⟩ x hx
    rw [lessS_none] at h1 h2
    obtain ⟨g1, g2⟩ := g_ups n (four hn) x hx
    have e : ∀ a ∈ growS n, sumT a t * sumT (rowsS n) u = sumT a u * sumT (rowsS n) t := fun a ha => by
      have q1 := h1 a ha
      have q2 := h2 a ha
      simp only [lessB, decide_eq_false_iff_not] at q1 q2
      omega
    have e1 := e _ g1
    have e2 := e _ g2
    rw [sum_cons, sum_cons, Int.add_mul, Int.add_mul, e1] at e2
    omega
  · intro h
    have e : ∀ a ∈ growS n, sumT a t * sumT (rowsS n) u = sumT a u * sumT (rowsS n) t := fun a ha => sum_scale fun x hx => h x ((grow_lot hn ha).inR x hx)
    refine ⟨lessS_none.mpr fun a ha => ?_, lessS_none.mpr fun a ha => ?_⟩
    · simp only [lessB, e a ha, decide_eq_false_iff_not]; omega
    · simp only [lessB, e a ha, decide_eq_false_iff_not]; omega
end Pl

set_option Elab.async false
set_option linter.all false
set_option maxRecDepth 100000
set_option maxHeartbeats 4000000
/-! Ps12: two tables drawn -/
namespace Pl
open PySem Mi
@[simp] theorem ev_xIterK (j : Nat) (env : En) : xIterK j env = match env[j]? with
  | some (.v d) => .of (keysD d) env
  | _ => .bad := id rfl
theorem keys_tab (n : Nat) (t : Str → Int) : keysD (tabD n t) = some (txs (rowsS n)) := by
  simp only [keysD, tabD, strKs_map]
  rfl
def TwoOk (f : En → Rs D) : Prop := ∀ (m n : Nat) (o : Ob), Bag m o → m + 1000 < 2 ^ 40 → n ≤ 4 → 0 < n → ∃ (o' : Ob) (t u : Str → Int), f [.io o, .v (.int (n : Nat))] = .ok (.tup [tabD n t, tabD n u]) [.io o', .v (.int (n : Nat))] ∧ Bag (m + 400) o' ∧ Tab n t ∧ Tab n u
theorem tupPairs_map (u : Str → Int) : ∀ l : List Str, tupPairs (l.map fun x => .tup [.str x, .int (u x)]) = some (l.map fun x => ((Sum.inr x : L2.Key), D.int (u x)))
  | [] => rfl
  | x :: l => by
    have ih := tupPairs_map u l
    simp [tupPairs, keyOf, ih]
theorem gDictL_map {l : List Str} (u : Str → Int) (nd : l.Nodup) (hl : l.length ≤ 4000) : gDictL [.lst (l.map fun x => .tup [.str x, .int (u x)])] = some (dctS l u) := by
  have h := dctOf_map (fun x => .int (u x)) l [] (by simpa using nd)
  simp only [gDictL, tupPairs_map, Option.bind_some, List.length_map]
  rw [if_pos hl]
  unfold dctOf
  simp only [List.map_nil, List.nil_append] at h
  rw [h]
  rfl
theorem nz_ex {l : List Str} {t : Str → Int} (h : sumT l t ≠ 0) : ∃ x ∈ l, t x ≠ 0 := by
  induction l with
  | nil => exact (h rfl).elim
  | cons x l ih =>
    by_cases hx : t x = 0
    · rw [sum_cons, hx, Int.zero_add] at h
      obtain ⟨y, hy, q⟩ := ih h
      exact ⟨y, List.mem_cons_of_mem _ hy, q⟩
    · exact ⟨x, List.mem_cons_self, hx⟩
theorem tab_of {n : Nat} {u : Str → Int} (h : ∀ x ∈ rowsS n, 0 ≤ u x ∧ u x ≤ 1000000000000) (hz : ∃ x ∈ rowsS n, u x ≠ 0) : Tab n u := ⟨h, (sum_pos fun x hx => (h x hx).1).2 hz⟩
def movedT (u : Str → Int) (x y : Str) (k : Int) : Str → Int := setF (setF u x (u x - k)) y (setF u x (u x - k) y + k)
theorem moved_tab {n : Nat} {u : Str → Int} (T : Tab n u) {x y : Str} (hx : x ∈ rowsS n) (hy : y ∈ rowsS n) {k : Int} (h0 : 0 ≤ k) (h1 : k ≤ u x) (h2 : u y + k ≤ 1000000000000) : Tab n (movedT u x y k) := by
  have bx := T.bd x hx
  have byy := T.bd y hy
  have e1 : movedT u x y k y = if y = x then u x else u y + k := by
    simp only [movedT, setF, if_true]
    split <;> omega
  have e2 : ∀ z, z ≠ y → movedT u x y k z = if z = x then u x - k else u z := fun z hz => by
    simp only [movedT, setF, hz, if_false]
  refine tab_of (fun z hz => ?_) ?_
  · have bz := T.bd z hz
    by_cases hzy : z = y
    · subst hzy
      rw [e1]
      split <;> omega
    · rw [e2 z hzy]
      split <;> omega
  · by_cases hk : k = 0
    · obtain ⟨z, hz, q⟩ := nz_ex T.nz
      refine ⟨z, hz, ?_⟩
      by_cases hzy : z = y
      · subst hzy
        rw [e1]
        split
        · rename_i e; rw [← e]; exact q
        · omega
      · rw [e2 z hzy]
        split
        · rename_i e; rw [← e]; omega
        · exact q
    · refine ⟨y, hy, ?_⟩
      rw [e1]
      split <;> omega
def threeT (t : Str → Int) (x : Str) : Int := if t x * 3 < 1000000000000 then t x * 3 else 1000000000000
theorem three_tab {n : Nat} {t : Str → Int} (T : Tab n t) : Tab n (threeT t) := by
  refine tab_of (fun x hx => ?_) ?_
  · have := T.bd x hx
    unfold threeT
    split <;> omega
  · obtain ⟨z, hz, q⟩ := nz_ex T.nz
    refine ⟨z, hz, ?_⟩
    unfold threeT
    split <;> omega
theorem law_two_ok : TwoOk Cm.m_law_two := by
  intro m n o B hm hn h0
  have rl := rows_len hn
  have nd := rows_nd hn
  have rp : 0 < (txs (rowsS n)).length := by
    have g : ∀ n ∈ [0, 1, 2, 3, 4], 0 < (txs (rowsS n)).length := by decide +kernel
    exact g n (four hn)
  obtain ⟨o1, t, q1, B1, T⟩ := jtable_ok B (by omega) n hn h0
  obtain ⟨o2, way, q2, B2, hw⟩ := jdraw B1 (by omega) 5 (by decide) (by decide)
  replace q2 : Cm.m_law_draw_2 [.io o1, .v (.int 5)] = .ok (.int way) [.io o2, .v (.int 5)] := q2
  obtain ⟨d, o', e1, t1, u1, rfl, B', T1, U1⟩ := io2 (N := 9) (mb := Cm.m_law_two_b) (o := o) (a := .int (n : Nat)) (P := fun d o' => ∃ t u, d = .tup [tabD n t, tabD n u] ∧ Bag (m + 400) o' ∧ Tab n t ∧ Tab n u) (by
    refine wp_seq (wp_asg ?_)
    simp [↓bind_eq, q1, q2]
    refine wp_seq (wp_if ?_)
    have c1 : gLt (.int (way : Nat)) (.int 2) = some (.bl (decide (way < 2))) := by
      rw [gLt_ii]; congr 2; simp; omega
    by_cases w2 : way < 2
    · obtain ⟨o3, u, q3, B3, V⟩ := jtable_ok B2 (by omega) n hn h0
      rw [decide_eq_true w2] at c1
      simp [↓bind_eq, c1]
      refine wp_ret ?_
      simp [↓bind_eq, q3]
      exact .ret ⟨t, u, rfl, B3.mono (by omega), T, V⟩
    · rw [decide_eq_false w2] at c1
      simp [↓bind_eq, c1]
      have gd : gDictL [tabD n t] = some (dctS (rowsS n) t) := rfl
      refine wp_nx (wp_seq (wp_ow ?_))
      simp [↓bind_eq, gd]
      refine wp_seq (wp_if ?_)
      have c2 : gEq (.int (way : Nat)) (.int 2) = some (.bl (way == 2)) := by
        rw [gEq_ii]
        by_cases h : way = 2
        · subst h; rfl
        · rw [show ((way : Int) == 2) = false from beq_eq_false_iff_ne.mpr (by omega), show (way == 2) = false from beq_eq_false_iff_ne.mpr h]
      have c3 : gGt (.int (way : Nat)) (.int 2) = some (.bl (decide (2 < way))) := by
        rw [gGt_ii]; congr 2; simp; omega
      by_cases h2 : way = 2
      · rw [show (way == 2) = true from beq_iff_eq.mpr h2] at c2
        rw [decide_eq_false (show ¬ 2 < way by omega)] at c3
        have l := lcA (v := 6) (e := [.io o2, .v (.int (n : Nat)), .v (tabD n t), .v (.int (way : Nat)), .ow (dctS (rowsS n) t), .un, .un, .un, .un]) (me := xTup (xCons (xVar 6) (xCons (xN gMinB (xCons (x2 Mi.gPow (xC (.int 10)) (xC (.int 12))) (xCons (x2 Mi.gMul (x2 gIx (xVar 2) (xVar 6)) (xC (.int 3))) xNil))) xNil))) rfl (rowsS n) (fun x => .str x) (fun x => .tup [.str x, .int (threeT t x)])
          (fun x hx => by
            have m3 := gMul_ok (i := t x) (j := 3) (by have := tb T hx; omega) (by decide)
            simp [↓bind_eq, tab_ix hx, m3, gPow_10_12, gBest2, threeT]) (by omega)
        replace l : lcL [6] (gSet 6) ttYes (lcPush (xTup (xCons (xVar 6) (xCons (xN gMinB (xCons (x2 Mi.gPow (xC (.int 10)) (xC (.int 12))) (xCons (x2 Mi.gMul (x2 gIx (xVar 2) (xVar 6)) (xC (.int 3))) xNil))) xNil)))) (txs (rowsS n)) [] _ = _ := l
        have gm := gDictL_map (threeT t) nd (by omega)
        simp [↓bind_eq, c2]
        refine wp_ow ?_
        simp [↓bind_eq, keys_tab, l, gm]
        refine wp_seq (wp_if ?_)
        simp [↓bind_eq, c3]
        refine wp_nx (wp_ret ?_)
        simp [↓bind_eq, dct_val]
        exact .ret ⟨t, _, rfl, B2.mono (by omega), T, three_tab T⟩
      · have h3 : 2 < way := by omega
        rw [show (way == 2) = false from beq_eq_false_iff_ne.mpr h2] at c2
        rw [decide_eq_true h3] at c3
        simp [↓bind_eq, c2]
        refine wp_nx (wp_seq (wp_if ?_))
        simp [↓bind_eq, c3]
        obtain ⟨o3, r, q3, B3, hr⟩ := jdraw B2 (by omega) 3 (by decide) (by decide)
        replace q3 : Cm.m_law_draw_2 [.io o2, .v (.int 3)] = .ok (.int r) [.io o3, .v (.int 3)] := q3
        obtain ⟨w, hw⟩ : ∃ w, w = 1 + r := ⟨_, rfl⟩
        have er : (1 : Int) + (r : Int) = (w : Nat) := by omega
        have rn : rngD 0 (w : Nat) = some (rng w) := rngD_nat (by omega)
        refine wp_forD (ds := rng w) (e1 := [.io o3, .v (.int (n : Nat)), .v (tabD n t), .v (.int (way : Nat)), .ow (dctS (rowsS n) t), .un, .un, .un, .un]) (by
            simp [↓bind_eq, q3, er, rn])
          (fun i e => ∃ (o' : Ob) (u : Str → Int) (s5 s6 s7 s8 : Sl), e = [.io o', .v (.int (n : Nat)), .v (tabD n t), .v (.int (way : Nat)), .ow (dctS (rowsS n) u), s5, s6, s7, s8] ∧ Bag (m + 152 + 3 * i) o' ∧ Tab n u ∧ isIoS s5 = false ∧ isIoS s6 = false ∧ isIoS s7 = false ∧ isIoS s8 = false)
          ⟨o3, t, _, _, _, _, rfl, B3.mono (by omega), T, rfl, rfl, rfl, rfl⟩ ?_ ?_
        · rintro i d e hd ⟨o4, u, s5, s6, s7, s8, rfl, B4, U, h5, h6, h7, h8⟩
          obtain ⟨hi, rfl⟩ := rng_get hd
          refine ⟨[.io o4, .v (.int (n : Nat)), .v (tabD n t), .v (.int (way : Nat)), .ow (dctS (rowsS n) u), .v (.int (i : Nat)), s6, s7, s8], by simp [h5], ?_⟩
          obtain ⟨o5, p, q5, B5, hp⟩ := jpick_lst B4 (by omega) (txs (rowsS n)) rp (by rw [len_txs]; omega)
          obtain ⟨o6, p2, q6, B6, hp2⟩ := jpick_lst B5 (by omega) (txs (rowsS n)) rp (by rw [len_txs]; omega)
          obtain ⟨p, ha, rfl⟩ := List.mem_map.mp hp
          obtain ⟨p2, hb, rfl⟩ := List.mem_map.mp hp2
          have hx := or_in hn ha hb
          have hy := and_in hn ha hb
          refine wp_seq (wp_par ?_)
          simp [↓bind_eq, r_law_rows_2 hn, q5, q6, h6, h7]
          refine wp_seq (wp_par ?_)
          simp [↓bind_eq, r_law_or hn ha hb, r_law_and hn ha hb]
          generalize orS p p2 = x at hx
          generalize andS p p2 = y at hy
          have bx := U.bd x hx
          obtain ⟨o7, k, q7, B7, hk⟩ := jdraw B6 (by omega) ((u x).toNat + 1) (by omega) (by omega)
          have eu : u x + 1 = (((u x).toNat + 1 : Nat) : Int) := by omega
          rw [← eu] at q7
          refine wp_seq (wp_asg ?_)
          simp [↓bind_eq, dct_val, tab_ix hx, q7, h8]
          refine wp_if ?_
          have cl : gLe (.int (u y + (k : Int))) (.int 1000000000000) = some (.bl (decide (u y + (k : Int) ≤ 1000000000000))) := gLe_ii _ _
          simp [↓bind_eq, dct_val, tab_ix hy, gPow_10_12, cl]
          have s1 := tab_set (t := u) (z := u x - (k : Int)) nd (by omega) hx
          have s2 : gSto (dctS (rowsS n) (setF u x (u x - (k : Int)))) (.str y) (.int (setF u x (u x - (k : Int)) y + (k : Int))) = some (dctS (rowsS n) (movedT u x y k)) := tab_set (t := setF u x (u x - (k : Int))) nd (by omega) hy
          by_cases hc : u y + (k : Int) ≤ 1000000000000
          · rw [if_pos hc]
            have mt := moved_tab U hx hy (k := (k : Int)) (by omega) (by omega) hc
            refine wp_seq (wp_ev ?_)
            simp [↓bind_eq, dct_val, tab_ix hx, s1]
            refine wp_ev ?_
            simp [↓bind_eq, dct_val, tab_ix hy, s2]
            exact ⟨o7, movedT u x y k, _, _, _, _, ⟨rfl, rfl, rfl, rfl, rfl, rfl⟩, B7.mono (by omega), mt, rfl, rfl, rfl, rfl⟩
          · rw [if_neg hc]
            exact wp_nx ⟨o7, u, _, _, _, _, rfl, B7.mono (by omega), U, rfl, rfl, rfl, rfl⟩
        · rintro e ⟨o4, u, s5, s6, s7, s8, rfl, B4, U, h5, h6, h7, h8⟩
          rw [rng_len] at B4
          refine wp_ret ?_
          simp [↓bind_eq, dct_val]
          exact .ret ⟨t, u, rfl, B4.mono (by omega), T, U⟩)
  exact ⟨o', t1, u1, e1, B', T1, U1⟩
end Pl

set_option Elab.async false
set_option linter.all false
set_option maxRecDepth 100000
set_option maxHeartbeats 4000000
/-! Ps13: dicts by comprehension; the helps of all pairs of rising lots -/
namespace Pl
open PySem Mi
/-! ### dicts by comprehension -/
/-- kd is a key of dicts of the kind t: ky -/
def KeyIs : Bool → D → Ky → Prop
  | false, kd, ky => ∃ k, keyOf kd = some k ∧ ky = kyOf k
  | true, kd, ky => ∃ xs k, kd = .tup xs ∧ keysOf xs = some k ∧ ky = .tup k
theorem sto_key {t : Bool} {ks : List Ky} {vs : List D} {kd z : D} {ky : Ky} (hk : KeyIs t kd ky) (hl : ks.length ≤ 4000) (nd : ks.Nodup) : gSto (.dct t ks vs) kd z = some (.dct t (putKy ky z ks vs).1 (putKy ky z ks vs).2) := by
  have := sizeBig
  cases t with
  | false =>
    obtain ⟨k, h, rfl⟩ := hk
    have e : gSto (.dct false ks vs) kd z = if ks.length < sizeLine ∧ ks.Nodup then (keyOf kd).map fun k => let r := putKy (kyOf k) z ks vs; Ob.dct false r.1 r.2 else none := by cases kd <;> rfl
    rw [e, if_pos ⟨by omega, nd⟩, h]
    rfl
  | true =>
    obtain ⟨xs, k, rfl, h, rfl⟩ := hk
    simp only [gSto]
    rw [if_pos ⟨by omega, nd⟩, h]
    rfl
theorem putKy_app {k : Ky} {z : D} : ∀ {ks : List Ky} {vs : List D}, ks.length = vs.length → k ∉ ks → putKy k z ks vs = (ks ++ [k], vs ++ [z])
  | [], [], _, _ => rfl
  | [], _ :: _, h, _ => by simp at h
  | _ :: _, [], h, _ => by simp at h
  | l :: ks, v :: vs, h, n => by
    simp only [List.mem_cons, not_or] at n
    have ih := putKy_app (k := k) (z := z) (ks := ks) (vs := vs) (by simpa using h) n.2
    simp only [putKy]
    rw [if_neg (Ne.symm n.1), ih]
    rfl
theorem dcA {α : Type} {t : Bool} {v : Nat} {mk mv : En → Rs D} {e : En} (hv : e[v]? = some .un) (a : List α) (enc kd g : α → D) (ky : α → Ky) (nd : (a.map ky).Nodup) (hl : a.length ≤ 4000) (hky : ∀ x ∈ a, KeyIs t (kd x) (ky x))
    (hk : ∀ x ∈ a, mk (e.set v (.v (enc x))) = .ok (kd x) (e.set v (.v (enc x)))) (hg : ∀ x ∈ a, mv (e.set v (.v (enc x))) = .ok (g x) (e.set v (.v (enc x)))) : dcL [v] (gSet v) ttYes mk mv (a.map enc) (.dct t [] []) e = .ok (.dct t (a.map ky) (a.map g)) e := by
  have core : ∀ (b p : List α), a = p ++ b → dcL [v] (gSet v) ttYes mk mv (b.map enc) (.dct t (p.map ky) (p.map g)) e = .ok (.dct t (a.map ky) (a.map g)) e := by
    intro b
    induction b with
    | nil => intro p h; simp at h; subst h; simp [dcL]
    | cons x b ih =>
      intro p h
      have hx : x ∈ a := by rw [h]; simp
      have ndp : (p.map ky).Nodup ∧ ky x ∉ p.map ky := by
        rw [h, List.map_append, List.map_cons] at nd
        have q := List.nodup_append.mp nd
        exact ⟨q.1, fun m => q.2.2 _ m _ List.mem_cons_self rfl⟩
      have lp : p.length ≤ 4000 := by rw [h] at hl; simp at hl; omega
      have st := sto_key (vs := p.map g) (z := g x) (hky x hx) (by simpa using lp) ndp.1
      rw [putKy_app (by simp) ndp.2] at st
      have s1 : dcStep [v] (gSet v) ttYes mk mv (enc x) (.dct t (p.map ky) (p.map g)) e = .ok (.dct t ((p ++ [x]).map ky) ((p ++ [x]).map g)) e := by
        have hs : gSet v (enc x) e = some (e.set v (.v (enc x))) := by simp [hv]
        have w : wipeE (e.set v (.v (enc x))) [v] = e := set_un hv
        simp only [dcStep, hs, ttYes, hk x hx, hg x hx, st, w]
        simp
      simp only [List.map_cons, dcL, s1]
      exact ih (p ++ [x]) (by simp [h])
  have := core a [] (by simp)
  simpa using this
theorem findK_gen {α : Type} (ky : α → Ky) (g : α → D) : ∀ (a : List α), (a.map ky).Nodup → ∀ x ∈ a, findK (ky x) (a.map ky) (a.map g) = some (g x)
  | [], _, x, h => by cases h
  | y :: a, nd, x, h => by
    rw [List.map_cons, List.nodup_cons] at nd
    rcases List.mem_cons.mp h with rfl | hx
    · simp [findK]
    · have ne : ky y ≠ ky x := fun e => nd.1 (by rw [e]; exact List.mem_map_of_mem hx)
      simp only [List.map_cons, findK]
      rw [if_neg ne]
      exact findK_gen ky g a nd.2 x hx
def kyL (a : List Str) : Ky := .tup (a.map Sum.inr)
theorem keysOf_txs : ∀ a : List Str, keysOf (txs a) = some (a.map Sum.inr)
  | [] => rfl
  | x :: a => by
    show keysOf (.str x :: txs a) = _
    simp [keysOf, keyOf, keysOf_txs a]
theorem kyL_is (a : List Str) : KeyIs true (.tup (txs a)) (kyL a) := ⟨_, _, rfl, keysOf_txs a, rfl⟩
theorem inr_inj {a b : List Str} (h : (a.map Sum.inr : List L2.Key) = b.map Sum.inr) : a = b := by
  induction a generalizing b with
  | nil => cases b with
    | nil => rfl
    | cons y b => simp at h
  | cons x a ih => cases b with
    | nil => simp at h
    | cons y b =>
      simp only [List.map_cons, List.cons.injEq] at h
      obtain ⟨h1, h2⟩ := h
      cases h1
      rw [ih h2]
theorem kyL_inj {a b : List Str} (h : kyL a = kyL b) : a = b := by
  unfold kyL at h
  exact inr_inj (Ky.tup.inj h)
theorem nd_map {α β : Type} {f : α → β} (hf : ∀ a b, f a = f b → a = b) {l : List α} (h : l.Nodup) : (l.map f).Nodup := List.pairwise_map.mpr (List.Pairwise.imp (fun {a b} q e => q (hf _ _ e)) h)
def sumsD (l : List (List Str)) (t : Str → Int) : D := .dct true (l.map kyL) (l.map fun a => .int (sumT a t))
theorem sums_ix {l : List (List Str)} {t : Str → Int} {a : List Str} (nd : l.Nodup) (h : a ∈ l) : gIx (sumsD l t) (.tup (txs a)) = some (.int (sumT a t)) := by
  have f := findK_gen kyL (fun a => D.int (sumT a t)) l (nd_map (fun _ _ => kyL_inj) nd) a h
  unfold kyL at f
  simp only [gIx, sumsD, getK, keysOf_txs, Option.map_some]
  show (some (findK (.tup (a.map Sum.inr)) (l.map kyL) _)).bind id = _
  unfold kyL
  rw [f]
  rfl
def insD (a : List Str) : D := .dct false (a.map Ky.str) (a.map fun _ => .bl true)
theorem find_ins (x : Str) : ∀ a : List Str, (findK (.str x) (a.map Ky.str) (a.map fun _ => D.bl true)).isSome = decide (x ∈ a)
  | [] => rfl
  | y :: a => by
    have ih := find_ins x a
    simp only [List.map_cons, findK]
    by_cases e : y = x
    · subst e; simp
    · rw [if_neg (by simpa using e), ih]
      simp [Ne.symm e]
theorem ins_in (x : Str) (a : List Str) : gIn (.str x) (insD a) = some (.bl (decide (x ∈ a))) := by
  have h := find_ins x a
  simp only [gIn, gInB, insD, getK, keyOf, kyOf, Option.map_some, h]
/-! ### the lots -/
def risS (n : Nat) : List (List Str) := (risL n).map unD
theorem ris_enc (n : Nat) : risL n = (risS n).map fun a => .tup (txs a) := by
  unfold risS
  rw [List.map_map]
  have : (risL n).map (fun d => D.tup (txs (unD d))) = (risL n).map id := List.map_congr_left fun d hd => by
    obtain ⟨a, _, rfl⟩ := ris_mem.mp hd
    rw [unD_txs]
    rfl
  rw [List.map_id] at this
  exact this.symm
theorem risS_mem {n : Nat} {a : List Str} : a ∈ risS n ↔ a ∈ growS n := by
  unfold risS
  rw [List.mem_map]
  constructor
  · rintro ⟨d, hd, rfl⟩
    obtain ⟨b, hb, rfl⟩ := ris_mem.mp hd
    rw [unD_txs]
    exact hb
  · intro h
    exact ⟨_, ris_mem.mpr ⟨a, h, rfl⟩, unD_txs a⟩
theorem g_grow3 : ∀ n ∈ [0, 1, 2, 3], (growS n).length ≤ 20 ∧ (growS n).Nodup ∧ ∀ a ∈ growS n, ∀ b ∈ growS n, (b.filter fun x => decide (x ∈ a)) ∈ growS n := by decide +kernel
theorem three {n : Nat} (h : n ≤ 3) : n ∈ [0, 1, 2, 3] := by
  have : n = 0 ∨ n = 1 ∨ n = 2 ∨ n = 3 := by omega
  rcases this with rfl | rfl | rfl | rfl <;> simp
theorem risS_len {n : Nat} (hn : n ≤ 3) : (risS n).length ≤ 20 := by
  unfold risS risL growD
  rw [List.length_map, List.length_mergeSort, List.length_map]
  exact (g_grow3 n (three hn)).1
theorem tup_inj {a b : List Str} (h : D.tup (txs a) = D.tup (txs b)) : a = b := by
  have := congrArg unD h
  rwa [unD_txs, unD_txs] at this
theorem risS_nd {n : Nat} (hn : n ≤ 3) : (risS n).Nodup := by
  have h : (risL n).Nodup := (List.mergeSort_perm _ _).nodup_iff.mpr (nd_map (fun _ _ => tup_inj) (g_grow3 n (three hn)).2.1)
  rw [ris_enc] at h
  have := List.pairwise_map.mp h
  exact this.imp fun {a b} q e => q (by rw [e])
theorem risS_both {n : Nat} (hn : n ≤ 3) {a b : List Str} (ha : a ∈ risS n) (hb : b ∈ risS n) : (b.filter fun x => decide (x ∈ a)) ∈ risS n := risS_mem.mpr ((g_grow3 n (three hn)).2.2 a (risS_mem.mp ha) b (risS_mem.mp hb))
theorem risS_lot {n : Nat} (hn : n ≤ 4) {a : List Str} (ha : a ∈ risS n) : Lot n a := grow_lot hn (risS_mem.mp ha)
/-- what two lots have in common, from either side -/
theorem both_comm {n : Nat} (hn : n ≤ 4) {a b : List Str} (ha : Lot n a) (hb : Lot n b) : (b.filter fun x => decide (x ∈ a)) = a.filter fun x => decide (x ∈ b) := by
  have e1 := lot_filter hn ha
  have e2 := lot_filter hn hb
  generalize hr : rowsS n = r at e1 e2
  have h1 : (b.filter fun x => decide (x ∈ a)) = r.filter fun x => decide (x ∈ a) && decide (x ∈ b) := by
    conv => lhs; rw [e2]
    rw [List.filter_filter]
  have h2 : (a.filter fun x => decide (x ∈ b)) = r.filter fun x => decide (x ∈ b) && decide (x ∈ a) := by
    conv => lhs; rw [e1]
    rw [List.filter_filter]
  rw [h1, h2]
  exact List.filter_congr fun x _ => Bool.and_comm _ _
/-! ### triples of the help and both lots -/
abbrev Tr := Int × List Str × List Str
def encT (x : Tr) : D := .tup [.int x.1, .tup (txs x.2.1), .tup (txs x.2.2)]
def trOf (n : Nat) (t : Str → Int) (a b : List Str) : Tr := (helpZ n t a b, a, b)
def rowT (n : Nat) (t : Str → Int) (i : Nat) : List Tr := ((risS n).drop i).map (trOf n t ((risS n).getD i []))
def preT (n : Nat) (t : Str → Int) (i : Nat) : List Tr := (List.range i).flatMap (rowT n t)
def helpsT (n : Nat) (t : Str → Int) : List Tr := preT n t (risS n).length
theorem preT_succ (n : Nat) (t : Str → Int) (i : Nat) : preT n t (i + 1) = preT n t i ++ rowT n t i := by
  unfold preT
  rw [List.range_succ, List.flatMap_append]
  simp
theorem rowT_len {n : Nat} (hn : n ≤ 3) (t : Str → Int) (i : Nat) : (rowT n t i).length ≤ 20 := by
  unfold rowT
  have := risS_len hn
  simp
  omega
theorem preT_len {n : Nat} (hn : n ≤ 3) (t : Str → Int) (i : Nat) : (preT n t i).length ≤ 20 * i := by
  induction i with
  | zero => simp [preT]
  | succ i ih =>
    rw [preT_succ, List.length_append]
    have := rowT_len hn t i
    omega
theorem risS_get {n i : Nat} {d : D} (h : (risL n)[i]? = some d) : i < (risS n).length ∧ d = .tup (txs ((risS n).getD i [])) ∧ (risS n).getD i [] ∈ risS n := by
  rw [ris_enc, List.getElem?_map] at h
  obtain ⟨a, ha, rfl⟩ := Option.map_eq_some_iff.mp h
  have hi := (List.getElem?_eq_some_iff.mp ha).1
  rw [List.getD_eq_getElem?_getD, ha, Option.getD_some]
  exact ⟨hi, rfl, List.mem_of_getElem? ha⟩
theorem rowT_get {n i j : Nat} {t : Str → Int} {d : D} (h : ((risL n).drop i)[j]? = some d) : ∃ b, b ∈ risS n ∧ d = .tup (txs b) ∧ (rowT n t i)[j]? = some (trOf n t ((risS n).getD i []) b) := by
  rw [ris_enc, List.getElem?_drop, List.getElem?_map] at h
  obtain ⟨b, hb, rfl⟩ := Option.map_eq_some_iff.mp h
  refine ⟨b, List.mem_of_getElem? hb, rfl, ?_⟩
  unfold rowT
  rw [List.getElem?_map, List.getElem?_drop, hb]
  rfl
theorem enc_snoc (p : List Tr) (x : Tr) : p.map encT ++ [encT x] = (p ++ [x]).map encT := by simp
theorem risL_len (n : Nat) : (risL n).length = (risS n).length := by simp [risS]
theorem help_big {n : Nat} {t : Str → Int} (T : Tab n t) (hn : n ≤ 4) {a b : List Str} (ha : Lot n a) (hb : Lot n b) : (helpZ n t a b).natAbs < 2 ^ 100 := by
  have l1 := ha.len hn
  have l2 := hb.len hn
  have rl := rows_len hn
  have lf : (a.filter fun x => decide (x ∈ b)).length ≤ 16 := Nat.le_trans (List.length_filter_le _ _) l1
  obtain ⟨b1, p1⟩ := T.sum (filter_in ha.inR fun x => decide (x ∈ b)) lf
  obtain ⟨b2, p2⟩ := T.sum (a := rowsS n) (fun x hx => hx) rl
  obtain ⟨b3, p3⟩ := T.sum ha.inR l1
  obtain ⟨b4, p4⟩ := T.sum hb.inR l2
  unfold helpZ
  have h1 : (sumT (rowsS n) t * sumT (a.filter fun x => decide (x ∈ b)) t).natAbs < 2 ^ 90 := by
    rw [Int.natAbs_mul]
    calc _ < 2 ^ 45 * 2 ^ 45 := Nat.mul_lt_mul'' b2 b1
      _ = 2 ^ 90 := by decide
  have h2 : (sumT a t * sumT b t).natAbs < 2 ^ 90 := by
    rw [Int.natAbs_mul]
    calc _ < 2 ^ 45 * 2 ^ 45 := Nat.mul_lt_mul'' b3 b4
      _ = 2 ^ 90 := by decide
  omega

/-- what stands in the i-th row's j-th turn -/
def accT (n : Nat) (t : Str → Int) (i j : Nat) : List D := (preT n t i ++ (rowT n t i).take j).map encT
theorem accT_0 (n : Nat) (t : Str → Int) (i : Nat) : accT n t i 0 = (preT n t i).map encT := by simp [accT]
theorem accT_succ {n i j : Nat} {t : Str → Int} {x : Tr} (h : (rowT n t i)[j]? = some x) : accT n t i j ++ [encT x] = accT n t i (j + 1) := by
  unfold accT
  rw [take_snoc h, ← List.append_assoc, List.map_append (l₂ := [x])]
  rfl
theorem accT_len {n : Nat} (hn : n ≤ 3) (t : Str → Int) {i : Nat} (hi : i ≤ 20) (j : Nat) : (accT n t i j).length ≤ 1000 := by
  unfold accT
  have h1 := rowT_len hn t i
  have h2 := preT_len hn t i
  rw [List.length_map, List.length_append, List.length_take]
  omega
theorem accT_end (n : Nat) (t : Str → Int) (i : Nat) : accT n t i ((risL n).drop i).length = (preT n t (i + 1)).map encT := by
  unfold accT
  rw [List.take_of_length_le (by unfold rowT; simp [risL_len]), ← preT_succ]
@[simp] theorem ev_mDc (t : Bool) (vs : List Nat) (mi : En → Rs (List D)) (mg : D → En → Option En) (mt : En → Rs Bool) (mk mv : En → Rs D) (env : En) : mDc t vs mi mg mt mk mv env = (mi env).bind fun ds e1 => if okVs e1 vs = true then (match dcL vs mg mt mk mv ds (.dct t [] []) (wipeE e1 vs) with
  | .ok o e2 => .ok o (backE e1 e2 vs)
  | _ => .bad) else .bad := id rfl
@[simp] theorem val_dct (t : Bool) (ks : List Ky) (vs : List D) : (Ob.dct t ks vs).val = .dct t ks vs := id rfl
theorem row_step {n : Nat} {t : Str → Int} {sh : D} (hn : n ≤ 3) (T : Tab n t) (htot : gFld "Shares" "total" sh = some (.int (sumT (rowsS n) t))) {i : Nat} (hi : i < (risS n).length) (ha : (risS n).getD i [] ∈ risS n) {s7 s8 : Sl} (h7 : isIoS s7 = false) (h8 : isIoS s8 = false) {Q : Fl → En → Prop}
    (fin : ∀ s7 s8 : Sl, isIoS s7 = false → isIoS s8 = false → Q .nx [.v sh, .v (.lst (risL n)), .v (sumsD (risS n) t), .ow (.lst ((preT n t (i + 1)).map encT)), .v (.int (i : Nat)), .v (.tup (txs ((risS n).getD i []))), .v (insD ((risS n).getD i [])), s7, s8, .un, .un]) :
    Wp (mFor (xIter (xSl (xVar 1) (oSome (xVar 4)) oNone)) (gSet 7) (mSeq (mAsg (gSet 8) (xN gTuple (xCons (xVal (mLc [10] (xIter (xVar 7)) (gSet 10) (tB1 (x2 gIn (xVar 10) (xVar 6))) (lcPush (xVar 10)))) xNil)))
  (mDrop (xMeth 3 gApp (xCons (xTup (xCons (x2 Mi.gSub (x2 Mi.gMul (x1 (gFld "Shares" "total") (xVar 0)) (x2 gIx (xVar 2) (xVar 8))) (x2 Mi.gMul (x2 gIx (xVar 2) (xVar 5)) (x2 gIx (xVar 2) (xVar 7)))) (xCons (xVar 5) (xCons (xVar 7) xNil)))) xNil)))))
      [.v sh, .v (.lst (risL n)), .v (sumsD (risS n) t), .ow (.lst ((preT n t i).map encT)), .v (.int (i : Nat)), .v (.tup (txs ((risS n).getD i []))), .v (insD ((risS n).getD i [])), s7, s8, .un, .un] Q := by
  have hn4 : n ≤ 4 := by omega
  have nd := risS_nd hn
  have rl := rows_len hn4
  have ln := risL_len n
  have len := risS_len hn
  have hp := preT_len hn t i
  generalize ea : (risS n).getD i [] = a at ha fin ⊢
  have La := risS_lot hn4 ha
  have cut : cutL (risL n) (some ((i : Nat) : Int)) none = (risL n).drop i := cut_from (by omega)
  refine wp_forD (ds := (risL n).drop i) (e1 := [.v sh, .v (.lst (risL n)), .v (sumsD (risS n) t), .ow (.lst ((preT n t i).map encT)), .v (.int (i : Nat)), .v (.tup (txs a)), .v (insD a), s7, s8, .un, .un]) (by simp [↓bind_eq, isInt, gSl, cut, iterD])
    (fun j e => ∃ s7 s8 : Sl, e = [.v sh, .v (.lst (risL n)), .v (sumsD (risS n) t), .ow (.lst (accT n t i j)), .v (.int (i : Nat)), .v (.tup (txs a)), .v (insD a), s7, s8, .un, .un] ∧ isIoS s7 = false ∧ isIoS s8 = false)
    ⟨s7, s8, by rw [accT_0], h7, h8⟩ ?_ ?_
  · rintro j d e hd ⟨s7, s8, rfl, h7, h8⟩
    obtain ⟨b, hb, rfl, hr⟩ := rowT_get (t := t) hd
    rw [ea] at hr
    have Lb := risS_lot hn4 hb
    have lb := Lb.len hn4
    refine ⟨[.v sh, .v (.lst (risL n)), .v (sumsD (risS n) t), .ow (.lst (accT n t i j)), .v (.int (i : Nat)), .v (.tup (txs a)), .v (insD a), .v (.tup (txs b)), s8, .un, .un], by simp [h7], ?_⟩
    have l := lcT (v := 10) (e := [.v sh, .v (.lst (risL n)), .v (sumsD (risS n) t), .ow (.lst (accT n t i j)), .v (.int (i : Nat)), .v (.tup (txs a)), .v (insD a), .v (.tup (txs b)), s8, .un, .un]) (mt := tB1 (x2 gIn (xVar 10) (xVar 6))) (me := xVar 10) rfl b (fun x => decide (x ∈ a)) (fun x => .str x) (fun x hx => by simp [↓bind_eq, ins_in]) (fun x hx _ => by simp) (by omega)
    rw [filter_map_str] at l
    have bth := risS_both hn ha hb
    have e1 := sums_ix (t := t) nd bth
    have e2 := sums_ix (t := t) nd ha
    have e3 := sums_ix (t := t) nd hb
    have lf : (b.filter fun x => decide (x ∈ a)).length ≤ 16 := Nat.le_trans (List.length_filter_le _ _) lb
    have m1 := mulB (T.sum (a := rowsS n) (fun x hx => hx) rl).1 (T.sum (filter_in Lb.inR fun x => decide (x ∈ a)) lf).1
    have m2 := mulB (T.sum La.inR (La.len hn4)).1 (T.sum Lb.inR lb).1
    refine wp_seq (wp_asg ?_)
    simp [↓bind_eq, iterD, l, gTuple, h8]
    refine wp_drop ?_
    have ga := gApp_ok (ds := accT n t i j) (d := encT (trOf n t a b)) (by
      have := accT_len hn t (i := i) (by omega) j
      omega)
    have eh : Mi.gSub (.int (sumT (rowsS n) t * sumT (b.filter fun x => decide (x ∈ a)) t)) (.int (sumT a t * sumT b t)) = some (.int (helpZ n t a b)) := by
      simp only [Mi.gSub, helpZ, both_comm hn4 La Lb]
    have sc := accT_succ hr
    simp only [encT, trOf] at ga sc
    simp [↓bind_eq, htot, e1, e2, e3, m1, m2, eh, ga]
    exact ⟨_, _, ⟨sc, rfl, rfl⟩, rfl, rfl⟩
  · rintro e ⟨s7, s8, rfl, h7, h8⟩
    rw [accT_end]
    exact fin s7 s8 h7 h8
theorem all_helps_ok {n : Nat} {ms : List Str} {t : Str → Int} (M : Names n ms) (T : Tab n t) (hn : n ≤ 3) : Cm.m_all_helps [.v (shD n ms t)] = .ok (.lst ((helpsT n t).map encT)) [.v (shD n ms t)] := by
  have hn4 : n ≤ 4 := by omega
  have lo := rising_lots_ok hn4
  have len := risS_len hn
  have nd := risS_nd hn
  have p := prop_many (t := t) M (xVar 0) [.v (shD n ms t), .un, .un, .un, .un, .un, .un, .un, .un, .un, .un] [.v (shD n ms t), .un, .un, .un, .un, .un, .un, .un, .un, .un, .un] (by simp)
  have dc := dcA (t := true) (v := 9) (mk := xVar 9) (mv := xMth "Shares" "added" Cm.m_Shares_added (xVar 0) (xCons (xVar 9) xNil)) (e := [.v (shD n ms t), .v (.lst (risL n)), .un, .un, .un, .un, .un, .un, .un, .un, .un]) rfl (risS n) (fun a => .tup (txs a)) (fun a => .tup (txs a)) (fun a => .int (sumT a t)) kyL
    (nd_map (fun _ _ => kyL_inj) nd) (by omega) (fun a _ => kyL_is a) (fun a _ => by simp) (fun a ha => by
      have L := risS_lot hn4 ha
      have la := L.len hn4
      have a1 := xAdded (n := n) (ms := ms) (t := t) L.inR (by omega) (.inl rfl) (mo := xVar 0) (ma := xCons (xVar 9) xNil) (env := [.v (shD n ms t), .v (.lst (risL n)), .un, .un, .un, .un, .un, .un, .un, .v (.tup (txs a)), .un]) (e := [.v (shD n ms t), .v (.lst (risL n)), .un, .un, .un, .un, .un, .un, .un, .v (.tup (txs a)), .un]) (e2 := [.v (shD n ms t), .v (.lst (risL n)), .un, .un, .un, .un, .un, .un, .un, .v (.tup (txs a)), .un]) (by simp) (by simp [↓bind_eq])
      simpa using a1)
  rw [← ris_enc] at dc
  refine dv1 (wp_seq (wp_asg ?_))
  simp [↓bind_eq, -ev_xProp, p, lo]
  refine wp_seq (wp_asg ?_)
  simp [↓bind_eq, iterD, dc, -ev_xMth]
  refine wp_seq (wp_ow ?_)
  simp [↓bind_eq]
  refine wp_seq (wp_forD (ds := enumD (risL n)) (e1 := [.v (shD n ms t), .v (.lst (risL n)), .v (sumsD (risS n) t), .ow (.lst []), .un, .un, .un, .un, .un, .un, .un]) (by simp [↓bind_eq, iterD, sumsD])
    (fun i e => ∃ s4 s5 s6 s7 s8 : Sl, e = [.v (shD n ms t), .v (.lst (risL n)), .v (sumsD (risS n) t), .ow (.lst ((preT n t i).map encT)), s4, s5, s6, s7, s8, .un, .un] ∧ isIoS s4 = false ∧ isIoS s5 = false ∧ isIoS s6 = false ∧ isIoS s7 = false ∧ isIoS s8 = false)
    ⟨_, _, _, _, _, rfl, rfl, rfl, rfl, rfl, rfl⟩ ?_ ?_)
  · rintro i d e hd ⟨s4, s5, s6, s7, s8, rfl, h4, h5, h6, h7, h8⟩
    obtain ⟨x, hx, rfl⟩ := enum_get hd
    obtain ⟨hi, rfl, ha⟩ := risS_get hx
    refine ⟨[.v (shD n ms t), .v (.lst (risL n)), .v (sumsD (risS n) t), .ow (.lst ((preT n t i).map encT)), .v (.int (i : Nat)), .v (.tup (txs ((risS n).getD i []))), s6, s7, s8, .un, .un], by simp [h4, h5], ?_⟩
    have La := risS_lot hn4 ha
    have la := La.len hn4
    have dc2 := dcA (t := false) (v := 10) (mk := xVar 10) (mv := xC (.bl true)) (e := [.v (shD n ms t), .v (.lst (risL n)), .v (sumsD (risS n) t), .ow (.lst ((preT n t i).map encT)), .v (.int (i : Nat)), .v (.tup (txs ((risS n).getD i []))), s6, s7, s8, .un, .un]) rfl ((risS n).getD i []) (fun x => .str x) (fun x => .str x) (fun _ => .bl true) Ky.str
      (nodup_ky ((rows_nd hn4).sublist La)) (by omega) (fun x _ => ⟨_, rfl, rfl⟩) (fun x _ => by simp) (fun x _ => by simp)
    replace dc2 : dcL [10] (gSet 10) ttYes (xVar 10) (xC (.bl true)) (txs ((risS n).getD i [])) (.dct false [] []) _ = _ := dc2
    refine wp_seq (wp_asg ?_)
    simp [↓bind_eq, iterD, dc2, h6, -List.getD_eq_getElem?_getD]
    refine row_step hn T fld_total hi ha h7 h8 fun s7 s8 h7 h8 => ?_
    exact ⟨_, _, _, _, _, rfl, rfl, rfl, rfl, h7, h8⟩
  · rintro e ⟨s4, s5, s6, s7, s8, rfl, h4, h5, h6, h7, h8⟩
    rw [enum_len, risL_len]
    refine wp_ret ?_
    simp [↓bind_eq]
    exact .ret
end Pl

set_option Elab.async false
set_option linter.all false
set_option maxRecDepth 100000
set_option maxHeartbeats 4000000
/-! the mirrors of the defs of k33 alone; printed by gen.py -/
namespace Lk33
open PySem Mi
def m_law_due_b : En → Rs Fl :=
  (mSeq (mAsg (gSet 2) (xVal (mLc [4] (xIter (xCall Cm.m_law_helps (qVal (xVar 0) (qVal (xVar 1) qNil)))) (gSet 4) (tB1 (x2 gLt (x2 gIx (xVar 4) (xC (.int 0))) (xC (.int 0)))) (lcPush (xVar 4)))))
  (mSeq (mIf (tB1 (x2 gEq (xVar 2) (xLst xNil))) (mRet (xC .non)) mNx)
  (mSeq (mAsg (gSet 3) (xN gMin1 (xCons (xVal (mLc [4] (xIter (xVar 2)) (gSet 4) ttYes (lcPush (x2 gIx (xVar 4) (xC (.int 0)))))) xNil)))
  (mRet (x2 gIx (xVal (mLc [5, 6, 7] (xIter (xVar 2)) (gUnp 3 (gsCons (gSet 5) (gsCons (gSet 6) (gsCons (gSet 7) gsNil)))) (tB1 (x2 gEq (xVar 5) (xVar 3))) (lcPush (xTup (xCons (xVar 6) (xCons (xVar 7) xNil)))))) (xC (.int 0)))))))
def m_law_due : En → Rs D := mDef 2 8 m_law_due_b
def m_law_right_f1 : En → Rs Fl :=
  (mSeq (mAsg (gSet 2) (xCall Cm.m_law_pick (qIo 0 (qVal (xLst (xCons (xC (.int 1)) (xCons (xC (.int 2)) (xCons (xC (.int 2)) (xCons (xC (.int 3)) (xCons (xC (.int 3)) xNil)))))) qNil))))
  (mSeq (mAsg (gSet 3) (xCall Cm.m_law_table (qIo 0 (qVal (xVar 2) qNil))))
  (mSeq (mPar [4, 5] (xCons (xCall Cm.m_law_made (qVal (xCall Cm.m_law_names (qIo 0 (qVal (xVar 2) qNil))) (qVal (xVar 3) qNil))) (xCons (xCall m_law_due (qVal (xVar 3) (qVal (xVar 2) qNil))) xNil)))
  (mSeq (mIf (tB1 (x2 gNe (xN gRepr (xCons (xLst (xCons (xCall Cm.m_most_hindering (qVal (xVar 4) qNil)) (xCons (xCall Cm.m_most_hindering (qPick [0] (qVal (xVar 4) qNil))) xNil))) xNil)) (xN gRepr (xCons (xLst (xCons (xVar 5) (xCons (xVar 5) xNil))) xNil)))) (mRet (xC (.bl false))) mNx)
  (mIf (tB1 (x2 gNe (x2 gIsN (xCall Cm.m_hindering (qVal (xVar 4) qNil)) (xC .non)) (x2 gIsN (xVar 5) (xC .non)))) (mRet (xC (.bl false))) mNx)))))
def m_law_right_b : En → Rs Fl :=
  (mSeq (mFor (xRng1 (xCons (xC (.int 6)) xNil)) (gSet 1) m_law_right_f1)
  (mRet (xC (.bl true))))
def m_law_right : En → Rs D := mDef 1 6 m_law_right_b
def m_law_b : En → Rs Fl :=
  (mRet (xN gAll (xCons (xVal (mLc [1] (xRng1 (xCons (xN gMaxB (xCons (xC (.int 2)) (xCons (xN gMinB (xCons (xN gLen (xCons (xVar 0) xNil)) (xCons (xC (.int 5)) xNil))) xNil))) xNil)) (gSet 1) ttYes (lcPush (xCallF m_law_right (xCallN Cm.m_law_jar (xCons (xVar 0) (xCons (xVar 1) xNil))))))) xNil)))
def m_law : En → Rs D := mDef 1 2 m_law_b
end Lk33

set_option Elab.async false
set_option linter.all false
set_option maxRecDepth 100000
set_option maxHeartbeats 4000000
/-! the defs of k33 keep their mirrors; printed by gen.py -/
namespace Lk33
open PySem PySem.Spec Mi L2
abbrev top (i : Nat) : Stmt := PySem.Challenge.pw_wishesrise_k33_whole_most_hindering_lots.main.body.getD i (.Pass ⟨0, 0, 0, 0⟩)
abbrev s_law_draw : Stmt := top 39
abbrev s_law_pick : Stmt := top 40
abbrev s_law_rows : Stmt := top 42
abbrev s_law_fitted : Stmt := top 43
abbrev s_law_table : Stmt := top 44
abbrev s_is_name : Stmt := top 17
abbrev s_wrong_mark : Stmt := top 18
abbrev s_check_marks : Stmt := top 19
abbrev s_is_integer : Stmt := top 15
abbrev s_is_between : Stmt := top 16
abbrev s_wrong_number : Stmt := top 26
abbrev s_check_numbers : Stmt := top 27
abbrev s_all_rows : Stmt := top 20
abbrev s_Shares___init__ : Stmt := inClass (top 30) 0
abbrev s_law_made : Stmt := top 45
abbrev s_law_lots : Stmt := top 46
abbrev s_law_sum : Stmt := top 47
abbrev s_law_help : Stmt := top 48
abbrev s_law_helps : Stmt := top 49
abbrev s_law_due : Stmt := top 50
abbrev s_law_names : Stmt := top 41
abbrev s_check_shares : Stmt := top 31
abbrev s_rising_lots : Stmt := top 24
abbrev s_Shares_many : Stmt := inClass (top 30) 3
abbrev s_Shares_added : Stmt := inClass (top 30) 5
abbrev s_all_helps : Stmt := top 33
abbrev s_first_hindering : Stmt := top 34
abbrev s_hindering : Stmt := top 35
abbrev s_most_hindering : Stmt := top 36
abbrev s_law_right : Stmt := top 51
abbrev s_law_jar : Stmt := top 38
abbrev s_law : Stmt := top 52
abbrev d_law_draw : He.DefD := ⟨("_law_draw", none), "_law_draw", "_law_draw", defArgs s_law_draw, defBody s_law_draw, defScope s_law_draw, [], []⟩
abbrev d_law_pick : He.DefD := ⟨("_law_pick", none), "_law_pick", "_law_pick", defArgs s_law_pick, defBody s_law_pick, defScope s_law_pick, [], []⟩
abbrev d_law_rows : He.DefD := ⟨("_law_rows", none), "_law_rows", "_law_rows", defArgs s_law_rows, defBody s_law_rows, defScope s_law_rows, [], []⟩
abbrev d_law_fitted : He.DefD := ⟨("_law_fitted", none), "_law_fitted", "_law_fitted", defArgs s_law_fitted, defBody s_law_fitted, defScope s_law_fitted, [], []⟩
abbrev d_law_table : He.DefD := ⟨("_law_table", none), "_law_table", "_law_table", defArgs s_law_table, defBody s_law_table, defScope s_law_table, [], []⟩
abbrev d_is_name : He.DefD := ⟨("is_name", none), "is_name", "is_name", defArgs s_is_name, defBody s_is_name, defScope s_is_name, [], []⟩
abbrev d_wrong_mark : He.DefD := ⟨("wrong_mark", none), "wrong_mark", "wrong_mark", defArgs s_wrong_mark, defBody s_wrong_mark, defScope s_wrong_mark, [], []⟩
abbrev d_check_marks : He.DefD := ⟨("check_marks", none), "check_marks", "check_marks", defArgs s_check_marks, defBody s_check_marks, defScope s_check_marks, [], []⟩
abbrev d_is_integer : He.DefD := ⟨("is_integer", none), "is_integer", "is_integer", defArgs s_is_integer, defBody s_is_integer, defScope s_is_integer, [], []⟩
abbrev d_is_between : He.DefD := ⟨("is_between", none), "is_between", "is_between", defArgs s_is_between, defBody s_is_between, defScope s_is_between, [], []⟩
abbrev d_wrong_number : He.DefD := ⟨("wrong_number", none), "wrong_number", "wrong_number", defArgs s_wrong_number, defBody s_wrong_number, defScope s_wrong_number, [], []⟩
abbrev d_check_numbers : He.DefD := ⟨("check_numbers", none), "check_numbers", "check_numbers", defArgs s_check_numbers, defBody s_check_numbers, defScope s_check_numbers, [], []⟩
abbrev d_all_rows : He.DefD := ⟨("all_rows", none), "all_rows", "all_rows", defArgs s_all_rows, defBody s_all_rows, defScope s_all_rows, [], []⟩
abbrev d_Shares___init__ : He.DefD := ⟨("Shares", some "__init__"), "__init__", "Shares.__init__", defArgs s_Shares___init__, defBody s_Shares___init__, defScope s_Shares___init__, [], []⟩
abbrev d_law_made : He.DefD := ⟨("_law_made", none), "_law_made", "_law_made", defArgs s_law_made, defBody s_law_made, defScope s_law_made, [], []⟩
abbrev d_law_lots : He.DefD := ⟨("_law_lots", none), "_law_lots", "_law_lots", defArgs s_law_lots, defBody s_law_lots, defScope s_law_lots, [], []⟩
abbrev d_law_sum : He.DefD := ⟨("_law_sum", none), "_law_sum", "_law_sum", defArgs s_law_sum, defBody s_law_sum, defScope s_law_sum, [], []⟩
abbrev d_law_help : He.DefD := ⟨("_law_help", none), "_law_help", "_law_help", defArgs s_law_help, defBody s_law_help, defScope s_law_help, [], []⟩
abbrev d_law_helps : He.DefD := ⟨("_law_helps", none), "_law_helps", "_law_helps", defArgs s_law_helps, defBody s_law_helps, defScope s_law_helps, [], []⟩
abbrev d_law_due : He.DefD := ⟨("_law_due", none), "_law_due", "_law_due", defArgs s_law_due, defBody s_law_due, defScope s_law_due, [], []⟩
abbrev d_law_names : He.DefD := ⟨("_law_names", none), "_law_names", "_law_names", defArgs s_law_names, defBody s_law_names, defScope s_law_names, [], []⟩
abbrev d_check_shares : He.DefD := ⟨("check_shares", none), "check_shares", "check_shares", defArgs s_check_shares, defBody s_check_shares, defScope s_check_shares, [], []⟩
abbrev d_rising_lots : He.DefD := ⟨("rising_lots", none), "rising_lots", "rising_lots", defArgs s_rising_lots, defBody s_rising_lots, defScope s_rising_lots, [], []⟩
abbrev d_Shares_many : He.DefD := ⟨("Shares", some "many"), "many", "Shares.many", defArgs s_Shares_many, defBody s_Shares_many, defScope s_Shares_many, [], []⟩
abbrev d_Shares_added : He.DefD := ⟨("Shares", some "added"), "added", "Shares.added", defArgs s_Shares_added, defBody s_Shares_added, defScope s_Shares_added, [], []⟩
abbrev d_all_helps : He.DefD := ⟨("all_helps", none), "all_helps", "all_helps", defArgs s_all_helps, defBody s_all_helps, defScope s_all_helps, [], []⟩
abbrev d_first_hindering : He.DefD := ⟨("first_hindering", none), "first_hindering", "first_hindering", defArgs s_first_hindering, defBody s_first_hindering, defScope s_first_hindering, [], []⟩
abbrev d_hindering : He.DefD := ⟨("hindering", none), "hindering", "hindering", defArgs s_hindering, defBody s_hindering, defScope s_hindering, [], []⟩
abbrev d_most_hindering : He.DefD := ⟨("most_hindering", none), "most_hindering", "most_hindering", defArgs s_most_hindering, defBody s_most_hindering, defScope s_most_hindering, [], []⟩
abbrev d_law_right : He.DefD := ⟨("_law_right", none), "_law_right", "_law_right", defArgs s_law_right, defBody s_law_right, defScope s_law_right, [], []⟩
abbrev d_law_jar : He.DefD := ⟨("_law_jar", none), "_law_jar", "_law_jar", defArgs s_law_jar, defBody s_law_jar, defScope s_law_jar, [], []⟩
abbrev d_law : He.DefD := ⟨("law", none), "law", "law", defArgs s_law, defBody s_law, defScope s_law, [], []⟩
abbrev fn : List He.DefD := [d_law_draw, d_law_pick, d_law_rows, d_law_fitted, d_law_table, d_is_name, d_wrong_mark, d_check_marks, d_is_integer, d_is_between, d_wrong_number, d_check_numbers, d_all_rows, d_Shares___init__, d_law_made, d_law_lots, d_law_sum, d_law_help, d_law_helps, d_law_due, d_law_names, d_check_shares, d_rising_lots, d_Shares_added, d_all_helps, d_first_hindering, d_hindering, d_most_hindering, d_law_right, d_law_jar, d_law]
abbrev ps : List AtD := [⟨prG "Shares" "many", d_Shares_many⟩]
abbrev ex : PySem.W.Frag → Bool := fun K => kitsB K ["Shares"] && prB K "Shares" "many" && true
abbrev fa : List He.Fa := [.glo "_law_draw", .glo "_law_pick", .glo "_law_rows", .glo "_law_fitted", .glo "_law_table", .glo "is_name", .glo "wrong_mark", .glo "check_marks", .glo "is_integer", .glo "is_between", .glo "wrong_number", .glo "check_numbers", .glo "all_rows", .glo "_law_made", .glo "_law_lots", .glo "_law_sum", .glo "_law_help", .glo "_law_helps", .glo "_law_due", .glo "_law_names", .glo "check_shares", .glo "rising_lots", .glo "all_helps", .glo "first_hindering", .glo "hindering", .glo "most_hindering", .glo "_law_right", .glo "_law_jar", .glo "law", .cls "Shares", .glo "Shares", .meth "Shares" "added", .mkr "Shares", .noat "Shares" "known", .noat "Shares" "marks", .noat "Shares" "numbers", .noat "Shares" "total", .free "abs", .free "all", .free "bool", .free "dict", .free "divmod", .free "enumerate", .free "int", .free "isinstance", .free "len", .free "max", .free "min", .free "range", .free "repr", .free "sorted", .free "str", .free "sum", .free "tuple", .free "zip", .int "MOST_MARKS" 4, .int "MOST_NAME" 8, .int "MOST_NUMBER" 1000000000000, .str "LETTERS" "abcdefghijklmnopqrstuvwxyz", .str "SIGNS" "01"]
abbrev N_law_draw : List Str := ["_law_jar_here", "_law_size", "_law_digit"]
abbrev N_law_pick : List Str := ["_law_jar_here", "_law_some"]
abbrev N_law_rows : List Str := ["_law_many", "_law_found", "_law_turn", "_law_each"]
abbrev N_law_fitted : List Str := ["_law_jar_here", "_law_many", "_law_weights", "_law_ties_here", "_law_k", "_law_found", "_law_x", "_law_number", "_law_a", "_law_b", "_law_factor"]
abbrev N_law_table : List Str := ["_law_jar_here", "_law_many", "_law_way", "_law_rows_here", "_law_found", "_law_x", "_law_small"]
abbrev N_is_name : List Str := ["value", "letter"]
abbrev N_wrong_mark : List Str := ["value", "index", "name"]
abbrev N_check_marks : List Str := ["marks", "wrong"]
abbrev N_is_integer : List Str := ["value"]
abbrev N_is_between : List Str := ["value", "least", "most"]
abbrev N_wrong_number : List Str := ["value", "index", "number"]
abbrev N_check_numbers : List Str := ["numbers", "many", "wrong"]
abbrev N_all_rows : List Str := ["many", "found", "turn", "head", "sign"]
abbrev N_Shares___init__ : List Str := ["self", "marks", "numbers"]
abbrev N_law_made : List Str := ["_law_names_here", "_law_table_here", "_law_x"]
abbrev N_law_lots : List Str := ["_law_many", "_law_found", "_law_turn", "_law_longer", "_law_low", "_law_high", "_law_x"]
abbrev N_law_sum : List Str := ["_law_table_here", "_law_lot", "_law_x"]
abbrev N_law_help : List Str := ["_law_table_here", "_law_first_lot", "_law_second_lot", "_law_both", "_law_whole", "_law_x"]
abbrev N_law_helps : List Str := ["_law_table_here", "_law_many", "_law_lots_here", "_law_found", "_law_at", "_law_mate"]
abbrev N_law_due : List Str := ["_law_table_here", "_law_many", "_law_found", "_law_least", "_law_triple", "_law_number", "_law_a", "_law_b"]
abbrev N_law_names : List Str := ["_law_jar_here", "_law_many", "_law_found", "_law_turn", "_law_word", "_law_k", "_law_each"]
abbrev N_check_shares : List Str := ["shares"]
abbrev N_rising_lots : List Str := ["many", "found", "turn", "later", "low", "high", "row"]
abbrev N_Shares_many : List Str := ["self"]
abbrev N_Shares_added : List Str := ["self", "lot", "row"]
abbrev N_all_helps : List Str := ["shares", "lots", "sums", "found", "place", "one", "inside", "two", "both", "lot", "row"]
abbrev N_first_hindering : List Str := ["shares", "told", "one", "two"]
abbrev N_hindering : List Str := ["shares"]
abbrev N_most_hindering : List Str := ["shares", "best", "told", "one", "two"]
abbrev N_law_right : List Str := ["_law_jar_here", "_law_turn", "_law_many", "_law_table_here", "_law_here", "_law_due_here"]
abbrev N_law_jar : List Str := ["_law_script", "_law_turn", "_law_state", "_law_each", "_law_own"]
abbrev N_law : List Str := ["_law_script", "_law_turn"]
section
variable {P : Program} {w : World} {K : PySem.W.Frag} {mg : Str → Option Value} {base h : Heap} {f : Addr} {fd : FuncData}
theorem ok_law_draw (KX : K.In h) (G : h.Ns mainGlobals mg) (c : SaysP fa fn ps ex K) (F : Fun K "_law_draw" "_law_draw" s_law_draw f fd) : FnG P w K mg base 1 f fd ["_law_jar_here", "_law_size"] (spM K 2 Cm.m_law_draw_2) := by
  have n_divmod_ := He.free_ok KX G (c.fact 41 (f := .free "divmod") rfl)
  have n_int_ := He.free_ok KX G (c.fact 43 (f := .free "int") rfl)
  have sc : FnScope N_law_draw ["_law_jar_here", "_law_size"] (defScope s_law_draw) := ⟨rfl, rfl, rfl, by decide +kernel, rfl, by decide +kernel, by decide +kernel⟩
  exact okM (k := 0) F sc fun cdv A outer s H E W co tk =>
  (es_cons (es_sto st_m (ps_asg (ev_op op_addM s_add (ev_bor (ep_ix co (ep_var (pv 0)) (ep_c (d := .int 2) pe_int rfl))) (ev_c (d := .int 1) pe_int rfl)) (pg_sub (pv 0) (ev_c (d := .int 2) pe_int rfl) (set_m (hu_of co.hr)))))
  (es_cons (es_if (et_cmp op_gtM s_ord (ev_bor (ep_ix co (ep_var (pv 0)) (ep_c (d := .int 0) pe_int rfl))) (ev_c (d := .int 0) pe_int rfl) (by first | exact nomark _ | rfl)) (es_cons (es_asg (ev_b L2.call_divmodW n_divmodW n_divmod_ (en_cons (ev_bor (ep_ix co (ep_var (pv 0)) (ep_c (d := .int 0) pe_int rfl))) (en_cons (ev_var (pv 1)) en_nil))) (eg_unp (n := 2) co.calm (eg_cons (eg_sub (i := 0) (kd := .int 0) st_m rfl (pg_sub (pv 0) pe_int (set_m (hu_of co.hr)))) (eg_cons (eg_name (pg_name sc.nd (i := 2) rfl (by first | exact .inl rfl | exact .inr rfl))) eg_nil))))
  (es_one (es_ret (ev_var (pv 2))))) es_nil)
  (es_cons (es_sto st_m (ps_asg (ev_op op_mod s_mod (ev_t cr_int n_int n_int_ (en_cons (ev_op op_addM s_add (ev_op op_addM s_add (ev_op op_mulM s_mul (ev_bor (ep_ix co (ep_var (pv 0)) (ep_c (d := .int 1) pe_int rfl))) (ev_c (d := .int 36007) pe_int rfl)) (ev_op op_mulM s_mul (ev_c (d := .int 8111) pe_int rfl) (ev_bor (ep_ix co (ep_var (pv 0)) (ep_c (d := .int 2) pe_int rfl))))) (ev_c (d := .int 5) pe_int rfl)) en_nil)) (ev_c (d := .int 2147483137) pe_int rfl)) (pg_sub (pv 0) (ev_c (d := .int 1) pe_int rfl) (set_m (hu_of co.hr)))))
  (es_one (es_ret (ev_op op_mod s_mod (ev_t cr_int n_int n_int_ (en_cons (ev_op op_fdivW s_fdiv (ev_bor (ep_ix co (ep_var (pv 0)) (ep_c (d := .int 1) pe_int rfl))) (ev_c (d := .int 512) pe_int rfl)) en_nil)) (ev_var (pv 1))))))))
theorem ok_law_pick (KX : K.In h) (G : h.Ns mainGlobals mg) (c : SaysP fa fn ps ex K) (F : Fun K "_law_pick" "_law_pick" s_law_pick f fd) : FnG P w K mg base 2 f fd ["_law_jar_here", "_law_some"] (spM K 2 Cm.m_law_pick) := by
  have n_len_ := He.free_ok KX G (c.fact 45 (f := .free "len") rfl)
  have g__law_draw := He.glo_ok KX G (c.fact 0 (f := .glo "_law_draw") rfl)
  obtain ⟨fd__law_draw, F__law_draw⟩ := c.def_ 0 (d := d_law_draw) rfl
  replace F__law_draw : Fun K "_law_draw" "_law_draw" s_law_draw _ fd__law_draw := fun_of_D F__law_draw
  have K__law_draw := ok_law_draw (P := P) (w := w) (mg := mg) (base := base) KX G c F__law_draw
  have b__law_draw : Binds K fd__law_draw ["_law_jar_here", "_law_size"] [] := F__law_draw.binds fun _ _ _ _ _ _ us hl => match us, hl with | [_, _], _ => rfl
  have sc : FnScope N_law_pick ["_law_jar_here", "_law_some"] (defScope s_law_pick) := ⟨rfl, rfl, rfl, by decide +kernel, rfl, by decide +kernel, by decide +kernel⟩
  exact okM (k := 1) F sc fun cdv A outer s H E W co tk =>
  (es_one (es_ret (ev_ix co (ev_var (pv 1)) (ev_call (K__law_draw.mono (by decide)) co tk g__law_draw F__law_draw.kp b__law_draw (eq_io (pv 0) (eq_val (ev_b cr_len n_len n_len_ (en_cons (ev_var (pv 1)) en_nil)) eq_nil))))))
theorem ok_law_rows (KX : K.In h) (G : h.Ns mainGlobals mg) (c : SaysP fa fn ps ex K) (F : Fun K "_law_rows" "_law_rows" s_law_rows f fd) : FnG P w K mg base 1 f fd ["_law_many"] (spM K 1 Cm.m_law_rows_2) := by
  have n_range_ := He.free_ok KX G (c.fact 48 (f := .free "range") rfl)
  have n_sorted_ := He.free_ok KX G (c.fact 50 (f := .free "sorted") rfl)
  have sc : FnScope N_law_rows ["_law_many"] (defScope s_law_rows) := ⟨rfl, rfl, rfl, by decide +kernel, rfl, by decide +kernel, by decide +kernel⟩
  exact okM (k := 0) F sc fun cdv A outer s H E W co tk =>
  (es_cons (es_set (i := 1) (ev_lst (en_cons (ev_c (d := .str "") pe_str rfl) en_nil)) sc.nd rfl (by first | exact .inl rfl | exact .inr rfl))
  (es_cons (es_for (passes_of rfl) co.calm (ei_rng1 rfl n_range_ (en_cons (ev_var (pv 0)) en_nil)) (eg_name (pg_name sc.nd (i := 2) rfl (by first | exact .inl rfl | exact .inr rfl))) (es_one (es_set (i := 1) (ev_op op_addM s_add (ev_new (ef_lc (own := [("_law_each", 3)]) co.calm sc.nd  (ei_of (ev_var (pv 1))) (blkOk_of (by kernel_rfl)) (fun _ _ _ _ _ => (eg_name (pg_name sc.nd (i := 3) rfl (by first | exact .inl rfl | exact .inr rfl)))) (fun _ _ _ _ _ => ets_nil) (fun _ _ _ _ _ => (ev_op op_addM s_add (ev_var (pv 3)) (ev_c (d := .str "0") pe_str rfl))) (by decide))) (ev_new (ef_lc (own := [("_law_each", 3)]) co.calm sc.nd  (ei_of (ev_var (pv 1))) (blkOk_of (by kernel_rfl)) (fun _ _ _ _ _ => (eg_name (pg_name sc.nd (i := 3) rfl (by first | exact .inl rfl | exact .inr rfl)))) (fun _ _ _ _ _ => ets_nil) (fun _ _ _ _ _ => (ev_op op_addM s_add (ev_var (pv 3)) (ev_c (d := .str "1") pe_str rfl))) (by decide)))) sc.nd rfl (by first | exact .inl rfl | exact .inr rfl))))
  (es_one (es_ret (ev_b (cr_sortX co.calm co.hr.units) n_sortX n_sorted_ (en_cons (ev_var (pv 1)) en_nil))))))
theorem ok_law_fitted (KX : K.In h) (G : h.Ns mainGlobals mg) (c : SaysP fa fn ps ex K) (F : Fun K "_law_fitted" "_law_fitted" s_law_fitted f fd) : FnG P w K mg base 2 f fd ["_law_jar_here", "_law_many"] (spO K 2 Cm.m_law_fitted) := by
  have n_int_ := He.free_ok KX G (c.fact 43 (f := .free "int") rfl)
  have n_range_ := He.free_ok KX G (c.fact 48 (f := .free "range") rfl)
  have g__law_draw := He.glo_ok KX G (c.fact 0 (f := .glo "_law_draw") rfl)
  obtain ⟨fd__law_draw, F__law_draw⟩ := c.def_ 0 (d := d_law_draw) rfl
  replace F__law_draw : Fun K "_law_draw" "_law_draw" s_law_draw _ fd__law_draw := fun_of_D F__law_draw
  have K__law_draw := ok_law_draw (P := P) (w := w) (mg := mg) (base := base) KX G c F__law_draw
  have b__law_draw : Binds K fd__law_draw ["_law_jar_here", "_law_size"] [] := F__law_draw.binds fun _ _ _ _ _ _ us hl => match us, hl with | [_, _], _ => rfl
  have g__law_rows := He.glo_ok KX G (c.fact 2 (f := .glo "_law_rows") rfl)
  obtain ⟨fd__law_rows, F__law_rows⟩ := c.def_ 2 (d := d_law_rows) rfl
  replace F__law_rows : Fun K "_law_rows" "_law_rows" s_law_rows _ fd__law_rows := fun_of_D F__law_rows
  have K__law_rows := ok_law_rows (P := P) (w := w) (mg := mg) (base := base) KX G c F__law_rows
  have b__law_rows : Binds K fd__law_rows ["_law_many"] [] := F__law_rows.binds fun _ _ _ _ _ _ us hl => match us, hl with | [_], _ => rfl
  have sc : FnScope N_law_fitted ["_law_jar_here", "_law_many"] (defScope s_law_fitted) := ⟨rfl, rfl, rfl, by decide +kernel, rfl, by decide +kernel, by decide +kernel⟩
  exact okO (k := 1) F sc fun cdv A outer s H E W co tk =>
  (sn_cons (es_setLcV (i := 2) (own := [("_law_k", 4)]) co.calm sc.nd rfl rfl (sw_true rfl rfl rfl (by decide +kernel))  (ei_rng1 rfl n_range_ (en_cons (ev_var (pv 1)) en_nil)) (blkOk_of (by kernel_rfl)) (fun _ _ _ _ _ => (eg_name (pg_name sc.nd (i := 4) rfl (by first | exact .inl rfl | exact .inr rfl)))) (fun _ _ _ _ _ => ets_nil) (fun _ _ _ _ _ => (ev_tup (en_cons (ev_call (K__law_draw.mono (by decide)) (co.blk _ _ _ _ _) (takes0 _) g__law_draw F__law_draw.kp b__law_draw (eq_io (pv 0) (eq_val (ev_c (d := .int 4) pe_int rfl) eq_nil))) (en_cons (ev_call (K__law_draw.mono (by decide)) (co.blk _ _ _ _ _) (takes0 _) g__law_draw F__law_draw.kp b__law_draw (eq_io (pv 0) (eq_val (ev_c (d := .int 4) pe_int rfl) eq_nil))) en_nil)))) (by decide))
  (sn_cons (es_ow (i := 3) (fun te h => ps_set sc.nd rfl (by first | exact .inl rfl | exact .inr rfl) h) (ef_lst en_nil))
  (sn_cons (es_for (passes_of rfl) co.calm (ei_rng1 rfl n_range_ (en_cons (ev_call (K__law_draw.mono (by decide)) co tk g__law_draw F__law_draw.kp b__law_draw (eq_io (pv 0) (eq_val (ev_c (d := .int 4) pe_int rfl) eq_nil))) en_nil)) (eg_name (pg_name sc.nd (i := 4) rfl (by first | exact .inl rfl | exact .inr rfl))) (es_one (es_expr (ev_meth mu_app (pe_bm PySem.F.plainAttrs_list PySem.F.slot_list_append PySem.F.type_list_append mt_append (pv 3) (en_cons (ev_tup (en_cons (ev_call (K__law_draw.mono (by decide)) co tk g__law_draw F__law_draw.kp b__law_draw (eq_io (pv 0) (eq_val (ev_var (pv 1)) eq_nil))) (en_cons (ev_call (K__law_draw.mono (by decide)) co tk g__law_draw F__law_draw.kp b__law_draw (eq_io (pv 0) (eq_val (ev_var (pv 1)) eq_nil))) (en_cons (ev_op op_addM s_add (ev_c (d := .int 1) pe_int rfl) (ev_call (K__law_draw.mono (by decide)) co tk g__law_draw F__law_draw.kp b__law_draw (eq_io (pv 0) (eq_val (ev_c (d := .int 3) pe_int rfl) eq_nil)))) en_nil)))) en_nil).pa)))))
  (sn_cons (es_ow (i := 5) (fun te h => ps_set sc.nd rfl (by first | exact .inl rfl | exact .inr rfl) h) ef_dictK)
  (sn_cons (es_for (passes_of rfl) co.calm (ei_of (ev_call (K__law_rows.mono (by decide)) co tk g__law_rows F__law_rows.kp b__law_rows (eq_val (ev_var (pv 1)) eq_nil))) (eg_name (pg_name sc.nd (i := 6) rfl (by first | exact .inl rfl | exact .inr rfl))) (es_cons (es_set (i := 7) (ev_c (d := .int 1) pe_int rfl) sc.nd rfl (by first | exact .inl rfl | exact .inr rfl))
  (es_cons (es_for (passes_of rfl) co.calm (ei_rng1 rfl n_range_ (en_cons (ev_var (pv 1)) en_nil)) (eg_name (pg_name sc.nd (i := 4) rfl (by first | exact .inl rfl | exact .inr rfl))) (es_one (es_set (i := 7) (ev_op op_mulM s_mul (ev_var (pv 7)) (ev_ix co (ev_ix co (ev_var (pv 2)) (ev_var (pv 4))) (ev_t cr_int n_int n_int_ (en_cons (ev_ix co (ev_var (pv 6)) (ev_var (pv 4))) en_nil)))) sc.nd rfl (by first | exact .inl rfl | exact .inr rfl))))
  (es_cons (es_for (passes_of rfl) co.calm (ei_of (ev_var (pv 3))) (eg_unp (n := 3) co.calm (eg_cons (eg_name (pg_name sc.nd (i := 8) rfl (by first | exact .inl rfl | exact .inr rfl))) (eg_cons (eg_name (pg_name sc.nd (i := 9) rfl (by first | exact .inl rfl | exact .inr rfl))) (eg_cons (eg_name (pg_name sc.nd (i := 10) rfl (by first | exact .inl rfl | exact .inr rfl))) eg_nil)))) (es_one (es_set (i := 7) (ev_op op_mulM s_mul (ev_var (pv 7)) (ev_if (et_cmp (op_eqM co.hr.units) s_eq (ev_ix co (ev_var (pv 6)) (ev_var (pv 8))) (ev_ix co (ev_var (pv 6)) (ev_var (pv 9))) (by first | exact nomark _ | rfl)) (ev_var (pv 10)) (ev_c (d := .int 1) pe_int rfl))) sc.nd rfl (by first | exact .inl rfl | exact .inr rfl))))
  (es_one (es_sto st_m (ps_asg (ev_var (pv 7)) (pg_sub (pv 5) (ev_var (pv 6)) (set_m (hu_of co.hr))))))))))
  (sn_ret (ef_var (pv 5))))))))
theorem ok_law_table (KX : K.In h) (G : h.Ns mainGlobals mg) (c : SaysP fa fn ps ex K) (F : Fun K "_law_table" "_law_table" s_law_table f fd) : FnG P w K mg base 3 f fd ["_law_jar_here", "_law_many"] (spM K 2 Cm.m_law_table) := by
  have n_min_ := He.free_ok KX G (c.fact 47 (f := .free "min") rfl)
  have n_sum_ := He.free_ok KX G (c.fact 52 (f := .free "sum") rfl)
  have g__law_draw := He.glo_ok KX G (c.fact 0 (f := .glo "_law_draw") rfl)
  obtain ⟨fd__law_draw, F__law_draw⟩ := c.def_ 0 (d := d_law_draw) rfl
  replace F__law_draw : Fun K "_law_draw" "_law_draw" s_law_draw _ fd__law_draw := fun_of_D F__law_draw
  have K__law_draw := ok_law_draw (P := P) (w := w) (mg := mg) (base := base) KX G c F__law_draw
  have b__law_draw : Binds K fd__law_draw ["_law_jar_here", "_law_size"] [] := F__law_draw.binds fun _ _ _ _ _ _ us hl => match us, hl with | [_, _], _ => rfl
  have g__law_fitted := He.glo_ok KX G (c.fact 3 (f := .glo "_law_fitted") rfl)
  obtain ⟨fd__law_fitted, F__law_fitted⟩ := c.def_ 3 (d := d_law_fitted) rfl
  replace F__law_fitted : Fun K "_law_fitted" "_law_fitted" s_law_fitted _ fd__law_fitted := fun_of_D F__law_fitted
  have K__law_fitted := ok_law_fitted (P := P) (w := w) (mg := mg) (base := base) KX G c F__law_fitted
  have b__law_fitted : Binds K fd__law_fitted ["_law_jar_here", "_law_many"] [] := F__law_fitted.binds fun _ _ _ _ _ _ us hl => match us, hl with | [_, _], _ => rfl
  have g__law_pick := He.glo_ok KX G (c.fact 1 (f := .glo "_law_pick") rfl)
  obtain ⟨fd__law_pick, F__law_pick⟩ := c.def_ 1 (d := d_law_pick) rfl
  replace F__law_pick : Fun K "_law_pick" "_law_pick" s_law_pick _ fd__law_pick := fun_of_D F__law_pick
  have K__law_pick := ok_law_pick (P := P) (w := w) (mg := mg) (base := base) KX G c F__law_pick
  have b__law_pick : Binds K fd__law_pick ["_law_jar_here", "_law_some"] [] := F__law_pick.binds fun _ _ _ _ _ _ us hl => match us, hl with | [_, _], _ => rfl
  have g__law_rows := He.glo_ok KX G (c.fact 2 (f := .glo "_law_rows") rfl)
  obtain ⟨fd__law_rows, F__law_rows⟩ := c.def_ 2 (d := d_law_rows) rfl
  replace F__law_rows : Fun K "_law_rows" "_law_rows" s_law_rows _ fd__law_rows := fun_of_D F__law_rows
  have K__law_rows := ok_law_rows (P := P) (w := w) (mg := mg) (base := base) KX G c F__law_rows
  have b__law_rows : Binds K fd__law_rows ["_law_many"] [] := F__law_rows.binds fun _ _ _ _ _ _ us hl => match us, hl with | [_], _ => rfl
  have sc : FnScope N_law_table ["_law_jar_here", "_law_many"] (defScope s_law_table) := ⟨rfl, rfl, rfl, by decide +kernel, rfl, by decide +kernel, by decide +kernel⟩
  exact okM (k := 2) F sc fun cdv A outer s H E W co tk =>
  (es_cons (es_par2 (i := 2) (j := 3) (fun ta h => ps_par co.calm sc.nd rfl rfl (by decide) rfl rfl h rfl) (en_cons (ev_call (K__law_draw.mono (by decide)) co tk g__law_draw F__law_draw.kp b__law_draw (eq_io (pv 0) (eq_val (ev_c (d := .int 7) pe_int rfl) eq_nil))) (en_cons (ev_call (K__law_rows.mono (by decide)) co tk g__law_rows F__law_rows.kp b__law_rows (eq_val (ev_var (pv 1)) eq_nil)) en_nil)))
  (es_cons (es_ow (i := 4) (fun te h => ps_set sc.nd rfl (by first | exact .inl rfl | exact .inr rfl) h) ef_dictK)
  (es_cons (es_for (passes_of rfl) co.calm (ei_of (ev_var (pv 3))) (eg_name (pg_name sc.nd (i := 5) rfl (by first | exact .inl rfl | exact .inr rfl))) (es_cons (es_set (i := 6) (ev_ix co (ev_lst (en_cons (ev_call (K__law_draw.mono (by decide)) co tk g__law_draw F__law_draw.kp b__law_draw (eq_io (pv 0) (eq_val (ev_c (d := .int 4) pe_int rfl) eq_nil))) (en_cons (ev_op op_addM s_add (ev_c (d := .int 1) pe_int rfl) (ev_call (K__law_draw.mono (by decide)) co tk g__law_draw F__law_draw.kp b__law_draw (eq_io (pv 0) (eq_val (ev_c (d := .int 9) pe_int rfl) eq_nil)))) (en_cons (ev_call (K__law_pick.mono (by decide)) co tk g__law_pick F__law_pick.kp b__law_pick (eq_io (pv 0) (eq_val (ev_lst (en_cons (ev_c (d := .int 0) pe_int rfl) (en_cons (ev_c (d := .int 0) pe_int rfl) (en_cons (ev_c (d := .int 0) pe_int rfl) (en_cons (ev_c (d := .int 1) pe_int rfl) (en_cons (ev_c (d := .int 2) pe_int rfl) en_nil)))))) eq_nil))) en_nil)))) (ev_b (call_minB co.calm) n_best n_min_ (en_cons (ev_var (pv 2)) (en_cons (ev_c (d := .int 2) pe_int rfl) en_nil)))) sc.nd rfl (by first | exact .inl rfl | exact .inr rfl))
  (es_one (es_sto st_m (ps_asg (ev_if (et_cmp (op_eqM co.hr.units) s_eq (ev_var (pv 2)) (ev_c (d := .int 3) pe_int rfl) (by first | exact nomark _ | rfl)) (ev_call (K__law_pick.mono (by decide)) co tk g__law_pick F__law_pick.kp b__law_pick (eq_io (pv 0) (eq_val (ev_lst (en_cons (ev_c (d := .int 0) pe_int rfl) (en_cons (ev_c (d := .int 1) pe_int rfl) (en_cons (ev_call (K__law_draw.mono (by decide)) co tk g__law_draw F__law_draw.kp b__law_draw (eq_io (pv 0) (eq_val (ev_op op_addM s_add (ev_op op_pow s_pow (ev_c (d := .int 10) pe_int rfl) (ev_c (d := .int 12) pe_int rfl)) (ev_c (d := .int 1) pe_int rfl)) eq_nil))) (en_cons (ev_op op_pow s_pow (ev_c (d := .int 10) pe_int rfl) (ev_c (d := .int 12) pe_int rfl)) en_nil))))) eq_nil))) (ev_var (pv 6))) (pg_sub (pv 4) (ev_var (pv 5)) (set_m (hu_of co.hr))))))))
  (es_cons (es_if (et_cmp op_gtM s_ord (ev_var (pv 2)) (ev_c (d := .int 3) pe_int rfl) (by first | exact nomark _ | rfl)) (es_one (es_ow (i := 4) (fun te h => ps_set sc.nd rfl (by first | exact .inl rfl | exact .inr rfl) h) (ef_callO (K__law_fitted.mono (by decide)) co tk g__law_fitted F__law_fitted.kp b__law_fitted (eq_io (pv 0) (eq_val (ev_var (pv 1)) eq_nil))))) es_nil)
  (es_cons (es_if (et_cmp (op_eqM co.hr.units) s_eq (ev_var (pv 2)) (ev_c (d := .int 6) pe_int rfl) (by first | exact nomark _ | rfl)) (es_one (es_sto st_m (ps_asg (ev_call (K__law_draw.mono (by decide)) co tk g__law_draw F__law_draw.kp b__law_draw (eq_io (pv 0) (eq_val (ev_c (d := .int 9) pe_int rfl) eq_nil))) (pg_sub (pv 4) (ev_call (K__law_pick.mono (by decide)) co tk g__law_pick F__law_pick.kp b__law_pick (eq_io (pv 0) (eq_val (ev_var (pv 3)) eq_nil))) (set_m (hu_of co.hr)))))) es_nil)
  (es_cons (es_if (et_cmp (op_eqM co.hr.units) s_eq (ev_b (cr_sumM co.calm) n_sum n_sum_ (en_cons (ev_new (ef_lc (own := [("_law_x", 5)]) co.calm sc.nd  (ei_of (ev_var (pv 3))) (blkOk_of (by kernel_rfl)) (fun _ _ _ _ _ => (eg_name (pg_name sc.nd (i := 5) rfl (by first | exact .inl rfl | exact .inr rfl)))) (fun _ _ _ _ _ => ets_nil) (fun _ _ _ _ _ => (ev_bor (ep_ix (co.blk _ _ _ _ _) (ep_var (pv 4)) (ep_var (pv 5))))) (by decide))) en_nil)) (ev_c (d := .int 0) pe_int rfl) (by first | exact nomark _ | rfl)) (es_one (es_sto st_m (ps_asg (ev_c (d := .int 1) pe_int rfl) (pg_sub (pv 4) (ev_call (K__law_pick.mono (by decide)) co tk g__law_pick F__law_pick.kp b__law_pick (eq_io (pv 0) (eq_val (ev_var (pv 3)) eq_nil))) (set_m (hu_of co.hr)))))) es_nil)
  (es_one (es_ret (ev_var (pv 4))))))))))
theorem ok_is_name (KX : K.In h) (G : h.Ns mainGlobals mg) (c : SaysP fa fn ps ex K) (F : Fun K "is_name" "is_name" s_is_name f fd) : FnG P w K mg base 1 f fd ["value"] (spM K 1 Cm.m_is_name) := by
  have n_all_ := He.free_ok KX G (c.fact 38 (f := .free "all") rfl)
  have n_isinstance_ := He.free_ok KX G (c.fact 44 (f := .free "isinstance") rfl)
  have n_len_ := He.free_ok KX G (c.fact 45 (f := .free "len") rfl)
  have n_str_ := He.free_ok KX G (c.fact 51 (f := .free "str") rfl)
  obtain ⟨t_MOST_NAME, g_MOST_NAME⟩ := He.int_ok KX G (c.fact 56 (f := .int "MOST_NAME" 8) rfl)
  obtain ⟨t_LETTERS, g_LETTERS⟩ := He.str_ok KX G (c.fact 58 (f := .str "LETTERS" "abcdefghijklmnopqrstuvwxyz") rfl)
  have ex0 : ex K = true := c.more
  simp only [ex, Bool.and_eq_true] at ex0
  obtain ⟨⟨kt0, pr0_⟩, _⟩ := ex0
  have kt : Kits K ["Shares"] := ⟨kt0⟩
  have pr_Shares_many := prB_ok pr0_
  have sc : FnScope N_is_name ["value"] (defScope s_is_name) := ⟨rfl, rfl, rfl, by decide +kernel, rfl, by decide +kernel, by decide +kernel⟩
  exact okM (k := 0) F sc fun cdv A outer s H E W co tk =>
  (es_cons (es_if (et_w (ew_or (et_not (et_tru (ev_isA kt is_str (ev_var (pv 0)) (pe_bltn rfl n_str_ (by decide +kernel) rfl) n_isinstance_))) (ew_or1 (et_not (et_chain op_leM op_leM s_ord s_ord (ev_c (d := .int 1) pe_int rfl) (ev_b cr_len n_len n_len_ (en_cons (ev_var (pv 0)) en_nil)) (ev_c (d := (.int 8)) (pe_glob (v := .int 8) rfl g_MOST_NAME ⟨_, rfl⟩) rfl)))))) (es_one (es_ret (ev_c (d := .bl false) pe_bl rfl))) es_nil)
  (es_one (es_ret (ev_b (cr_all co.calm) n_all n_all_ (en_cons (ev_new (ef_lc (own := [("letter", 1)]) co.calm sc.nd  (ei_of (ev_var (pv 0))) (blkOk_of (by kernel_rfl)) (fun _ _ _ _ _ => (eg_name (pg_name sc.nd (i := 1) rfl (by first | exact .inl rfl | exact .inr rfl)))) (fun _ _ _ _ _ => ets_nil) (fun _ _ _ _ _ => (ev_cmp (op_inM (hu_of (co.blk _ _ _ _ _).hr)) s_in (ev_var (pv 1)) (ev_c (d := (.str "abcdefghijklmnopqrstuvwxyz")) (pe_glob (v := .str "abcdefghijklmnopqrstuvwxyz") rfl g_LETTERS ⟨_, rfl⟩) rfl) (by first | exact nomark _ | rfl))) (by decide))) en_nil)))))
theorem ok_wrong_mark (KX : K.In h) (G : h.Ns mainGlobals mg) (c : SaysP fa fn ps ex K) (F : Fun K "wrong_mark" "wrong_mark" s_wrong_mark f fd) : FnG P w K mg base 2 f fd ["value"] (spM K 1 Cm.m_wrong_mark) := by
  have n_enumerate_ := He.free_ok KX G (c.fact 42 (f := .free "enumerate") rfl)
  obtain ⟨t_MOST_MARKS, g_MOST_MARKS⟩ := He.int_ok KX G (c.fact 55 (f := .int "MOST_MARKS" 4) rfl)
  have g_is_name := He.glo_ok KX G (c.fact 5 (f := .glo "is_name") rfl)
  obtain ⟨fd_is_name, F_is_name⟩ := c.def_ 5 (d := d_is_name) rfl
  replace F_is_name : Fun K "is_name" "is_name" s_is_name _ fd_is_name := fun_of_D F_is_name
  have K_is_name := ok_is_name (P := P) (w := w) (mg := mg) (base := base) KX G c F_is_name
  have b_is_name : Binds K fd_is_name ["value"] [] := F_is_name.binds fun _ _ _ _ _ _ us hl => match us, hl with | [_], _ => rfl
  have sc : FnScope N_wrong_mark ["value"] (defScope s_wrong_mark) := ⟨rfl, rfl, rfl, by decide +kernel, rfl, by decide +kernel, by decide +kernel⟩
  exact okM (k := 1) F sc fun cdv A outer s H E W co tk =>
  (es_cons (es_for (passes_of rfl) co.calm (ei_enum rfl n_enumerate_ (en_cons (ev_var (pv 0)) en_nil)) (eg_unp (n := 2) co.calm (eg_cons (eg_name (pg_name sc.nd (i := 1) rfl (by first | exact .inl rfl | exact .inr rfl))) (eg_cons (eg_name (pg_name sc.nd (i := 2) rfl (by first | exact .inl rfl | exact .inr rfl))) eg_nil))) (es_one (es_if (et_w (ew_or (et_cmp (op_eqM co.hr.units) s_eq (ev_var (pv 1)) (ev_c (d := (.int 4)) (pe_glob (v := .int 4) rfl g_MOST_MARKS ⟨_, rfl⟩) rfl) (by first | exact nomark _ | rfl)) (ew_or (et_not (et_tru (ev_call (K_is_name.mono (by decide)) co tk g_is_name F_is_name.kp b_is_name (eq_val (ev_var (pv 2)) eq_nil)))) (ew_or1 (et_cmp (op_inM (hu_of co.hr)) s_in (ev_var (pv 2)) (ev_sl (ev_var (pv 0)) eo_none (eo_some (ev_var (pv 1)))) (by first | exact nomark _ | rfl)))))) (es_one (es_ret (ev_var (pv 1)))) es_nil)))
  (es_one (es_ret (ev_c (d := .non) pe_non rfl))))
theorem ok_check_marks (KX : K.In h) (G : h.Ns mainGlobals mg) (c : SaysP fa fn ps ex K) (F : Fun K "check_marks" "check_marks" s_check_marks f fd) : FnG P w K mg base 3 f fd ["marks"] (spM K 1 Cm.m_check_marks) := by
  have n_isinstance_ := He.free_ok KX G (c.fact 44 (f := .free "isinstance") rfl)
  have n_tuple_ := He.free_ok KX G (c.fact 53 (f := .free "tuple") rfl)
  have ex0 : ex K = true := c.more
  simp only [ex, Bool.and_eq_true] at ex0
  obtain ⟨⟨kt0, pr0_⟩, _⟩ := ex0
  have kt : Kits K ["Shares"] := ⟨kt0⟩
  have pr_Shares_many := prB_ok pr0_
  have g_wrong_mark := He.glo_ok KX G (c.fact 6 (f := .glo "wrong_mark") rfl)
  obtain ⟨fd_wrong_mark, F_wrong_mark⟩ := c.def_ 6 (d := d_wrong_mark) rfl
  replace F_wrong_mark : Fun K "wrong_mark" "wrong_mark" s_wrong_mark _ fd_wrong_mark := fun_of_D F_wrong_mark
  have K_wrong_mark := ok_wrong_mark (P := P) (w := w) (mg := mg) (base := base) KX G c F_wrong_mark
  have b_wrong_mark : Binds K fd_wrong_mark ["value"] [] := F_wrong_mark.binds fun _ _ _ _ _ _ us hl => match us, hl with | [_], _ => rfl
  have sc : FnScope N_check_marks ["marks"] (defScope s_check_marks) := ⟨rfl, rfl, rfl, by decide +kernel, rfl, by decide +kernel, by decide +kernel⟩
  exact okM (k := 2) F sc fun cdv A outer s H E W co tk =>
  (es_cons (es_if (et_w (ew_or (et_not (et_tru (ev_isA kt is_tup (ev_var (pv 0)) (pe_bltn rfl n_tuple_ (by decide +kernel) rfl) n_isinstance_))) (ew_or1 (et_cmp (op_eqM co.hr.units) s_eq (ev_var (pv 0)) (ev_tup en_nil) (by first | exact nomark _ | rfl))))) (es_one es_bad) es_nil)
  (es_cons (es_set (i := 1) (ev_call (K_wrong_mark.mono (by decide)) co tk g_wrong_mark F_wrong_mark.kp b_wrong_mark (eq_val (ev_var (pv 0)) eq_nil)) sc.nd rfl (by first | exact .inl rfl | exact .inr rfl))
  (es_one (es_if (et_cmp op_notN s_notN (ev_var (pv 1)) (ev_c (d := .non) pe_non rfl) (by first | exact nomark _ | rfl)) (es_one es_bad) es_nil))))
theorem ok_is_integer (KX : K.In h) (G : h.Ns mainGlobals mg) (c : SaysP fa fn ps ex K) (F : Fun K "is_integer" "is_integer" s_is_integer f fd) : FnG P w K mg base 1 f fd ["value"] (spM K 1 Cm.m_is_integer) := by
  have n_bool_ := He.free_ok KX G (c.fact 39 (f := .free "bool") rfl)
  have n_int_ := He.free_ok KX G (c.fact 43 (f := .free "int") rfl)
  have n_isinstance_ := He.free_ok KX G (c.fact 44 (f := .free "isinstance") rfl)
  have ex0 : ex K = true := c.more
  simp only [ex, Bool.and_eq_true] at ex0
  obtain ⟨⟨kt0, pr0_⟩, _⟩ := ex0
  have kt : Kits K ["Shares"] := ⟨kt0⟩
  have pr_Shares_many := prB_ok pr0_
  have sc : FnScope N_is_integer ["value"] (defScope s_is_integer) := ⟨rfl, rfl, rfl, by decide +kernel, rfl, by decide +kernel, by decide +kernel⟩
  exact okM (k := 0) F sc fun cdv A outer s H E W co tk =>
  (es_one (es_ret (ev_and (ev_isA kt is_int (ev_var (pv 0)) (pe_bltn rfl n_int_ (by decide +kernel) rfl) n_isinstance_) (ev_last (ev_not (ev_isA kt is_bool (ev_var (pv 0)) (pe_bltn rfl n_bool_ (by decide +kernel) rfl) n_isinstance_))))))
theorem ok_is_between (KX : K.In h) (G : h.Ns mainGlobals mg) (c : SaysP fa fn ps ex K) (F : Fun K "is_between" "is_between" s_is_between f fd) : FnG P w K mg base 2 f fd ["value", "least", "most"] (spM K 3 Cm.m_is_between) := by
  have g_is_integer := He.glo_ok KX G (c.fact 8 (f := .glo "is_integer") rfl)
  obtain ⟨fd_is_integer, F_is_integer⟩ := c.def_ 8 (d := d_is_integer) rfl
  replace F_is_integer : Fun K "is_integer" "is_integer" s_is_integer _ fd_is_integer := fun_of_D F_is_integer
  have K_is_integer := ok_is_integer (P := P) (w := w) (mg := mg) (base := base) KX G c F_is_integer
  have b_is_integer : Binds K fd_is_integer ["value"] [] := F_is_integer.binds fun _ _ _ _ _ _ us hl => match us, hl with | [_], _ => rfl
  have sc : FnScope N_is_between ["value", "least", "most"] (defScope s_is_between) := ⟨rfl, rfl, rfl, by decide +kernel, rfl, by decide +kernel, by decide +kernel⟩
  exact okM (k := 1) F sc fun cdv A outer s H E W co tk =>
  (es_one (es_ret (ev_and (ev_call (K_is_integer.mono (by decide)) co tk g_is_integer F_is_integer.kp b_is_integer (eq_val (ev_var (pv 0)) eq_nil)) (ev_last (ev_chain op_leM op_leM s_ord s_ord (ev_var (pv 1)) (ev_var (pv 0)) (ev_var (pv 2)))))))
theorem ok_wrong_number (KX : K.In h) (G : h.Ns mainGlobals mg) (c : SaysP fa fn ps ex K) (F : Fun K "wrong_number" "wrong_number" s_wrong_number f fd) : FnG P w K mg base 3 f fd ["value"] (spM K 1 Cm.m_wrong_number) := by
  have n_enumerate_ := He.free_ok KX G (c.fact 42 (f := .free "enumerate") rfl)
  obtain ⟨t_MOST_NUMBER, g_MOST_NUMBER⟩ := He.int_ok KX G (c.fact 57 (f := .int "MOST_NUMBER" 1000000000000) rfl)
  have g_is_between := He.glo_ok KX G (c.fact 9 (f := .glo "is_between") rfl)
  obtain ⟨fd_is_between, F_is_between⟩ := c.def_ 9 (d := d_is_between) rfl
  replace F_is_between : Fun K "is_between" "is_between" s_is_between _ fd_is_between := fun_of_D F_is_between
  have K_is_between := ok_is_between (P := P) (w := w) (mg := mg) (base := base) KX G c F_is_between
  have b_is_between : Binds K fd_is_between ["value", "least", "most"] [] := F_is_between.binds fun _ _ _ _ _ _ us hl => match us, hl with | [_, _, _], _ => rfl
  have sc : FnScope N_wrong_number ["value"] (defScope s_wrong_number) := ⟨rfl, rfl, rfl, by decide +kernel, rfl, by decide +kernel, by decide +kernel⟩
  exact okM (k := 2) F sc fun cdv A outer s H E W co tk =>
  (es_cons (es_for (passes_of rfl) co.calm (ei_enum rfl n_enumerate_ (en_cons (ev_var (pv 0)) en_nil)) (eg_unp (n := 2) co.calm (eg_cons (eg_name (pg_name sc.nd (i := 1) rfl (by first | exact .inl rfl | exact .inr rfl))) (eg_cons (eg_name (pg_name sc.nd (i := 2) rfl (by first | exact .inl rfl | exact .inr rfl))) eg_nil))) (es_one (es_if (et_not (et_tru (ev_call (K_is_between.mono (by decide)) co tk g_is_between F_is_between.kp b_is_between (eq_val (ev_var (pv 2)) (eq_val (ev_c (d := .int 0) pe_int rfl) (eq_val (ev_c (d := (.int 1000000000000)) (pe_glob (v := .int 1000000000000) rfl g_MOST_NUMBER ⟨_, rfl⟩) rfl) eq_nil)))))) (es_one (es_ret (ev_var (pv 1)))) es_nil)))
  (es_one (es_ret (ev_c (d := .non) pe_non rfl))))
theorem ok_check_numbers (KX : K.In h) (G : h.Ns mainGlobals mg) (c : SaysP fa fn ps ex K) (F : Fun K "check_numbers" "check_numbers" s_check_numbers f fd) : FnG P w K mg base 4 f fd ["numbers", "many"] (spM K 2 Cm.m_check_numbers) := by
  have n_isinstance_ := He.free_ok KX G (c.fact 44 (f := .free "isinstance") rfl)
  have n_len_ := He.free_ok KX G (c.fact 45 (f := .free "len") rfl)
  have n_sum_ := He.free_ok KX G (c.fact 52 (f := .free "sum") rfl)
  have n_tuple_ := He.free_ok KX G (c.fact 53 (f := .free "tuple") rfl)
  have ex0 : ex K = true := c.more
  simp only [ex, Bool.and_eq_true] at ex0
  obtain ⟨⟨kt0, pr0_⟩, _⟩ := ex0
  have kt : Kits K ["Shares"] := ⟨kt0⟩
  have pr_Shares_many := prB_ok pr0_
  have g_wrong_number := He.glo_ok KX G (c.fact 10 (f := .glo "wrong_number") rfl)
  obtain ⟨fd_wrong_number, F_wrong_number⟩ := c.def_ 10 (d := d_wrong_number) rfl
  replace F_wrong_number : Fun K "wrong_number" "wrong_number" s_wrong_number _ fd_wrong_number := fun_of_D F_wrong_number
  have K_wrong_number := ok_wrong_number (P := P) (w := w) (mg := mg) (base := base) KX G c F_wrong_number
  have b_wrong_number : Binds K fd_wrong_number ["value"] [] := F_wrong_number.binds fun _ _ _ _ _ _ us hl => match us, hl with | [_], _ => rfl
  have sc : FnScope N_check_numbers ["numbers", "many"] (defScope s_check_numbers) := ⟨rfl, rfl, rfl, by decide +kernel, rfl, by decide +kernel, by decide +kernel⟩
  exact okM (k := 3) F sc fun cdv A outer s H E W co tk =>
  (es_cons (es_if (et_w (ew_or (et_not (et_tru (ev_isA kt is_tup (ev_var (pv 0)) (pe_bltn rfl n_tuple_ (by decide +kernel) rfl) n_isinstance_))) (ew_or1 (et_cmp op_ltM s_ord (ev_b cr_len n_len n_len_ (en_cons (ev_var (pv 0)) en_nil)) (ev_var (pv 1)) (by first | exact nomark _ | rfl))))) (es_one es_bad) es_nil)
  (es_cons (es_set (i := 2) (ev_call (K_wrong_number.mono (by decide)) co tk g_wrong_number F_wrong_number.kp b_wrong_number (eq_val (ev_sl (ev_var (pv 0)) eo_none (eo_some (ev_var (pv 1)))) eq_nil)) sc.nd rfl (by first | exact .inl rfl | exact .inr rfl))
  (es_cons (es_if (et_cmp op_notN s_notN (ev_var (pv 2)) (ev_c (d := .non) pe_non rfl) (by first | exact nomark _ | rfl)) (es_one es_bad) es_nil)
  (es_cons (es_if (et_cmp op_gtM s_ord (ev_b cr_len n_len n_len_ (en_cons (ev_var (pv 0)) en_nil)) (ev_var (pv 1)) (by first | exact nomark _ | rfl)) (es_one es_bad) es_nil)
  (es_one (es_if (et_cmp (op_eqM co.hr.units) s_eq (ev_b (cr_sumM co.calm) n_sum n_sum_ (en_cons (ev_var (pv 0)) en_nil)) (ev_c (d := .int 0) pe_int rfl) (by first | exact nomark _ | rfl)) (es_one es_bad) es_nil))))))
theorem ok_all_rows (KX : K.In h) (G : h.Ns mainGlobals mg) (c : SaysP fa fn ps ex K) (F : Fun K "all_rows" "all_rows" s_all_rows f fd) : FnG P w K mg base 1 f fd ["many"] (spM K 1 Cm.m_all_rows) := by
  have n_range_ := He.free_ok KX G (c.fact 48 (f := .free "range") rfl)
  obtain ⟨t_SIGNS, g_SIGNS⟩ := He.str_ok KX G (c.fact 59 (f := .str "SIGNS" "01") rfl)
  have sc : FnScope N_all_rows ["many"] (defScope s_all_rows) := ⟨rfl, rfl, rfl, by decide +kernel, rfl, by decide +kernel, by decide +kernel⟩
  exact okM (k := 0) F sc fun cdv A outer s H E W co tk =>
  (es_cons (es_set (i := 1) (ev_lst (en_cons (ev_c (d := .str "") pe_str rfl) en_nil)) sc.nd rfl (by first | exact .inl rfl | exact .inr rfl))
  (es_cons (es_for (passes_of rfl) co.calm (ei_rng1 rfl n_range_ (en_cons (ev_var (pv 0)) en_nil)) (eg_name (pg_name sc.nd (i := 2) rfl (by first | exact .inl rfl | exact .inr rfl))) (es_one (es_setLc2V (i := 1) (own := [("head", 3), ("sign", 4)]) (vs1 := [4]) co.calm sc.nd rfl rfl (sw_true rfl rfl rfl (by decide +kernel))  (ei_of (ev_var (pv 1))) (blkOk_of (by kernel_rfl)) (by decide) (fun _ _ _ _ _ => (eg_name (pg_name sc.nd (i := 3) rfl (by first | exact .inl rfl | exact .inr rfl)))) (fun _ _ _ _ _ => ets_nil) (fun _ _ _ _ _ => (ei_of (ev_c (d := (.str "01")) (pe_glob (v := .str "01") rfl g_SIGNS ⟨_, rfl⟩) rfl))) (fun _ _ _ _ _ => (eg_name (pg_name sc.nd (i := 4) rfl (by first | exact .inl rfl | exact .inr rfl)))) (fun _ _ _ _ _ => ets_nil) (fun _ _ _ _ _ => (ev_op op_addM s_add (ev_var (pv 3)) (ev_var (pv 4)))) (by decide) (by decide))))
  (es_one (es_ret (ev_var (pv 1))))))
theorem ok_Shares___init__ (KX : K.In h) (G : h.Ns mainGlobals mg) (c : SaysP fa fn ps ex K) (F : Fun K "__init__" "Shares.__init__" s_Shares___init__ f fd) : FnG P w K mg base 5 f fd ["self", "marks", "numbers"] (spM K 3 Cm.m_Shares___init__) := by
  have n_dict_ := He.free_ok KX G (c.fact 40 (f := .free "dict") rfl)
  have n_len_ := He.free_ok KX G (c.fact 45 (f := .free "len") rfl)
  have n_sum_ := He.free_ok KX G (c.fact 52 (f := .free "sum") rfl)
  have n_zip_ := He.free_ok KX G (c.fact 54 (f := .free "zip") rfl)
  have cl_Shares := He.cls_ok (c.fact 29 (f := .cls "Shares") rfl)
  have na_Shares_known := He.noat_ok (c.fact 33 (f := .noat "Shares" "known") rfl)
  have na_Shares_marks := He.noat_ok (c.fact 34 (f := .noat "Shares" "marks") rfl)
  have na_Shares_numbers := He.noat_ok (c.fact 35 (f := .noat "Shares" "numbers") rfl)
  have na_Shares_total := He.noat_ok (c.fact 36 (f := .noat "Shares" "total") rfl)
  have g_all_rows := He.glo_ok KX G (c.fact 12 (f := .glo "all_rows") rfl)
  obtain ⟨fd_all_rows, F_all_rows⟩ := c.def_ 12 (d := d_all_rows) rfl
  replace F_all_rows : Fun K "all_rows" "all_rows" s_all_rows _ fd_all_rows := fun_of_D F_all_rows
  have K_all_rows := ok_all_rows (P := P) (w := w) (mg := mg) (base := base) KX G c F_all_rows
  have b_all_rows : Binds K fd_all_rows ["many"] [] := F_all_rows.binds fun _ _ _ _ _ _ us hl => match us, hl with | [_], _ => rfl
  have g_check_marks := He.glo_ok KX G (c.fact 7 (f := .glo "check_marks") rfl)
  obtain ⟨fd_check_marks, F_check_marks⟩ := c.def_ 7 (d := d_check_marks) rfl
  replace F_check_marks : Fun K "check_marks" "check_marks" s_check_marks _ fd_check_marks := fun_of_D F_check_marks
  have K_check_marks := ok_check_marks (P := P) (w := w) (mg := mg) (base := base) KX G c F_check_marks
  have b_check_marks : Binds K fd_check_marks ["marks"] [] := F_check_marks.binds fun _ _ _ _ _ _ us hl => match us, hl with | [_], _ => rfl
  have g_check_numbers := He.glo_ok KX G (c.fact 11 (f := .glo "check_numbers") rfl)
  obtain ⟨fd_check_numbers, F_check_numbers⟩ := c.def_ 11 (d := d_check_numbers) rfl
  replace F_check_numbers : Fun K "check_numbers" "check_numbers" s_check_numbers _ fd_check_numbers := fun_of_D F_check_numbers
  have K_check_numbers := ok_check_numbers (P := P) (w := w) (mg := mg) (base := base) KX G c F_check_numbers
  have b_check_numbers : Binds K fd_check_numbers ["numbers", "many"] [] := F_check_numbers.binds fun _ _ _ _ _ _ us hl => match us, hl with | [_, _], _ => rfl
  have sc : FnScope N_Shares___init__ ["self", "marks", "numbers"] (defScope s_Shares___init__) := ⟨rfl, rfl, rfl, by decide +kernel, rfl, by decide +kernel, by decide +kernel⟩
  exact okM (k := 4) F sc fun cdv A outer s H E W co tk =>
  (es_cons (es_expr (ev_call (K_check_marks.mono (by decide)) co tk g_check_marks F_check_marks.kp b_check_marks (eq_val (ev_var (pv 1)) eq_nil)))
  (es_cons (es_expr (ev_call (K_check_numbers.mono (by decide)) co tk g_check_numbers F_check_numbers.kp b_check_numbers (eq_val (ev_var (pv 2)) (eq_val (ev_b cr_len n_len n_len_ (en_cons (ev_call (K_all_rows.mono (by decide)) co tk g_all_rows F_all_rows.kp b_all_rows (eq_val (ev_b cr_len n_len n_len_ (en_cons (ev_var (pv 1)) en_nil)) eq_nil)) en_nil)) eq_nil))))
  (es_cons (es_fld (c := "Shares") (i := 0) cl_Shares na_Shares_marks (pv 0) (ev_var (pv 1)))
  (es_cons (es_fld (c := "Shares") (i := 0) cl_Shares na_Shares_numbers (pv 0) (ev_var (pv 2)))
  (es_cons (es_fld (c := "Shares") (i := 0) cl_Shares na_Shares_total (pv 0) (ev_b (cr_sumM co.calm) n_sum n_sum_ (en_cons (ev_var (pv 2)) en_nil)))
  (es_one (es_fld (c := "Shares") (i := 0) cl_Shares na_Shares_known (pv 0) (ev_new (ef_dzip co.calm n_zip_ n_dict_ (en_cons (ev_call (K_all_rows.mono (by decide)) co tk g_all_rows F_all_rows.kp b_all_rows (eq_val (ev_b cr_len n_len n_len_ (en_cons (ev_var (pv 1)) en_nil)) eq_nil)) (en_cons (ev_var (pv 2)) en_nil)))))))))))
theorem ok_law_made (KX : K.In h) (G : h.Ns mainGlobals mg) (c : SaysP fa fn ps ex K) (F : Fun K "_law_made" "_law_made" s_law_made f fd) : FnG P w K mg base 7 f fd ["_law_names_here", "_law_table_here"] (spM K 2 Cm.m_law_made) := by
  have n_sorted_ := He.free_ok KX G (c.fact 50 (f := .free "sorted") rfl)
  have n_tuple_ := He.free_ok KX G (c.fact 53 (f := .free "tuple") rfl)
  have g_Shares := He.glo_ok KX G (c.fact 30 (f := .glo "Shares") rfl)
  have mk_Shares := He.mkr_ok (c.fact 32 (f := .mkr "Shares") rfl)
  obtain ⟨fd_Shares___init__, F_Shares___init__⟩ := c.def_ 13 (d := d_Shares___init__) rfl
  replace F_Shares___init__ : Fun K "__init__" "Shares.__init__" s_Shares___init__ _ fd_Shares___init__ := fun_of_D F_Shares___init__
  have K_Shares___init__ := ok_Shares___init__ (P := P) (w := w) (mg := mg) (base := base) KX G c F_Shares___init__
  have b_Shares___init__ : Binds K fd_Shares___init__ ["self", "marks", "numbers"] [] := F_Shares___init__.binds fun _ _ _ _ _ _ us hl => match us, hl with | [_, _, _], _ => rfl
  have sc : FnScope N_law_made ["_law_names_here", "_law_table_here"] (defScope s_law_made) := ⟨rfl, rfl, rfl, by decide +kernel, rfl, by decide +kernel, by decide +kernel⟩
  exact okM (k := 6) F sc fun cdv A outer s H E W co tk =>
  (es_one (es_ret (ev_new (ef_make mk_Shares (K_Shares___init__.mono (by decide)) co tk g_Shares b_Shares___init__ (en_cons (ev_var (pv 0)) (en_cons (ev_t call_tuple_of n_tuple n_tuple_ (en_cons (ev_new (ef_lc (own := [("_law_x", 2)]) co.calm sc.nd  (ei_of (ev_b (cr_sortX co.calm co.hr.units) n_sortX n_sorted_ (en_cons (ev_var (pv 1)) en_nil))) (blkOk_of (by kernel_rfl)) (fun _ _ _ _ _ => (eg_name (pg_name sc.nd (i := 2) rfl (by first | exact .inl rfl | exact .inr rfl)))) (fun _ _ _ _ _ => ets_nil) (fun _ _ _ _ _ => (ev_ix (co.blk _ _ _ _ _) (ev_var (pv 1)) (ev_var (pv 2)))) (by decide))) en_nil)) en_nil))))))
theorem ok_law_lots (KX : K.In h) (G : h.Ns mainGlobals mg) (c : SaysP fa fn ps ex K) (F : Fun K "_law_lots" "_law_lots" s_law_lots f fd) : FnG P w K mg base 1 f fd ["_law_many"] (spM K 1 Cm.m_law_lots_2) := by
  have n_range_ := He.free_ok KX G (c.fact 48 (f := .free "range") rfl)
  have n_sorted_ := He.free_ok KX G (c.fact 50 (f := .free "sorted") rfl)
  have n_tuple_ := He.free_ok KX G (c.fact 53 (f := .free "tuple") rfl)
  have sc : FnScope N_law_lots ["_law_many"] (defScope s_law_lots) := ⟨rfl, rfl, rfl, by decide +kernel, rfl, by decide +kernel, by decide +kernel⟩
  exact okM (k := 0) F sc fun cdv A outer s H E W co tk =>
  (es_cons (es_set (i := 1) (ev_lst (en_cons (ev_tup en_nil) (en_cons (ev_tup (en_cons (ev_c (d := .str "") pe_str rfl) en_nil)) en_nil))) sc.nd rfl (by first | exact .inl rfl | exact .inr rfl))
  (es_cons (es_for (passes_of rfl) co.calm (ei_rng1 rfl n_range_ (en_cons (ev_var (pv 0)) en_nil)) (eg_name (pg_name sc.nd (i := 2) rfl (by first | exact .inl rfl | exact .inr rfl))) (es_cons (es_ow (i := 3) (fun te h => ps_set sc.nd rfl (by first | exact .inl rfl | exact .inr rfl) h) (ef_lst en_nil))
  (es_cons (es_for (passes_of rfl) co.calm (ei_of (ev_var (pv 1))) (eg_name (pg_name sc.nd (i := 4) rfl (by first | exact .inl rfl | exact .inr rfl))) (es_one (es_for (passes_of rfl) co.calm (ei_of (ev_var (pv 1))) (eg_name (pg_name sc.nd (i := 5) rfl (by first | exact .inl rfl | exact .inr rfl))) (es_one (es_if (et_cmp (op_eqM co.hr.units) s_eq (ev_new (ef_lc (own := [("_law_x", 6)]) co.calm sc.nd  (ei_of (ev_var (pv 4))) (blkOk_of (by kernel_rfl)) (fun _ _ _ _ _ => (eg_name (pg_name sc.nd (i := 6) rfl (by first | exact .inl rfl | exact .inr rfl)))) (fun _ _ _ _ _ => (ets_one (et_cmp (op_notInM (hu_of (co.blk _ _ _ _ _).hr)) s_notIn (ev_var (pv 6)) (ev_var (pv 5)) (by first | exact nomark _ | rfl)))) (fun _ _ _ _ _ => (ev_var (pv 6))) (by decide))) (ev_lst en_nil) (by first | exact nomark _ | rfl)) (es_one (es_expr (ev_meth mu_app (pe_bm PySem.F.plainAttrs_list PySem.F.slot_list_append PySem.F.type_list_append mt_append (pv 3) (en_cons (ev_t call_tuple_of n_tuple n_tuple_ (en_cons (ev_op op_addM s_add (ev_new (ef_lc (own := [("_law_x", 6)]) co.calm sc.nd  (ei_of (ev_var (pv 4))) (blkOk_of (by kernel_rfl)) (fun _ _ _ _ _ => (eg_name (pg_name sc.nd (i := 6) rfl (by first | exact .inl rfl | exact .inr rfl)))) (fun _ _ _ _ _ => ets_nil) (fun _ _ _ _ _ => (ev_op op_addM s_add (ev_c (d := .str "0") pe_str rfl) (ev_var (pv 6)))) (by decide))) (ev_new (ef_lc (own := [("_law_x", 6)]) co.calm sc.nd  (ei_of (ev_var (pv 5))) (blkOk_of (by kernel_rfl)) (fun _ _ _ _ _ => (eg_name (pg_name sc.nd (i := 6) rfl (by first | exact .inl rfl | exact .inr rfl)))) (fun _ _ _ _ _ => ets_nil) (fun _ _ _ _ _ => (ev_op op_addM s_add (ev_c (d := .str "1") pe_str rfl) (ev_var (pv 6)))) (by decide)))) en_nil)) en_nil).pa)))) es_nil)))))
  (es_one (es_set (i := 1) (ev_var (pv 3)) sc.nd rfl (by first | exact .inl rfl | exact .inr rfl))))))
  (es_one (es_ret (ev_b (cr_sortX co.calm co.hr.units) n_sortX n_sorted_ (en_cons (ev_var (pv 1)) en_nil))))))
theorem ok_law_sum (KX : K.In h) (G : h.Ns mainGlobals mg) (c : SaysP fa fn ps ex K) (F : Fun K "_law_sum" "_law_sum" s_law_sum f fd) : FnG P w K mg base 1 f fd ["_law_table_here", "_law_lot"] (spM K 2 Cm.m_law_sum_2) := by
  have n_sum_ := He.free_ok KX G (c.fact 52 (f := .free "sum") rfl)
  have sc : FnScope N_law_sum ["_law_table_here", "_law_lot"] (defScope s_law_sum) := ⟨rfl, rfl, rfl, by decide +kernel, rfl, by decide +kernel, by decide +kernel⟩
  exact okM (k := 0) F sc fun cdv A outer s H E W co tk =>
  (es_one (es_ret (ev_b (cr_sumM co.calm) n_sum n_sum_ (en_cons (ev_new (ef_lc (own := [("_law_x", 2)]) co.calm sc.nd  (ei_of (ev_var (pv 1))) (blkOk_of (by kernel_rfl)) (fun _ _ _ _ _ => (eg_name (pg_name sc.nd (i := 2) rfl (by first | exact .inl rfl | exact .inr rfl)))) (fun _ _ _ _ _ => ets_nil) (fun _ _ _ _ _ => (ev_ix (co.blk _ _ _ _ _) (ev_var (pv 0)) (ev_var (pv 2)))) (by decide))) en_nil))))
theorem ok_law_help (KX : K.In h) (G : h.Ns mainGlobals mg) (c : SaysP fa fn ps ex K) (F : Fun K "_law_help" "_law_help" s_law_help f fd) : FnG P w K mg base 2 f fd ["_law_table_here", "_law_first_lot", "_law_second_lot"] (spM K 3 Cm.m_law_help_2) := by
  have n_sorted_ := He.free_ok KX G (c.fact 50 (f := .free "sorted") rfl)
  have g__law_sum := He.glo_ok KX G (c.fact 15 (f := .glo "_law_sum") rfl)
  obtain ⟨fd__law_sum, F__law_sum⟩ := c.def_ 16 (d := d_law_sum) rfl
  replace F__law_sum : Fun K "_law_sum" "_law_sum" s_law_sum _ fd__law_sum := fun_of_D F__law_sum
  have K__law_sum := ok_law_sum (P := P) (w := w) (mg := mg) (base := base) KX G c F__law_sum
  have b__law_sum : Binds K fd__law_sum ["_law_table_here", "_law_lot"] [] := F__law_sum.binds fun _ _ _ _ _ _ us hl => match us, hl with | [_, _], _ => rfl
  have sc : FnScope N_law_help ["_law_table_here", "_law_first_lot", "_law_second_lot"] (defScope s_law_help) := ⟨rfl, rfl, rfl, by decide +kernel, rfl, by decide +kernel, by decide +kernel⟩
  exact okM (k := 1) F sc fun cdv A outer s H E W co tk =>
  (es_cons (es_par2 (i := 3) (j := 4) (fun ta h => ps_par co.calm sc.nd rfl rfl (by decide) rfl rfl h rfl) (en_cons (ev_call (K__law_sum.mono (by decide)) co tk g__law_sum F__law_sum.kp b__law_sum (eq_val (ev_var (pv 0)) (eq_val (ev_new (ef_lc (own := [("_law_x", 5)]) co.calm sc.nd  (ei_of (ev_var (pv 1))) (blkOk_of (by kernel_rfl)) (fun _ _ _ _ _ => (eg_name (pg_name sc.nd (i := 5) rfl (by first | exact .inl rfl | exact .inr rfl)))) (fun _ _ _ _ _ => (ets_one (et_cmp (op_inM (hu_of (co.blk _ _ _ _ _).hr)) s_in (ev_var (pv 5)) (ev_var (pv 2)) (by first | exact nomark _ | rfl)))) (fun _ _ _ _ _ => (ev_var (pv 5))) (by decide))) eq_nil))) (en_cons (ev_call (K__law_sum.mono (by decide)) co tk g__law_sum F__law_sum.kp b__law_sum (eq_val (ev_var (pv 0)) (eq_val (ev_b (cr_sortX co.calm co.hr.units) n_sortX n_sorted_ (en_cons (ev_var (pv 0)) en_nil)) eq_nil))) en_nil)))
  (es_one (es_ret (ev_op op_sub s_sub (ev_op op_mulM s_mul (ev_var (pv 4)) (ev_var (pv 3))) (ev_op op_mulM s_mul (ev_call (K__law_sum.mono (by decide)) co tk g__law_sum F__law_sum.kp b__law_sum (eq_val (ev_var (pv 0)) (eq_val (ev_var (pv 1)) eq_nil))) (ev_call (K__law_sum.mono (by decide)) co tk g__law_sum F__law_sum.kp b__law_sum (eq_val (ev_var (pv 0)) (eq_val (ev_var (pv 2)) eq_nil))))))))
theorem ok_law_helps (KX : K.In h) (G : h.Ns mainGlobals mg) (c : SaysP fa fn ps ex K) (F : Fun K "_law_helps" "_law_helps" s_law_helps f fd) : FnG P w K mg base 3 f fd ["_law_table_here", "_law_many"] (spM K 2 Cm.m_law_helps) := by
  have n_len_ := He.free_ok KX G (c.fact 45 (f := .free "len") rfl)
  have n_range_ := He.free_ok KX G (c.fact 48 (f := .free "range") rfl)
  have g__law_help := He.glo_ok KX G (c.fact 16 (f := .glo "_law_help") rfl)
  obtain ⟨fd__law_help, F__law_help⟩ := c.def_ 17 (d := d_law_help) rfl
  replace F__law_help : Fun K "_law_help" "_law_help" s_law_help _ fd__law_help := fun_of_D F__law_help
  have K__law_help := ok_law_help (P := P) (w := w) (mg := mg) (base := base) KX G c F__law_help
  have b__law_help : Binds K fd__law_help ["_law_table_here", "_law_first_lot", "_law_second_lot"] [] := F__law_help.binds fun _ _ _ _ _ _ us hl => match us, hl with | [_, _, _], _ => rfl
  have g__law_lots := He.glo_ok KX G (c.fact 14 (f := .glo "_law_lots") rfl)
  obtain ⟨fd__law_lots, F__law_lots⟩ := c.def_ 15 (d := d_law_lots) rfl
  replace F__law_lots : Fun K "_law_lots" "_law_lots" s_law_lots _ fd__law_lots := fun_of_D F__law_lots
  have K__law_lots := ok_law_lots (P := P) (w := w) (mg := mg) (base := base) KX G c F__law_lots
  have b__law_lots : Binds K fd__law_lots ["_law_many"] [] := F__law_lots.binds fun _ _ _ _ _ _ us hl => match us, hl with | [_], _ => rfl
  have sc : FnScope N_law_helps ["_law_table_here", "_law_many"] (defScope s_law_helps) := ⟨rfl, rfl, rfl, by decide +kernel, rfl, by decide +kernel, by decide +kernel⟩
  exact okM (k := 2) F sc fun cdv A outer s H E W co tk =>
  (es_cons (es_parVF (i := 2) (j := 3) (by decide) (fun ta h => ps_par co.calm sc.nd rfl rfl (by decide) rfl rfl h rfl) (ev_call (K__law_lots.mono (by decide)) co tk g__law_lots F__law_lots.kp b__law_lots (eq_val (ev_var (pv 1)) eq_nil)) (ef_lst en_nil))
  (es_cons (es_for (passes_of rfl) co.calm (ei_rng1 rfl n_range_ (en_cons (ev_b cr_len n_len n_len_ (en_cons (ev_var (pv 2)) en_nil)) en_nil)) (eg_name (pg_name sc.nd (i := 4) rfl (by first | exact .inl rfl | exact .inr rfl))) (es_one (es_for (passes_of rfl) co.calm (ei_of (ev_sl (ev_var (pv 2)) (eo_some (ev_var (pv 4))) eo_none)) (eg_name (pg_name sc.nd (i := 5) rfl (by first | exact .inl rfl | exact .inr rfl))) (es_one (es_expr (ev_meth mu_app (pe_bm PySem.F.plainAttrs_list PySem.F.slot_list_append PySem.F.type_list_append mt_append (pv 3) (en_cons (ev_tup (en_cons (ev_call (K__law_help.mono (by decide)) co tk g__law_help F__law_help.kp b__law_help (eq_val (ev_var (pv 0)) (eq_val (ev_ix co (ev_var (pv 2)) (ev_var (pv 4))) (eq_val (ev_var (pv 5)) eq_nil)))) (en_cons (ev_ix co (ev_var (pv 2)) (ev_var (pv 4))) (en_cons (ev_var (pv 5)) en_nil)))) en_nil).pa)))))))
  (es_one (es_ret (ev_var (pv 3))))))
theorem ok_law_due (KX : K.In h) (G : h.Ns mainGlobals mg) (c : SaysP fa fn ps ex K) (F : Fun K "_law_due" "_law_due" s_law_due f fd) : FnG P w K mg base 4 f fd ["_law_table_here", "_law_many"] (spM K 2 m_law_due) := by
  have n_min_ := He.free_ok KX G (c.fact 47 (f := .free "min") rfl)
  have g__law_helps := He.glo_ok KX G (c.fact 17 (f := .glo "_law_helps") rfl)
  obtain ⟨fd__law_helps, F__law_helps⟩ := c.def_ 18 (d := d_law_helps) rfl
  replace F__law_helps : Fun K "_law_helps" "_law_helps" s_law_helps _ fd__law_helps := fun_of_D F__law_helps
  have K__law_helps := ok_law_helps (P := P) (w := w) (mg := mg) (base := base) KX G c F__law_helps
  have b__law_helps : Binds K fd__law_helps ["_law_table_here", "_law_many"] [] := F__law_helps.binds fun _ _ _ _ _ _ us hl => match us, hl with | [_, _], _ => rfl
  have sc : FnScope N_law_due ["_law_table_here", "_law_many"] (defScope s_law_due) := ⟨rfl, rfl, rfl, by decide +kernel, rfl, by decide +kernel, by decide +kernel⟩
  exact okM (k := 3) F sc fun cdv A outer s H E W co tk =>
  (es_cons (es_setLcV (i := 2) (own := [("_law_triple", 4)]) co.calm sc.nd rfl rfl (sw_true rfl rfl rfl (by decide +kernel))  (ei_of (ev_call (K__law_helps.mono (by decide)) co tk g__law_helps F__law_helps.kp b__law_helps (eq_val (ev_var (pv 0)) (eq_val (ev_var (pv 1)) eq_nil)))) (blkOk_of (by kernel_rfl)) (fun _ _ _ _ _ => (eg_name (pg_name sc.nd (i := 4) rfl (by first | exact .inl rfl | exact .inr rfl)))) (fun _ _ _ _ _ => (ets_one (et_cmp op_ltM s_ord (ev_ix (co.blk _ _ _ _ _) (ev_var (pv 4)) (ev_c (d := .int 0) pe_int rfl)) (ev_c (d := .int 0) pe_int rfl) (by first | exact nomark _ | rfl)))) (fun _ _ _ _ _ => (ev_var (pv 4))) (by decide))
  (es_cons (es_if (et_cmp (op_eqM co.hr.units) s_eq (ev_var (pv 2)) (ev_lst en_nil) (by first | exact nomark _ | rfl)) (es_one (es_ret (ev_c (d := .non) pe_non rfl))) es_nil)
  (es_cons (es_set (i := 3) (ev_b (cr_minM co.calm) n_min1 n_min_ (en_cons (ev_new (ef_lc (own := [("_law_triple", 4)]) co.calm sc.nd  (ei_of (ev_var (pv 2))) (blkOk_of (by kernel_rfl)) (fun _ _ _ _ _ => (eg_name (pg_name sc.nd (i := 4) rfl (by first | exact .inl rfl | exact .inr rfl)))) (fun _ _ _ _ _ => ets_nil) (fun _ _ _ _ _ => (ev_ix (co.blk _ _ _ _ _) (ev_var (pv 4)) (ev_c (d := .int 0) pe_int rfl))) (by decide))) en_nil)) sc.nd rfl (by first | exact .inl rfl | exact .inr rfl))
  (es_one (es_ret (ev_ix co (ev_new (ef_lc (own := [("_law_number", 5), ("_law_a", 6), ("_law_b", 7)]) co.calm sc.nd  (ei_of (ev_var (pv 2))) (blkOk_of (by kernel_rfl)) (fun _ _ _ _ _ => (eg_unp (n := 3) (co.blk _ _ _ _ _).calm (eg_cons (eg_name (pg_name sc.nd (i := 5) rfl (by first | exact .inl rfl | exact .inr rfl))) (eg_cons (eg_name (pg_name sc.nd (i := 6) rfl (by first | exact .inl rfl | exact .inr rfl))) (eg_cons (eg_name (pg_name sc.nd (i := 7) rfl (by first | exact .inl rfl | exact .inr rfl))) eg_nil))))) (fun _ _ _ _ _ => (ets_one (et_cmp (op_eqM (co.blk _ _ _ _ _).hr.units) s_eq (ev_var (pv 5)) (ev_var (pv 3)) (by first | exact nomark _ | rfl)))) (fun _ _ _ _ _ => (ev_tup (en_cons (ev_var (pv 6)) (en_cons (ev_var (pv 7)) en_nil)))) (by decide))) (ev_c (d := .int 0) pe_int rfl)))))))
theorem ok_law_names (KX : K.In h) (G : h.Ns mainGlobals mg) (c : SaysP fa fn ps ex K) (F : Fun K "_law_names" "_law_names" s_law_names f fd) : FnG P w K mg base 3 f fd ["_law_jar_here", "_law_many"] (spM K 2 Cm.m_law_names) := by
  have n_range_ := He.free_ok KX G (c.fact 48 (f := .free "range") rfl)
  have n_tuple_ := He.free_ok KX G (c.fact 53 (f := .free "tuple") rfl)
  have g__law_pick := He.glo_ok KX G (c.fact 1 (f := .glo "_law_pick") rfl)
  obtain ⟨fd__law_pick, F__law_pick⟩ := c.def_ 1 (d := d_law_pick) rfl
  replace F__law_pick : Fun K "_law_pick" "_law_pick" s_law_pick _ fd__law_pick := fun_of_D F__law_pick
  have K__law_pick := ok_law_pick (P := P) (w := w) (mg := mg) (base := base) KX G c F__law_pick
  have b__law_pick : Binds K fd__law_pick ["_law_jar_here", "_law_some"] [] := F__law_pick.binds fun _ _ _ _ _ _ us hl => match us, hl with | [_, _], _ => rfl
  have sc : FnScope N_law_names ["_law_jar_here", "_law_many"] (defScope s_law_names) := ⟨rfl, rfl, rfl, by decide +kernel, rfl, by decide +kernel, by decide +kernel⟩
  exact okM (k := 2) F sc fun cdv A outer s H E W co tk =>
  (es_cons (es_ow (i := 2) (fun te h => ps_set sc.nd rfl (by first | exact .inl rfl | exact .inr rfl) h) (ef_lst en_nil))
  (es_cons (es_for (passes_of rfl) co.calm (ei_rng1 rfl n_range_ (en_cons (ev_var (pv 1)) en_nil)) (eg_name (pg_name sc.nd (i := 3) rfl (by first | exact .inl rfl | exact .inr rfl))) (es_cons (es_set (i := 4) (ev_c (d := .str "") pe_str rfl) sc.nd rfl (by first | exact .inl rfl | exact .inr rfl))
  (es_cons (es_for (passes_of rfl) co.calm (ei_rng1 rfl n_range_ (en_cons (ev_call (K__law_pick.mono (by decide)) co tk g__law_pick F__law_pick.kp b__law_pick (eq_io (pv 0) (eq_val (ev_lst (en_cons (ev_c (d := .int 1) pe_int rfl) (en_cons (ev_c (d := .int 1) pe_int rfl) (en_cons (ev_c (d := .int 2) pe_int rfl) (en_cons (ev_c (d := .int 8) pe_int rfl) en_nil))))) eq_nil))) en_nil)) (eg_name (pg_name sc.nd (i := 5) rfl (by first | exact .inl rfl | exact .inr rfl))) (es_one (es_set (i := 4) (ev_op op_addM s_add (ev_var (pv 4)) (ev_call (K__law_pick.mono (by decide)) co tk g__law_pick F__law_pick.kp b__law_pick (eq_io (pv 0) (eq_val (ev_c (d := .str "abcdefghijklmnopqrstuvwxyz") pe_str rfl) eq_nil)))) sc.nd rfl (by first | exact .inl rfl | exact .inr rfl))))
  (es_one (es_expr (ev_meth mu_app (pe_bm PySem.F.plainAttrs_list PySem.F.slot_list_append PySem.F.type_list_append mt_append (pv 2) (en_cons (ev_ix co (ev_new (ef_lc (own := [("_law_each", 6)]) co.calm sc.nd  (ei_of (ev_lst (en_cons (ev_var (pv 4)) (en_cons (ev_c (d := .str "ma") pe_str rfl) (en_cons (ev_c (d := .str "mb") pe_str rfl) (en_cons (ev_c (d := .str "mc") pe_str rfl) (en_cons (ev_c (d := .str "md") pe_str rfl) en_nil))))))) (blkOk_of (by kernel_rfl)) (fun _ _ _ _ _ => (eg_name (pg_name sc.nd (i := 6) rfl (by first | exact .inl rfl | exact .inr rfl)))) (fun _ _ _ _ _ => (ets_one (et_pcmp (op_notInM (hu_of (co.blk _ _ _ _ _).hr)) s_notIn (ep_var (pv 6)) (ep_var (pv 2)) (by first | exact nomark _ | rfl)))) (fun _ _ _ _ _ => (ev_var (pv 6))) (by decide))) (ev_c (d := .int 0) pe_int rfl)) en_nil).pa)))))))
  (es_one (es_ret (ev_t call_tuple_of n_tuple n_tuple_ (en_cons (ev_var (pv 2)) en_nil))))))
theorem ok_check_shares (KX : K.In h) (G : h.Ns mainGlobals mg) (c : SaysP fa fn ps ex K) (F : Fun K "check_shares" "check_shares" s_check_shares f fd) : FnG P w K mg base 1 f fd ["shares"] (spM K 1 Cm.m_check_shares) := by
  have n_isinstance_ := He.free_ok KX G (c.fact 44 (f := .free "isinstance") rfl)
  have g_Shares := He.glo_ok KX G (c.fact 30 (f := .glo "Shares") rfl)
  have ex0 : ex K = true := c.more
  simp only [ex, Bool.and_eq_true] at ex0
  obtain ⟨⟨kt0, pr0_⟩, _⟩ := ex0
  have kt : Kits K ["Shares"] := ⟨kt0⟩
  have pr_Shares_many := prB_ok pr0_
  have sc : FnScope N_check_shares ["shares"] (defScope s_check_shares) := ⟨rfl, rfl, rfl, by decide +kernel, rfl, by decide +kernel, by decide +kernel⟩
  exact okM (k := 0) F sc fun cdv A outer s H E W co tk =>
  (es_one (es_if (et_not (et_tru (ev_isO (cn := "Shares") kt (ev_var (pv 0)) (pe_glob (v := .ref _) rfl g_Shares rfl) n_isinstance_))) (es_one es_bad) es_nil))
theorem ok_rising_lots (KX : K.In h) (G : h.Ns mainGlobals mg) (c : SaysP fa fn ps ex K) (F : Fun K "rising_lots" "rising_lots" s_rising_lots f fd) : FnG P w K mg base 1 f fd ["many"] (spM K 1 Cm.m_rising_lots) := by
  have n_all_ := He.free_ok KX G (c.fact 38 (f := .free "all") rfl)
  have n_range_ := He.free_ok KX G (c.fact 48 (f := .free "range") rfl)
  have n_sorted_ := He.free_ok KX G (c.fact 50 (f := .free "sorted") rfl)
  have n_tuple_ := He.free_ok KX G (c.fact 53 (f := .free "tuple") rfl)
  have sc : FnScope N_rising_lots ["many"] (defScope s_rising_lots) := ⟨rfl, rfl, rfl, by decide +kernel, rfl, by decide +kernel, by decide +kernel⟩
  exact okM (k := 0) F sc fun cdv A outer s H E W co tk =>
  (es_cons (es_set (i := 1) (ev_lst (en_cons (ev_tup en_nil) (en_cons (ev_tup (en_cons (ev_c (d := .str "") pe_str rfl) en_nil)) en_nil))) sc.nd rfl (by first | exact .inl rfl | exact .inr rfl))
  (es_cons (es_for (passes_of rfl) co.calm (ei_rng1 rfl n_range_ (en_cons (ev_var (pv 0)) en_nil)) (eg_name (pg_name sc.nd (i := 2) rfl (by first | exact .inl rfl | exact .inr rfl))) (es_cons (es_ow (i := 3) (fun te h => ps_set sc.nd rfl (by first | exact .inl rfl | exact .inr rfl) h) (ef_lst en_nil))
  (es_cons (es_for (passes_of rfl) co.calm (ei_of (ev_var (pv 1))) (eg_name (pg_name sc.nd (i := 4) rfl (by first | exact .inl rfl | exact .inr rfl))) (es_one (es_for (passes_of rfl) co.calm (ei_of (ev_var (pv 1))) (eg_name (pg_name sc.nd (i := 5) rfl (by first | exact .inl rfl | exact .inr rfl))) (es_one (es_if (et_tru (ev_b (cr_all co.calm) n_all n_all_ (en_cons (ev_new (ef_lc (own := [("row", 6)]) co.calm sc.nd  (ei_of (ev_var (pv 4))) (blkOk_of (by kernel_rfl)) (fun _ _ _ _ _ => (eg_name (pg_name sc.nd (i := 6) rfl (by first | exact .inl rfl | exact .inr rfl)))) (fun _ _ _ _ _ => ets_nil) (fun _ _ _ _ _ => (ev_cmp (op_inM (hu_of (co.blk _ _ _ _ _).hr)) s_in (ev_var (pv 6)) (ev_var (pv 5)) (by first | exact nomark _ | rfl))) (by decide))) en_nil))) (es_one (es_expr (ev_meth mu_app (pe_bm PySem.F.plainAttrs_list PySem.F.slot_list_append PySem.F.type_list_append mt_append (pv 3) (en_cons (ev_t call_tuple_of n_tuple n_tuple_ (en_cons (ev_op op_addM s_add (ev_new (ef_lc (own := [("row", 6)]) co.calm sc.nd  (ei_of (ev_var (pv 4))) (blkOk_of (by kernel_rfl)) (fun _ _ _ _ _ => (eg_name (pg_name sc.nd (i := 6) rfl (by first | exact .inl rfl | exact .inr rfl)))) (fun _ _ _ _ _ => ets_nil) (fun _ _ _ _ _ => (ev_op op_addM s_add (ev_c (d := .str "0") pe_str rfl) (ev_var (pv 6)))) (by decide))) (ev_new (ef_lc (own := [("row", 6)]) co.calm sc.nd  (ei_of (ev_var (pv 5))) (blkOk_of (by kernel_rfl)) (fun _ _ _ _ _ => (eg_name (pg_name sc.nd (i := 6) rfl (by first | exact .inl rfl | exact .inr rfl)))) (fun _ _ _ _ _ => ets_nil) (fun _ _ _ _ _ => (ev_op op_addM s_add (ev_c (d := .str "1") pe_str rfl) (ev_var (pv 6)))) (by decide)))) en_nil)) en_nil).pa)))) es_nil)))))
  (es_one (es_set (i := 1) (ev_var (pv 3)) sc.nd rfl (by first | exact .inl rfl | exact .inr rfl))))))
  (es_one (es_ret (ev_b (cr_sortX co.calm co.hr.units) n_sortX n_sorted_ (en_cons (ev_var (pv 1)) en_nil))))))
theorem ok_Shares_many (KX : K.In h) (G : h.Ns mainGlobals mg) (c : SaysP fa fn ps ex K) (F : Fun K "many" "Shares.many" s_Shares_many f fd) : FnG P w K mg base 1 f fd ["self"] (spM K 1 Cm.m_Shares_many) := by
  have n_len_ := He.free_ok KX G (c.fact 45 (f := .free "len") rfl)
  have cl_Shares := He.cls_ok (c.fact 29 (f := .cls "Shares") rfl)
  have na_Shares_marks := He.noat_ok (c.fact 34 (f := .noat "Shares" "marks") rfl)
  have sc : FnScope N_Shares_many ["self"] (defScope s_Shares_many) := ⟨rfl, rfl, rfl, by decide +kernel, rfl, by decide +kernel, by decide +kernel⟩
  exact okM (k := 0) F sc fun cdv A outer s H E W co tk =>
  (es_one (es_ret (ev_b cr_len n_len n_len_ (en_cons (ev_fld (c := "Shares") cl_Shares na_Shares_marks (ev_var (pv 0))) en_nil))))
theorem ok_Shares_added (KX : K.In h) (G : h.Ns mainGlobals mg) (c : SaysP fa fn ps ex K) (F : Fun K "added" "Shares.added" s_Shares_added f fd) : FnG P w K mg base 1 f fd ["self", "lot"] (spM K 2 Cm.m_Shares_added) := by
  have n_sum_ := He.free_ok KX G (c.fact 52 (f := .free "sum") rfl)
  have cl_Shares := He.cls_ok (c.fact 29 (f := .cls "Shares") rfl)
  have na_Shares_known := He.noat_ok (c.fact 33 (f := .noat "Shares" "known") rfl)
  have sc : FnScope N_Shares_added ["self", "lot"] (defScope s_Shares_added) := ⟨rfl, rfl, rfl, by decide +kernel, rfl, by decide +kernel, by decide +kernel⟩
  exact okM (k := 0) F sc fun cdv A outer s H E W co tk =>
  (es_one (es_ret (ev_b (cr_sumM co.calm) n_sum n_sum_ (en_cons (ev_new (ef_lc (own := [("row", 2)]) co.calm sc.nd  (ei_of (ev_var (pv 1))) (blkOk_of (by kernel_rfl)) (fun _ _ _ _ _ => (eg_name (pg_name sc.nd (i := 2) rfl (by first | exact .inl rfl | exact .inr rfl)))) (fun _ _ _ _ _ => ets_nil) (fun _ _ _ _ _ => (ev_ix (co.blk _ _ _ _ _) (ev_fld (c := "Shares") cl_Shares na_Shares_known (ev_var (pv 0))) (ev_var (pv 2)))) (by decide))) en_nil))))
theorem ok_all_helps (KX : K.In h) (G : h.Ns mainGlobals mg) (c : SaysP fa fn ps ex K) (F : Fun K "all_helps" "all_helps" s_all_helps f fd) : FnG P w K mg base 3 f fd ["shares"] (spM K 1 Cm.m_all_helps) := by
  have n_enumerate_ := He.free_ok KX G (c.fact 42 (f := .free "enumerate") rfl)
  have n_tuple_ := He.free_ok KX G (c.fact 53 (f := .free "tuple") rfl)
  have cl_Shares := He.cls_ok (c.fact 29 (f := .cls "Shares") rfl)
  have me_Shares_added := He.meth_ok (c.fact 31 (f := .meth "Shares" "added") rfl)
  have na_Shares_total := He.noat_ok (c.fact 36 (f := .noat "Shares" "total") rfl)
  have ex0 : ex K = true := c.more
  simp only [ex, Bool.and_eq_true] at ex0
  obtain ⟨⟨kt0, pr0_⟩, _⟩ := ex0
  have kt : Kits K ["Shares"] := ⟨kt0⟩
  have pr_Shares_many := prB_ok pr0_
  obtain ⟨fd_Shares_added, F_Shares_added⟩ := c.def_ 23 (d := d_Shares_added) rfl
  replace F_Shares_added : Fun K "added" "Shares.added" s_Shares_added _ fd_Shares_added := fun_of_D F_Shares_added
  have K_Shares_added := ok_Shares_added (P := P) (w := w) (mg := mg) (base := base) KX G c F_Shares_added
  have b_Shares_added : Binds K fd_Shares_added ["self", "lot"] [] := F_Shares_added.binds fun _ _ _ _ _ _ us hl => match us, hl with | [_, _], _ => rfl
  obtain ⟨fd_Shares_many, F_Shares_many⟩ := c.at_ 0 (p := ⟨prG "Shares" "many", d_Shares_many⟩) rfl
  replace F_Shares_many : Fun K "many" "Shares.many" s_Shares_many _ fd_Shares_many := fun_of_D F_Shares_many
  have K_Shares_many := ok_Shares_many (P := P) (w := w) (mg := mg) (base := base) KX G c F_Shares_many
  have b_Shares_many : Binds K fd_Shares_many ["self"] [] := F_Shares_many.binds fun _ _ _ _ _ _ us hl => match us, hl with | [_], _ => rfl
  have g_rising_lots := He.glo_ok KX G (c.fact 21 (f := .glo "rising_lots") rfl)
  obtain ⟨fd_rising_lots, F_rising_lots⟩ := c.def_ 22 (d := d_rising_lots) rfl
  replace F_rising_lots : Fun K "rising_lots" "rising_lots" s_rising_lots _ fd_rising_lots := fun_of_D F_rising_lots
  have K_rising_lots := ok_rising_lots (P := P) (w := w) (mg := mg) (base := base) KX G c F_rising_lots
  have b_rising_lots : Binds K fd_rising_lots ["many"] [] := F_rising_lots.binds fun _ _ _ _ _ _ us hl => match us, hl with | [_], _ => rfl
  have sc : FnScope N_all_helps ["shares"] (defScope s_all_helps) := ⟨rfl, rfl, rfl, by decide +kernel, rfl, by decide +kernel, by decide +kernel⟩
  exact okM (k := 2) F sc fun cdv A outer s H E W co tk =>
  (es_cons (es_set (i := 1) (ev_call (K_rising_lots.mono (by decide)) co tk g_rising_lots F_rising_lots.kp b_rising_lots (eq_val (ev_prop cl_Shares pr_Shares_many (K_Shares_many.mono (by decide)) co b_Shares_many (ev_var (pv 0))) eq_nil)) sc.nd rfl (by first | exact .inl rfl | exact .inr rfl))
  (es_cons (es_setDcV (i := 2) (t := true) (own := [("lot", 9)]) co.hr.units0 co.calm sc.nd rfl rfl (sw_dct rfl rfl rfl (by decide +kernel)) (ei_of (ev_var (pv 1))) (blkOk_of (by kernel_rfl)) (fun _ _ _ _ _ => (eg_name (pg_name sc.nd (i := 9) rfl (by first | exact .inl rfl | exact .inr rfl)))) (fun _ _ _ _ _ => ets_nil) (fun _ _ _ _ _ => (ev_var (pv 9))) (fun _ _ _ _ _ => (ev_mth (c := "Shares") cl_Shares me_Shares_added (K_Shares_added.mono (by decide)) (co.blk _ _ _ _ _) (takes0 _) b_Shares_added (ev_var (pv 0)) (en_cons (ev_var (pv 9)) en_nil))) (by decide))
  (es_cons (es_ow (i := 3) (fun te h => ps_set sc.nd rfl (by first | exact .inl rfl | exact .inr rfl) h) (ef_lst en_nil))
  (es_cons (es_for (passes_of rfl) co.calm (ei_enum rfl n_enumerate_ (en_cons (ev_var (pv 1)) en_nil)) (eg_unp (n := 2) co.calm (eg_cons (eg_name (pg_name sc.nd (i := 4) rfl (by first | exact .inl rfl | exact .inr rfl))) (eg_cons (eg_name (pg_name sc.nd (i := 5) rfl (by first | exact .inl rfl | exact .inr rfl))) eg_nil))) (es_cons (es_set (i := 6) (ev_new (ef_dc (t := false) (own := [("row", 10)]) co.hr.units0 co.calm sc.nd (ei_of (ev_var (pv 5))) (blkOk_of (by kernel_rfl)) (fun _ _ _ _ _ => (eg_name (pg_name sc.nd (i := 10) rfl (by first | exact .inl rfl | exact .inr rfl)))) (fun _ _ _ _ _ => ets_nil) (fun _ _ _ _ _ => (ev_var (pv 10))) (fun _ _ _ _ _ => (ev_c (d := .bl true) pe_bl rfl)) (by decide))) sc.nd rfl (by first | exact .inl rfl | exact .inr rfl))
  (es_one (es_for (passes_of rfl) co.calm (ei_of (ev_sl (ev_var (pv 1)) (eo_some (ev_var (pv 4))) eo_none)) (eg_name (pg_name sc.nd (i := 7) rfl (by first | exact .inl rfl | exact .inr rfl))) (es_cons (es_set (i := 8) (ev_t call_tuple_of n_tuple n_tuple_ (en_cons (ev_new (ef_lc (own := [("row", 10)]) co.calm sc.nd  (ei_of (ev_var (pv 7))) (blkOk_of (by kernel_rfl)) (fun _ _ _ _ _ => (eg_name (pg_name sc.nd (i := 10) rfl (by first | exact .inl rfl | exact .inr rfl)))) (fun _ _ _ _ _ => (ets_one (et_cmp (op_inM (hu_of (co.blk _ _ _ _ _).hr)) s_in (ev_var (pv 10)) (ev_var (pv 6)) (by first | exact nomark _ | rfl)))) (fun _ _ _ _ _ => (ev_var (pv 10))) (by decide))) en_nil)) sc.nd rfl (by first | exact .inl rfl | exact .inr rfl))
  (es_one (es_expr (ev_meth mu_app (pe_bm PySem.F.plainAttrs_list PySem.F.slot_list_append PySem.F.type_list_append mt_append (pv 3) (en_cons (ev_tup (en_cons (ev_op op_sub s_sub (ev_op op_mulM s_mul (ev_fld (c := "Shares") cl_Shares na_Shares_total (ev_var (pv 0))) (ev_ix co (ev_var (pv 2)) (ev_var (pv 8)))) (ev_op op_mulM s_mul (ev_ix co (ev_var (pv 2)) (ev_var (pv 5))) (ev_ix co (ev_var (pv 2)) (ev_var (pv 7))))) (en_cons (ev_var (pv 5)) (en_cons (ev_var (pv 7)) en_nil)))) en_nil).pa)))))))))
  (es_one (es_ret (ev_var (pv 3))))))))
theorem ok_first_hindering (KX : K.In h) (G : h.Ns mainGlobals mg) (c : SaysP fa fn ps ex K) (F : Fun K "first_hindering" "first_hindering" s_first_hindering f fd) : FnG P w K mg base 4 f fd ["shares"] (spM K 1 Cm.m_first_hindering) := by
  have g_all_helps := He.glo_ok KX G (c.fact 22 (f := .glo "all_helps") rfl)
  obtain ⟨fd_all_helps, F_all_helps⟩ := c.def_ 24 (d := d_all_helps) rfl
  replace F_all_helps : Fun K "all_helps" "all_helps" s_all_helps _ fd_all_helps := fun_of_D F_all_helps
  have K_all_helps := ok_all_helps (P := P) (w := w) (mg := mg) (base := base) KX G c F_all_helps
  have b_all_helps : Binds K fd_all_helps ["shares"] [] := F_all_helps.binds fun _ _ _ _ _ _ us hl => match us, hl with | [_], _ => rfl
  have sc : FnScope N_first_hindering ["shares"] (defScope s_first_hindering) := ⟨rfl, rfl, rfl, by decide +kernel, rfl, by decide +kernel, by decide +kernel⟩
  exact okM (k := 3) F sc fun cdv A outer s H E W co tk =>
  (es_cons (es_for (passes_of rfl) co.calm (ei_of (ev_call (K_all_helps.mono (by decide)) co tk g_all_helps F_all_helps.kp b_all_helps (eq_val (ev_var (pv 0)) eq_nil))) (eg_unp (n := 3) co.calm (eg_cons (eg_name (pg_name sc.nd (i := 1) rfl (by first | exact .inl rfl | exact .inr rfl))) (eg_cons (eg_name (pg_name sc.nd (i := 2) rfl (by first | exact .inl rfl | exact .inr rfl))) (eg_cons (eg_name (pg_name sc.nd (i := 3) rfl (by first | exact .inl rfl | exact .inr rfl))) eg_nil)))) (es_one (es_if (et_cmp op_ltM s_ord (ev_var (pv 1)) (ev_c (d := .int 0) pe_int rfl) (by first | exact nomark _ | rfl)) (es_one (es_ret (ev_tup (en_cons (ev_var (pv 2)) (en_cons (ev_var (pv 3)) en_nil))))) es_nil)))
  (es_one (es_ret (ev_c (d := .non) pe_non rfl))))
theorem ok_hindering (KX : K.In h) (G : h.Ns mainGlobals mg) (c : SaysP fa fn ps ex K) (F : Fun K "hindering" "hindering" s_hindering f fd) : FnG P w K mg base 5 f fd ["shares"] (spM K 1 Cm.m_hindering) := by
  have g_check_shares := He.glo_ok KX G (c.fact 20 (f := .glo "check_shares") rfl)
  obtain ⟨fd_check_shares, F_check_shares⟩ := c.def_ 21 (d := d_check_shares) rfl
  replace F_check_shares : Fun K "check_shares" "check_shares" s_check_shares _ fd_check_shares := fun_of_D F_check_shares
  have K_check_shares := ok_check_shares (P := P) (w := w) (mg := mg) (base := base) KX G c F_check_shares
  have b_check_shares : Binds K fd_check_shares ["shares"] [] := F_check_shares.binds fun _ _ _ _ _ _ us hl => match us, hl with | [_], _ => rfl
  have g_first_hindering := He.glo_ok KX G (c.fact 23 (f := .glo "first_hindering") rfl)
  obtain ⟨fd_first_hindering, F_first_hindering⟩ := c.def_ 25 (d := d_first_hindering) rfl
  replace F_first_hindering : Fun K "first_hindering" "first_hindering" s_first_hindering _ fd_first_hindering := fun_of_D F_first_hindering
  have K_first_hindering := ok_first_hindering (P := P) (w := w) (mg := mg) (base := base) KX G c F_first_hindering
  have b_first_hindering : Binds K fd_first_hindering ["shares"] [] := F_first_hindering.binds fun _ _ _ _ _ _ us hl => match us, hl with | [_], _ => rfl
  have sc : FnScope N_hindering ["shares"] (defScope s_hindering) := ⟨rfl, rfl, rfl, by decide +kernel, rfl, by decide +kernel, by decide +kernel⟩
  exact okM (k := 4) F sc fun cdv A outer s H E W co tk =>
  (es_cons (es_expr (ev_call (K_check_shares.mono (by decide)) co tk g_check_shares F_check_shares.kp b_check_shares (eq_val (ev_var (pv 0)) eq_nil)))
  (es_one (es_ret (ev_call (K_first_hindering.mono (by decide)) co tk g_first_hindering F_first_hindering.kp b_first_hindering (eq_val (ev_var (pv 0)) eq_nil)))))
theorem ok_most_hindering (KX : K.In h) (G : h.Ns mainGlobals mg) (c : SaysP fa fn ps ex K) (F : Fun K "most_hindering" "most_hindering" s_most_hindering f fd) : FnG P w K mg base 4 f fd ["shares"] (spM K 1 Cm.m_most_hindering) := by
  have g_all_helps := He.glo_ok KX G (c.fact 22 (f := .glo "all_helps") rfl)
  obtain ⟨fd_all_helps, F_all_helps⟩ := c.def_ 24 (d := d_all_helps) rfl
  replace F_all_helps : Fun K "all_helps" "all_helps" s_all_helps _ fd_all_helps := fun_of_D F_all_helps
  have K_all_helps := ok_all_helps (P := P) (w := w) (mg := mg) (base := base) KX G c F_all_helps
  have b_all_helps : Binds K fd_all_helps ["shares"] [] := F_all_helps.binds fun _ _ _ _ _ _ us hl => match us, hl with | [_], _ => rfl
  have g_check_shares := He.glo_ok KX G (c.fact 20 (f := .glo "check_shares") rfl)
  obtain ⟨fd_check_shares, F_check_shares⟩ := c.def_ 21 (d := d_check_shares) rfl
  replace F_check_shares : Fun K "check_shares" "check_shares" s_check_shares _ fd_check_shares := fun_of_D F_check_shares
  have K_check_shares := ok_check_shares (P := P) (w := w) (mg := mg) (base := base) KX G c F_check_shares
  have b_check_shares : Binds K fd_check_shares ["shares"] [] := F_check_shares.binds fun _ _ _ _ _ _ us hl => match us, hl with | [_], _ => rfl
  have sc : FnScope N_most_hindering ["shares"] (defScope s_most_hindering) := ⟨rfl, rfl, rfl, by decide +kernel, rfl, by decide +kernel, by decide +kernel⟩
  exact okM (k := 3) F sc fun cdv A outer s H E W co tk =>
  (es_cons (es_expr (ev_call (K_check_shares.mono (by decide)) co tk g_check_shares F_check_shares.kp b_check_shares (eq_val (ev_var (pv 0)) eq_nil)))
  (es_cons (es_set (i := 1) (ev_c (d := .non) pe_non rfl) sc.nd rfl (by first | exact .inl rfl | exact .inr rfl))
  (es_cons (es_for (passes_of rfl) co.calm (ei_of (ev_call (K_all_helps.mono (by decide)) co tk g_all_helps F_all_helps.kp b_all_helps (eq_val (ev_var (pv 0)) eq_nil))) (eg_unp (n := 3) co.calm (eg_cons (eg_name (pg_name sc.nd (i := 2) rfl (by first | exact .inl rfl | exact .inr rfl))) (eg_cons (eg_name (pg_name sc.nd (i := 3) rfl (by first | exact .inl rfl | exact .inr rfl))) (eg_cons (eg_name (pg_name sc.nd (i := 4) rfl (by first | exact .inl rfl | exact .inr rfl))) eg_nil)))) (es_one (es_if (et_w (ew_and (et_cmp op_ltM s_ord (ev_var (pv 2)) (ev_c (d := .int 0) pe_int rfl) (by first | exact nomark _ | rfl)) (ew_and1 (et_w (ew_or (et_cmp op_isN s_isN (ev_var (pv 1)) (ev_c (d := .non) pe_non rfl) (by first | exact nomark _ | rfl)) (ew_or1 (et_cmp op_ltM s_ord (ev_var (pv 2)) (ev_ix co (ev_var (pv 1)) (ev_c (d := .int 0) pe_int rfl)) (by first | exact nomark _ | rfl)))))))) (es_one (es_set (i := 1) (ev_tup (en_cons (ev_var (pv 2)) (en_cons (ev_var (pv 3)) (en_cons (ev_var (pv 4)) en_nil)))) sc.nd rfl (by first | exact .inl rfl | exact .inr rfl))) es_nil)))
  (es_one (es_ret (ev_if (et_cmp op_isN s_isN (ev_var (pv 1)) (ev_c (d := .non) pe_non rfl) (by first | exact nomark _ | rfl)) (ev_c (d := .non) pe_non rfl) (ev_sl (ev_var (pv 1)) (eo_some (ev_c (d := .int 1) pe_int rfl)) eo_none)))))))
theorem ok_law_right (KX : K.In h) (G : h.Ns mainGlobals mg) (c : SaysP fa fn ps ex K) (F : Fun K "_law_right" "_law_right" s_law_right f fd) : FnG P w K mg base 8 f fd ["_law_jar_here"] (spM K 1 m_law_right) := by
  have n_range_ := He.free_ok KX G (c.fact 48 (f := .free "range") rfl)
  have n_repr_ := He.free_ok KX G (c.fact 49 (f := .free "repr") rfl)
  have g__law_due := He.glo_ok KX G (c.fact 18 (f := .glo "_law_due") rfl)
  obtain ⟨fd__law_due, F__law_due⟩ := c.def_ 19 (d := d_law_due) rfl
  replace F__law_due : Fun K "_law_due" "_law_due" s_law_due _ fd__law_due := fun_of_D F__law_due
  have K__law_due := ok_law_due (P := P) (w := w) (mg := mg) (base := base) KX G c F__law_due
  have b__law_due : Binds K fd__law_due ["_law_table_here", "_law_many"] [] := F__law_due.binds fun _ _ _ _ _ _ us hl => match us, hl with | [_, _], _ => rfl
  have g__law_made := He.glo_ok KX G (c.fact 13 (f := .glo "_law_made") rfl)
  obtain ⟨fd__law_made, F__law_made⟩ := c.def_ 14 (d := d_law_made) rfl
  replace F__law_made : Fun K "_law_made" "_law_made" s_law_made _ fd__law_made := fun_of_D F__law_made
  have K__law_made := ok_law_made (P := P) (w := w) (mg := mg) (base := base) KX G c F__law_made
  have b__law_made : Binds K fd__law_made ["_law_names_here", "_law_table_here"] [] := F__law_made.binds fun _ _ _ _ _ _ us hl => match us, hl with | [_, _], _ => rfl
  have g__law_names := He.glo_ok KX G (c.fact 19 (f := .glo "_law_names") rfl)
  obtain ⟨fd__law_names, F__law_names⟩ := c.def_ 20 (d := d_law_names) rfl
  replace F__law_names : Fun K "_law_names" "_law_names" s_law_names _ fd__law_names := fun_of_D F__law_names
  have K__law_names := ok_law_names (P := P) (w := w) (mg := mg) (base := base) KX G c F__law_names
  have b__law_names : Binds K fd__law_names ["_law_jar_here", "_law_many"] [] := F__law_names.binds fun _ _ _ _ _ _ us hl => match us, hl with | [_, _], _ => rfl
  have g__law_pick := He.glo_ok KX G (c.fact 1 (f := .glo "_law_pick") rfl)
  obtain ⟨fd__law_pick, F__law_pick⟩ := c.def_ 1 (d := d_law_pick) rfl
  replace F__law_pick : Fun K "_law_pick" "_law_pick" s_law_pick _ fd__law_pick := fun_of_D F__law_pick
  have K__law_pick := ok_law_pick (P := P) (w := w) (mg := mg) (base := base) KX G c F__law_pick
  have b__law_pick : Binds K fd__law_pick ["_law_jar_here", "_law_some"] [] := F__law_pick.binds fun _ _ _ _ _ _ us hl => match us, hl with | [_, _], _ => rfl
  have g__law_table := He.glo_ok KX G (c.fact 4 (f := .glo "_law_table") rfl)
  obtain ⟨fd__law_table, F__law_table⟩ := c.def_ 4 (d := d_law_table) rfl
  replace F__law_table : Fun K "_law_table" "_law_table" s_law_table _ fd__law_table := fun_of_D F__law_table
  have K__law_table := ok_law_table (P := P) (w := w) (mg := mg) (base := base) KX G c F__law_table
  have b__law_table : Binds K fd__law_table ["_law_jar_here", "_law_many"] [] := F__law_table.binds fun _ _ _ _ _ _ us hl => match us, hl with | [_, _], _ => rfl
  have g_hindering := He.glo_ok KX G (c.fact 24 (f := .glo "hindering") rfl)
  obtain ⟨fd_hindering, F_hindering⟩ := c.def_ 26 (d := d_hindering) rfl
  replace F_hindering : Fun K "hindering" "hindering" s_hindering _ fd_hindering := fun_of_D F_hindering
  have K_hindering := ok_hindering (P := P) (w := w) (mg := mg) (base := base) KX G c F_hindering
  have b_hindering : Binds K fd_hindering ["shares"] [] := F_hindering.binds fun _ _ _ _ _ _ us hl => match us, hl with | [_], _ => rfl
  have g_most_hindering := He.glo_ok KX G (c.fact 25 (f := .glo "most_hindering") rfl)
  obtain ⟨fd_most_hindering, F_most_hindering⟩ := c.def_ 27 (d := d_most_hindering) rfl
  replace F_most_hindering : Fun K "most_hindering" "most_hindering" s_most_hindering _ fd_most_hindering := fun_of_D F_most_hindering
  have K_most_hindering := ok_most_hindering (P := P) (w := w) (mg := mg) (base := base) KX G c F_most_hindering
  have b_most_hindering : Binds K fd_most_hindering ["shares"] [] := F_most_hindering.binds fun _ _ _ _ _ _ us hl => match us, hl with | [_], _ => rfl
  have kb_most_hindering_0 : KB K fd_most_hindering ["shares"] ["shares"] [0] := Mi.Fun.kb F_most_hindering fun _ _ _ _ _ _ us hl => match us, hl with | [_], _ => rfl
  have sc : FnScope N_law_right ["_law_jar_here"] (defScope s_law_right) := ⟨rfl, rfl, rfl, by decide +kernel, rfl, by decide +kernel, by decide +kernel⟩
  exact okM (k := 7) F sc fun cdv A outer s H E W co tk =>
  (es_cons (es_for (passes_of rfl) co.calm (ei_rng1 rfl n_range_ (en_cons (ev_c (d := .int 6) pe_int rfl) en_nil)) (eg_name (pg_name sc.nd (i := 1) rfl (by first | exact .inl rfl | exact .inr rfl))) (es_cons (es_set (i := 2) (ev_call (K__law_pick.mono (by decide)) co tk g__law_pick F__law_pick.kp b__law_pick (eq_io (pv 0) (eq_val (ev_lst (en_cons (ev_c (d := .int 1) pe_int rfl) (en_cons (ev_c (d := .int 2) pe_int rfl) (en_cons (ev_c (d := .int 2) pe_int rfl) (en_cons (ev_c (d := .int 3) pe_int rfl) (en_cons (ev_c (d := .int 3) pe_int rfl) en_nil)))))) eq_nil))) sc.nd rfl (by first | exact .inl rfl | exact .inr rfl))
  (es_cons (es_set (i := 3) (ev_call (K__law_table.mono (by decide)) co tk g__law_table F__law_table.kp b__law_table (eq_io (pv 0) (eq_val (ev_var (pv 2)) eq_nil))) sc.nd rfl (by first | exact .inl rfl | exact .inr rfl))
  (es_cons (es_par2 (i := 4) (j := 5) (fun ta h => ps_par co.calm sc.nd rfl rfl (by decide) rfl rfl h rfl) (en_cons (ev_call (K__law_made.mono (by decide)) co tk g__law_made F__law_made.kp b__law_made (eq_val (ev_call (K__law_names.mono (by decide)) co tk g__law_names F__law_names.kp b__law_names (eq_io (pv 0) (eq_val (ev_var (pv 2)) eq_nil))) (eq_val (ev_var (pv 3)) eq_nil))) (en_cons (ev_call (K__law_due.mono (by decide)) co tk g__law_due F__law_due.kp b__law_due (eq_val (ev_var (pv 3)) (eq_val (ev_var (pv 2)) eq_nil))) en_nil)))
  (es_cons (es_if (et_cmp (op_neM co.hr.units) s_ne (ev_b (cr_repr co) n_repr n_repr_ (en_cons (ev_lst (en_cons (ev_call (K_most_hindering.mono (by decide)) co tk g_most_hindering F_most_hindering.kp b_most_hindering (eq_val (ev_var (pv 4)) eq_nil)) (en_cons (ev_callK (K_most_hindering.mono (by decide)) co tk g_most_hindering F_most_hindering.kp kb_most_hindering_0 (ks := ["shares"]) (ek_val (ev_var (pv 4)) ek_nil) (fun as h => by match as, h with | [_], _ => rfl)) en_nil))) en_nil)) (ev_b (cr_repr co) n_repr n_repr_ (en_cons (ev_lst (en_cons (ev_var (pv 5)) (en_cons (ev_var (pv 5)) en_nil))) en_nil)) (by first | exact nomark _ | rfl)) (es_one (es_ret (ev_c (d := .bl false) pe_bl rfl))) es_nil)
  (es_one (es_if (et_cmp (op_neM co.hr.units) s_ne (ev_cmp op_isN s_isN (ev_call (K_hindering.mono (by decide)) co tk g_hindering F_hindering.kp b_hindering (eq_val (ev_var (pv 4)) eq_nil)) (ev_c (d := .non) pe_non rfl) (by first | exact nomark _ | rfl)) (ev_cmp op_isN s_isN (ev_var (pv 5)) (ev_c (d := .non) pe_non rfl) (by first | exact nomark _ | rfl)) (by first | exact nomark _ | rfl)) (es_one (es_ret (ev_c (d := .bl false) pe_bl rfl))) es_nil)))))))
  (es_one (es_ret (ev_c (d := .bl true) pe_bl rfl))))
theorem ok_law_jar (KX : K.In h) (G : h.Ns mainGlobals mg) (c : SaysP fa fn ps ex K) (F : Fun K "_law_jar" "_law_jar" s_law_jar f fd) : FnG P w K mg base 1 f fd ["_law_script", "_law_turn"] (spN K 2 Cm.m_law_jar) := by
  have n_abs_ := He.free_ok KX G (c.fact 37 (f := .free "abs") rfl)
  have n_int_ := He.free_ok KX G (c.fact 43 (f := .free "int") rfl)
  have n_len_ := He.free_ok KX G (c.fact 45 (f := .free "len") rfl)
  have sc : FnScope N_law_jar ["_law_script", "_law_turn"] (defScope s_law_jar) := ⟨rfl, rfl, rfl, by decide +kernel, rfl, by decide +kernel, by decide +kernel⟩
  exact okN (k := 0) F sc fun cdv A outer s H E W co tk =>
  (sn_cons (es_set (i := 2) (ev_op op_addM s_add (ev_c (d := .int 628318) pe_int rfl) (ev_op op_mulM s_mul (ev_c (d := .int 30103) pe_int rfl) (ev_var (pv 1)))) sc.nd rfl (by first | exact .inl rfl | exact .inr rfl))
  (sn_cons (es_for (passes_of rfl) co.calm (ei_of (ev_sl (ev_var (pv 0)) eo_none (eo_some (ev_c (d := .int 7) pe_int rfl)))) (eg_name (pg_name sc.nd (i := 3) rfl (by first | exact .inl rfl | exact .inr rfl))) (es_one (es_set (i := 2) (ev_op op_mod s_mod (ev_t cr_int n_int n_int_ (en_cons (ev_op op_addM s_add (ev_op op_addM s_add (ev_op op_mulM s_mul (ev_var (pv 2)) (ev_c (d := .int 50021) pe_int rfl)) (ev_op op_mulM s_mul (ev_t cr_int n_int n_int_ (en_cons (ev_var (pv 3)) en_nil)) (ev_c (d := .int 23) pe_int rfl))) (ev_var (pv 1))) en_nil)) (ev_c (d := .int 2147483137) pe_int rfl)) sc.nd rfl (by first | exact .inl rfl | exact .inr rfl))))
  (sn_cons (es_set (i := 4) (ev_if (et_cmp op_ltM s_ord (ev_var (pv 1)) (ev_b cr_len n_len n_len_ (en_cons (ev_var (pv 0)) en_nil)) (by first | exact nomark _ | rfl)) (ev_t cr_int n_int n_int_ (en_cons (ev_ix co (ev_var (pv 0)) (ev_var (pv 1))) en_nil)) (ev_var (pv 2))) sc.nd rfl (by first | exact .inl rfl | exact .inr rfl))
  (sn_ret (ef_lst (en_cons (ev_if (et_w (ew_or (et_cmp op_ltM s_ord (ev_var (pv 4)) (ev_c (d := .int 0) pe_int rfl) (by first | exact nomark _ | rfl)) (ew_or1 (et_cmp op_geM s_ord (ev_var (pv 4)) (ev_op op_pow s_pow (ev_c (d := .int 10) pe_int rfl) (ev_c (d := .int 18) pe_int rfl)) (by first | exact nomark _ | rfl))))) (ev_b call_abs n_abs n_abs_ (en_cons (ev_var (pv 4)) en_nil)) (ev_c (d := .int 0) pe_int rfl)) (en_cons (ev_op op_mod s_mod (ev_t cr_int n_int n_int_ (en_cons (ev_op op_addM s_add (ev_var (pv 2)) (ev_op op_mulM s_mul (ev_var (pv 4)) (ev_c (d := .int 29) pe_int rfl))) en_nil)) (ev_c (d := .int 2147483137) pe_int rfl)) (en_cons (ev_c (d := .int 0) pe_int rfl) en_nil))))))))
theorem ok_law (KX : K.In h) (G : h.Ns mainGlobals mg) (c : SaysP fa fn ps ex K) (F : Fun K "law" "law" s_law f fd) : FnG P w K mg base 9 f fd ["_law_script"] (spM K 1 m_law) := by
  have n_all_ := He.free_ok KX G (c.fact 38 (f := .free "all") rfl)
  have n_len_ := He.free_ok KX G (c.fact 45 (f := .free "len") rfl)
  have n_max_ := He.free_ok KX G (c.fact 46 (f := .free "max") rfl)
  have n_min_ := He.free_ok KX G (c.fact 47 (f := .free "min") rfl)
  have n_range_ := He.free_ok KX G (c.fact 48 (f := .free "range") rfl)
  have g__law_jar := He.glo_ok KX G (c.fact 27 (f := .glo "_law_jar") rfl)
  obtain ⟨fd__law_jar, F__law_jar⟩ := c.def_ 29 (d := d_law_jar) rfl
  replace F__law_jar : Fun K "_law_jar" "_law_jar" s_law_jar _ fd__law_jar := fun_of_D F__law_jar
  have K__law_jar := ok_law_jar (P := P) (w := w) (mg := mg) (base := base) KX G c F__law_jar
  have b__law_jar : Binds K fd__law_jar ["_law_script", "_law_turn"] [] := F__law_jar.binds fun _ _ _ _ _ _ us hl => match us, hl with | [_, _], _ => rfl
  have g__law_right := He.glo_ok KX G (c.fact 26 (f := .glo "_law_right") rfl)
  obtain ⟨fd__law_right, F__law_right⟩ := c.def_ 28 (d := d_law_right) rfl
  replace F__law_right : Fun K "_law_right" "_law_right" s_law_right _ fd__law_right := fun_of_D F__law_right
  have K__law_right := ok_law_right (P := P) (w := w) (mg := mg) (base := base) KX G c F__law_right
  have b__law_right : Binds K fd__law_right ["_law_jar_here"] [] := F__law_right.binds fun _ _ _ _ _ _ us hl => match us, hl with | [_], _ => rfl
  have sc : FnScope N_law ["_law_script"] (defScope s_law) := ⟨rfl, rfl, rfl, by decide +kernel, rfl, by decide +kernel, by decide +kernel⟩
  exact okM (k := 8) F sc fun cdv A outer s H E W co tk =>
  (es_one (es_ret (ev_b (cr_all co.calm) n_all n_all_ (en_cons (ev_new (ef_lc (own := [("_law_turn", 1)]) co.calm sc.nd  (ei_rng1 rfl n_range_ (en_cons (ev_b (call_maxB co.calm) n_best n_max_ (en_cons (ev_c (d := .int 2) pe_int rfl) (en_cons (ev_b (call_minB co.calm) n_best n_min_ (en_cons (ev_b cr_len n_len n_len_ (en_cons (ev_var (pv 0)) en_nil)) (en_cons (ev_c (d := .int 5) pe_int rfl) en_nil))) en_nil))) en_nil)) (blkOk_of (by kernel_rfl)) (fun _ _ _ _ _ => (eg_name (pg_name sc.nd (i := 1) rfl (by first | exact .inl rfl | exact .inr rfl)))) (fun _ _ _ _ _ => ets_nil) (fun _ _ _ _ _ => (ev_callF (K__law_right.mono (by decide)) (co.blk _ _ _ _ _) (takes0 _) g__law_right F__law_right.kp b__law_right (ef_call (K__law_jar.mono (by decide)) (co.blk _ _ _ _ _) (takes0 _) g__law_jar F__law_jar.kp b__law_jar (en_cons (ev_var (pv 0)) (en_cons (ev_var (pv 1)) en_nil))))) (by decide))) en_nil))))
end
end Lk33

set_option Elab.async false
set_option linter.all false
set_option maxRecDepth 100000
set_option maxHeartbeats 4000000
/-! Lk33p: the most hindering lots, plain -/
namespace Pl
open PySem Mi
theorem law_helps_ok {n : Nat} {t : Str → Int} (T : Tab n t) (hn : n ≤ 3) : Cm.m_law_helps [.v (tabD n t), .v (.int (n : Nat))] = .ok (.lst ((helpsT n t).map encT)) [.v (tabD n t), .v (.int (n : Nat))] := by
  have hn4 : n ≤ 4 := by omega
  have lo := law_lots_ok hn4
  have len := risS_len hn
  have ln := risL_len n
  refine dv2 (wp_seq (wp_ev ?_))
  simp [↓bind_eq, lo]
  have rn : rngD 0 ((risS n).length : Nat) = some (rng (risS n).length) := rngD_nat (by omega)
  refine wp_seq (wp_forD (ds := rng (risS n).length) (e1 := [.v (tabD n t), .v (.int (n : Nat)), .v (.lst (risL n)), .ow (.lst []), .un, .un]) (by simp [↓bind_eq, gLen, ln, rn])
    (fun i e => ∃ s4 s5 : Sl, e = [.v (tabD n t), .v (.int (n : Nat)), .v (.lst (risL n)), .ow (.lst ((preT n t i).map encT)), s4, s5] ∧ isIoS s4 = false ∧ isIoS s5 = false) ⟨_, _, rfl, rfl, rfl⟩ ?_ ?_)
  · rintro i d e hd ⟨s4, s5, rfl, h4, h5⟩
    obtain ⟨hi, rfl⟩ := rng_get hd
    have hx : (risL n)[i]? = some ((risL n)[i]'(by omega)) := List.getElem?_eq_getElem (by omega)
    obtain ⟨_, ex, ha⟩ := risS_get hx
    rw [ex] at hx
    have gx : gIx (.lst (risL n)) (.int (i : Nat)) = some (.tup (txs ((risS n).getD i []))) := by
      simp only [gIx]
      exact atI_nat hx
    have La := risS_lot hn4 ha
    have hp := preT_len hn t i
    have cut : cutL (risL n) (some ((i : Nat) : Int)) none = (risL n).drop i := cut_from (by omega)
    generalize ea : (risS n).getD i [] = a at ha La gx
    refine ⟨[.v (tabD n t), .v (.int (n : Nat)), .v (.lst (risL n)), .ow (.lst ((preT n t i).map encT)), .v (.int (i : Nat)), s5], by simp [h4], ?_⟩
    refine wp_forD (ds := (risL n).drop i) (e1 := [.v (tabD n t), .v (.int (n : Nat)), .v (.lst (risL n)), .ow (.lst ((preT n t i).map encT)), .v (.int (i : Nat)), s5]) (by simp [↓bind_eq, isInt, gSl, cut, iterD])
      (fun j e => ∃ s5 : Sl, e = [.v (tabD n t), .v (.int (n : Nat)), .v (.lst (risL n)), .ow (.lst (accT n t i j)), .v (.int (i : Nat)), s5] ∧ isIoS s5 = false)
      ⟨s5, by rw [accT_0], h5⟩ ?_ ?_
    · rintro j d e hd ⟨s5, rfl, h5⟩
      obtain ⟨b, hb, rfl, hr⟩ := rowT_get (t := t) hd
      rw [ea] at hr
      have Lb := risS_lot hn4 hb
      have hh := jhelp_ok T hn4 La.inR Lb.inR (La.len hn4) (Lb.len hn4)
      refine ⟨[.v (tabD n t), .v (.int (n : Nat)), .v (.lst (risL n)), .ow (.lst (accT n t i j)), .v (.int (i : Nat)), .v (.tup (txs b))], by simp [h5], wp_drop ?_⟩
      have ga := gApp_ok (ds := accT n t i j) (d := encT (trOf n t a b)) (by
        have := accT_len hn t (i := i) (by omega) j
        omega)
      have sc := accT_succ hr
      simp only [encT, trOf] at ga sc
      simp [↓bind_eq, gx, hh, ga]
      exact ⟨_, ⟨sc, rfl⟩, rfl⟩
    · rintro e ⟨s5, rfl, h5⟩
      rw [accT_end]
      exact ⟨_, _, rfl, rfl, h5⟩
  · rintro e ⟨s4, s5, rfl, h4, h5⟩
    rw [rng_len]
    refine wp_ret ?_
    simp [↓bind_eq]
    exact .ret
/-! ### the least help -/
def bestStep (b : Option Tr) (x : Tr) : Option Tr := if x.1 < 0 ∧ (∀ y, b = some y → x.1 < y.1) then some x else b
def bestT (l : List Tr) : Option Tr := l.foldl bestStep none
def BestOf (l : List Tr) : Option Tr → Prop
  | none => ∀ y ∈ l, ¬ y.1 < 0
  | some x => x.1 < 0 ∧ (∀ y ∈ l, x.1 ≤ y.1) ∧ l.find? (fun y => decide (y.1 = x.1)) = some x
theorem best_more {l : List Tr} {b : Option Tr} (h : BestOf l b) (x : Tr) : BestOf (l ++ [x]) (bestStep b x) := by
  cases b with
  | none =>
    unfold bestStep
    by_cases hx : x.1 < 0
    · rw [if_pos ⟨hx, fun y e => by cases e⟩]
      refine ⟨hx, fun y hy => ?_, ?_⟩
      · rcases List.mem_append.mp hy with q | q
        · have := h y q; omega
        · simp at q; rw [q]; omega
      · rw [List.find?_append]
        have : l.find? (fun y => decide (y.1 = x.1)) = none := List.find?_eq_none.mpr fun y hy => by
          have := h y hy
          simp
          omega
        rw [this]
        simp
    · rw [if_neg fun q => hx q.1]
      intro y hy
      rcases List.mem_append.mp hy with q | q
      · exact h y q
      · simp at q; rw [q]; exact hx
  | some z =>
    obtain ⟨h1, h2, h3⟩ := h
    unfold bestStep
    by_cases hx : x.1 < z.1
    · rw [if_pos ⟨by omega, fun y e => by cases e; exact hx⟩]
      refine ⟨by omega, fun y hy => ?_, ?_⟩
      · rcases List.mem_append.mp hy with q | q
        · have := h2 y q; omega
        · simp at q; rw [q]; omega
      · rw [List.find?_append]
        have : l.find? (fun y => decide (y.1 = x.1)) = none := List.find?_eq_none.mpr fun y hy => by
          have := h2 y hy
          simp
          omega
        rw [this]
        simp
    · rw [if_neg fun q => hx (q.2 z rfl)]
      refine ⟨h1, fun y hy => ?_, ?_⟩
      · rcases List.mem_append.mp hy with q | q
        · exact h2 y q
        · simp at q; rw [q]; omega
      · rw [List.find?_append, h3]
        rfl
theorem best_of (l : List Tr) : BestOf l (bestT l) := by
  have core : ∀ (r p : List Tr) (b : Option Tr), BestOf p b → BestOf (p ++ r) (r.foldl bestStep b) := by
    intro r
    induction r with
    | nil => intro p b h; simpa using h
    | cons x r ih =>
      intro p b h
      have := ih (p ++ [x]) _ (best_more h x)
      simpa using this
  have := core l [] none (fun y hy => by cases hy)
  unfold bestT
  simpa using this
def bestD : Option Tr → D
  | none => .non
  | some x => encT x
def endD : Option Tr → D
  | none => .non
  | some x => .tup [.tup (txs x.2.1), .tup (txs x.2.2)]
theorem most_ok {n : Nat} {ms : List Str} {t : Str → Int} (M : Names n ms) (T : Tab n t) (hn : n ≤ 3) : Cm.m_most_hindering [.v (shD n ms t)] = .ok (endD (bestT (helpsT n t))) [.v (shD n ms t)] := by
  have ah := all_helps_ok M T hn
  refine dv1 (wp_seq (wp_drop ?_))
  simp [↓bind_eq, check_shares_ok]
  refine wp_seq (wp_asg ?_)
  simp [↓bind_eq]
  refine wp_seq (wp_forD (ds := (helpsT n t).map encT) (e1 := [.v (shD n ms t), .v .non, .un, .un, .un]) (by simp [↓bind_eq, ah, iterD])
    (fun i e => ∃ s2 s3 s4 : Sl, e = [.v (shD n ms t), .v (bestD (bestT ((helpsT n t).take i))), s2, s3, s4] ∧ isIoS s2 = false ∧ isIoS s3 = false ∧ isIoS s4 = false) ⟨_, _, _, rfl, rfl, rfl, rfl⟩ ?_ ?_)
  · rintro i d e hd ⟨s2, s3, s4, rfl, h2, h3, h4⟩
    rw [List.getElem?_map] at hd
    obtain ⟨x, hx, rfl⟩ := Option.map_eq_some_iff.mp hd
    have sn : bestT ((helpsT n t).take (i + 1)) = bestStep (bestT ((helpsT n t).take i)) x := by
      rw [take_snoc hx]
      unfold bestT
      rw [List.foldl_append]
      rfl
    rw [sn]
    generalize bestT ((helpsT n t).take i) = b
    refine ⟨[.v (shD n ms t), .v (bestD b), .v (.int x.1), .v (.tup (txs x.2.1)), .v (.tup (txs x.2.2))], by simp [encT, h2, h3, h4], wp_if ?_⟩
    by_cases hx : x.1 < 0
    · cases b with
      | none =>
        have e : bestStep none x = some x := by
          unfold bestStep
          rw [if_pos ⟨hx, fun y e => by cases e⟩]
        simp [↓bind_eq, gLt_ii, hx, bestD, gIsN, isNon]
        refine wp_asg ?_
        simp [↓bind_eq]
        exact ⟨_, _, _, ⟨by rw [e]; rfl, rfl, rfl, rfl⟩, rfl, rfl, rfl⟩
      | some y =>
        have g0 : gIx (.tup [.int y.1, .tup (txs y.2.1), .tup (txs y.2.2)]) (.int 0) = some (.int y.1) := by
          simp only [gIx]
          exact atI_nat (i := 0) rfl
        by_cases hy : x.1 < y.1
        · have e : bestStep (some y) x = some x := by
            unfold bestStep
            rw [if_pos ⟨hx, fun z e => by cases e; exact hy⟩]
          simp [↓bind_eq, gLt_ii, hx, bestD, encT, gIsN, isNon, g0, hy]
          refine wp_asg ?_
          simp [↓bind_eq]
          exact ⟨_, _, _, ⟨by rw [e], rfl, rfl, rfl⟩, rfl, rfl, rfl⟩
        · have e : bestStep (some y) x = some y := by
            unfold bestStep
            rw [if_neg fun q => hy (q.2 y rfl)]
          simp [↓bind_eq, gLt_ii, hx, bestD, encT, gIsN, isNon, g0, hy]
          exact wp_nx ⟨_, _, _, by rw [e], rfl, rfl, rfl⟩
    · have e : bestStep b x = b := by
        unfold bestStep
        rw [if_neg fun q => hx q.1]
      simp [↓bind_eq, gLt_ii, hx]
      exact wp_nx ⟨_, _, _, by rw [e], rfl, rfl, rfl⟩
  · rintro e ⟨s2, s3, s4, rfl, h2, h3, h4⟩
    rw [List.length_map, List.take_length]
    generalize bestT (helpsT n t) = b
    refine wp_ret ?_
    cases b with
    | none =>
      simp [↓bind_eq, bestD, gIsN, isNon, endD]
      exact .ret
    | some x =>
      have c : cutL [D.int x.1, .tup (txs x.2.1), .tup (txs x.2.2)] (some 1) none = [.tup (txs x.2.1), .tup (txs x.2.2)] := cut_from (i := 1) (by simp)
      simp [↓bind_eq, bestD, encT, gIsN, isNon, endD, isInt, gSl, c]
      exact .ret

/-! ### the first pair that hinders -/
theorem hind_ok {n : Nat} {ms : List Str} {t : Str → Int} (M : Names n ms) (T : Tab n t) (hn : n ≤ 3) : ∃ d, Cm.m_hindering [.v (shD n ms t)] = .ok d [.v (shD n ms t)] ∧ isNon d = (bestT (helpsT n t)).isNone := by
  have ah := all_helps_ok M T hn
  let f : Tr → Option D := fun x => if x.1 < 0 then some (.tup [.tup (txs x.2.1), .tup (txs x.2.2)]) else none
  have h1 : Cm.m_first_hindering [.v (shD n ms t)] = .ok (optD ((helpsT n t).findSome? f)) [.v (shD n ms t)] := by
    refine dv1 (wp_seq (wp_search (helpsT n t) encT (e1 := [.v (shD n ms t), .un, .un, .un]) (by simp [↓bind_eq, ah, iterD]) f
      (fun e => ∃ s1 s2 s3 : Sl, e = [.v (shD n ms t), s1, s2, s3] ∧ isIoS s1 = false ∧ isIoS s2 = false ∧ isIoS s3 = false) ⟨_, _, _, rfl, rfl, rfl, rfl⟩ ?_ ?_ ?_))
    · rintro x hx e ⟨s1, s2, s3, rfl, h1, h2, h3⟩
      refine ⟨[.v (shD n ms t), .v (.int x.1), .v (.tup (txs x.2.1)), .v (.tup (txs x.2.2))], by simp [encT, h1, h2, h3], wp_if ?_⟩
      by_cases hq : x.1 < 0
      · simp [↓bind_eq, gLt_ii, hq, f]
        exact wp_ret (by simp [↓bind_eq])
      · simp [↓bind_eq, gLt_ii, hq, f]
        exact wp_nx ⟨rfl, _, _, _, rfl, rfl, rfl, rfl⟩
    · intro d e hd
      show PV _ _ _
      rw [hd]
      exact .ret
    · rintro e hd ⟨s1, s2, s3, rfl, _⟩
      refine wp_ret ?_
      rw [hd]
      simp
      exact .ret
  refine ⟨optD ((helpsT n t).findSome? f), dv1 (wp_seq (wp_drop ?_)), ?_⟩
  · simp [↓bind_eq, check_shares_ok]
    refine wp_ret ?_
    simp [↓bind_eq, h1]
    exact .ret
  · have bo := best_of (helpsT n t)
    cases hb : bestT (helpsT n t) with
    | none =>
      rw [hb] at bo
      have : (helpsT n t).findSome? f = none := List.findSome?_eq_none_iff.mpr fun x hx => by simp only [f]; rw [if_neg (bo x hx)]
      rw [this]
      rfl
    | some x =>
      rw [hb] at bo
      obtain ⟨b1, b2, b3⟩ := bo
      cases hf : (helpsT n t).findSome? f with
      | none =>
        have := List.findSome?_eq_none_iff.mp hf x (List.mem_of_find?_eq_some b3)
        simp only [f] at this
        rw [if_pos b1] at this
        cases this
      | some d =>
        obtain ⟨y, _, e⟩ := List.exists_of_findSome?_eq_some hf
        simp only [f] at e
        split at e
        · cases e; rfl
        · cases e
/-! ### the law's own -/
theorem min_is {l : List Int} {m : Int} (hm : m ∈ l) (h : ∀ y ∈ l, m ≤ y) : l.min? = some m := by
  have core : ∀ (l : List Int) (a : Int), (l.foldl min a ∈ a :: l) ∧ ∀ y ∈ a :: l, l.foldl min a ≤ y := by
    intro l
    induction l with
    | nil => intro a; simp
    | cons x l ih =>
      intro a
      obtain ⟨q1, q2⟩ := ih (min a x)
      rw [List.foldl_cons]
      have q3 := q2 (min a x) List.mem_cons_self
      refine ⟨?_, fun y hy => ?_⟩
      · rcases List.mem_cons.mp q1 with q | q
        · rw [q]
          by_cases e : a ≤ x
          · rw [Int.min_eq_left e]; simp
          · rw [Int.min_eq_right (by omega)]; simp
        · simp [q]
      · rcases List.mem_cons.mp hy with q | q
        · subst q; omega
        · rcases List.mem_cons.mp q with q | q
          · subst q; omega
          · exact q2 y (List.mem_cons_of_mem _ q)
  cases l with
  | nil => cases hm
  | cons a l =>
    obtain ⟨q1, q2⟩ := core l a
    have h1 := h _ q1
    have h2 := q2 m hm
    show some (l.foldl min a) = some m
    have : l.foldl min a = m := by omega
    rw [this]
theorem gMin1_l {α : Type} (f : α → Int) (l : List α) : gMin1 [.lst (l.map fun x => .int (f x))] = ((l.map f).min?).map .int := by
  simp only [gBest1, intsD_map, Option.bind_some]
theorem helps_mem {n : Nat} {t : Str → Int} {x : Tr} (h : x ∈ helpsT n t) : ∃ a ∈ risS n, ∃ b ∈ risS n, x = trOf n t a b := by
  unfold helpsT preT at h
  obtain ⟨i, hi, hx⟩ := List.mem_flatMap.mp h
  have hi := List.mem_range.mp hi
  unfold rowT at hx
  obtain ⟨b, hb, rfl⟩ := List.mem_map.mp hx
  refine ⟨_, ?_, b, List.mem_of_mem_drop hb, rfl⟩
  rw [List.getD_eq_getElem?_getD, List.getElem?_eq_getElem hi, Option.getD_some]
  exact List.getElem_mem hi
def pL (a : List Str) : PyData := .tuple (a.map .str)
def pT (x : Tr) : PyData := .tuple [.int x.1, pL x.2.1, pL x.2.2]
theorem lot_rp {n : Nat} (hn : n ≤ 4) {a : List Str} (L : Lot n a) : Rp 100 1 (.tup (txs a)) (pL a) := by
  have hl := L.len hn
  exact ((Rps.all (w := 4) (k := 0) (fun x => D.str x) (fun x => PyData.str x) a fun x hx => row_rp hn (L.inR x hx)).tup).mono (by omega) (by omega)
theorem tr_rp {n : Nat} {t : Str → Int} (T : Tab n t) (hn : n ≤ 4) {x : Tr} (h : x ∈ helpsT n t) : Rp 1000 2 (encT x) (pT x) := by
  obtain ⟨a, ha, b, hb, rfl⟩ := helps_mem h
  have La := risS_lot hn ha
  have Lb := risS_lot hn hb
  have hh := help_big T hn La Lb
  exact ((Rps.cons ((Rp.int (i := helpZ n t a b) (by omega)).mono (w' := 201) (k' := 1) (by omega) (by omega)) (Rps.cons (lot_rp hn La) (Rps.cons (lot_rp hn Lb) Rps.nil))).tup).mono (by omega) (by omega)
theorem end_rp {n : Nat} {t : Str → Int} (hn : n ≤ 4) : ∃ p, Rp 300 2 (endD (bestT (helpsT n t))) p := by
  have bo := best_of (helpsT n t)
  cases hb : bestT (helpsT n t) with
  | none => exact ⟨_, Rp.non.mono (by omega) (by omega)⟩
  | some x =>
    rw [hb] at bo
    obtain ⟨a, ha, b, hb2, rfl⟩ := helps_mem (List.mem_of_find?_eq_some bo.2.2)
    exact ⟨_, ((Rps.cons (lot_rp hn (risS_lot hn ha)) (Rps.cons (lot_rp hn (risS_lot hn hb2)) Rps.nil)).tup).mono (by omega) (by omega)⟩
theorem end_non (b : Option Tr) : gIsN (endD b) .non = some (.bl b.isNone) := by cases b <;> rfl
theorem g0 (a : Int) (b c : D) : gIx (.tup [.int a, b, c]) (.int 0) = some (.int a) := by
  simp only [gIx]
  exact atI_nat (i := 0) rfl
theorem helps_len {n : Nat} (hn : n ≤ 3) (t : Str → Int) : (helpsT n t).length ≤ 400 := by
  have h1 := preT_len hn t (risS n).length
  have h2 := risS_len hn
  unfold helpsT
  omega
theorem eq_nil_tr {l : List Tr} {w k : Nat} (h : ∀ x ∈ l, Rp w k (encT x) (pT x)) (hk : k < 60) : gEq (.lst (l.map encT)) (.lst []) = some (.bl (decide (l = []))) := by
  have r1 := (Rps.all encT pT l h).lst
  have r2 := (Rps.nil (k := 0)).lst
  have := (r1.eq r2 (by omega) (by omega) (fun x y e => by cases e)).1
  rw [this]
  cases l <;> rfl
theorem due_ok {n : Nat} {t : Str → Int} (T : Tab n t) (hn : n ≤ 3) : Lk33.m_law_due [.v (tabD n t), .v (.int (n : Nat))] = .ok (endD (bestT (helpsT n t))) [.v (tabD n t), .v (.int (n : Nat))] := by
  have hn4 : n ≤ 4 := by omega
  have lh := law_helps_ok T hn
  have hl := helps_len hn t
  have bo := best_of (helpsT n t)
  have rp : ∀ x ∈ helpsT n t, Rp 1000 2 (encT x) (pT x) := fun x hx => tr_rp T hn4 hx
  generalize bestT (helpsT n t) = b at bo ⊢
  generalize helpsT n t = l at lh hl bo rp
  have l1 := lcM (v := 4) (e := [.v (tabD n t), .v (.int (n : Nat)), .un, .un, .un, .un, .un, .un]) (mt := tB1 (x2 gLt (x2 gIx (xVar 4) (xC (.int 0))) (xC (.int 0)))) (me := xVar 4) rfl l encT (fun x => decide (x.1 < 0)) encT
    (fun x hx => by simp [↓bind_eq, encT, g0, gLt_ii]) (fun x hx _ => by simp) (by omega)
  have ge := eq_nil_tr (l := l.filter fun x => decide (x.1 < 0)) (fun x hx => rp x (List.mem_filter.mp hx).1) (by omega)
  have fl : (l.filter fun x => decide (x.1 < 0)).length ≤ 400 := Nat.le_trans (List.length_filter_le _ _) hl
  refine dv2 (wp_seq (wp_asg ?_))
  simp [↓bind_eq, lh, iterD, l1]
  cases b with
  | none =>
    have e : l.filter (fun x => decide (x.1 < 0)) = [] := List.filter_eq_nil_iff.mpr fun x hx => by simpa using bo x hx
    rw [e] at ge ⊢
    refine wp_seq (wp_if ?_)
    simp at ge
    simp [↓bind_eq, ge]
    refine wp_ret ?_
    simp [endD]
    exact .ret
  | some x =>
    obtain ⟨b1, b2, b3⟩ := bo
    have xl := List.mem_of_find?_eq_some b3
    have xf : x ∈ l.filter fun x => decide (x.1 < 0) := List.mem_filter.mpr ⟨xl, by simpa using b1⟩
    have ne : (l.filter fun x => decide (x.1 < 0)) ≠ [] := fun e => by rw [e] at xf; cases xf
    have mf : ∀ y ∈ l.filter (fun x => decide (x.1 < 0)), x.1 ≤ y.1 := fun y hy => b2 y (List.mem_filter.mp hy).1
    have hd : (l.filter fun x => decide (x.1 < 0)).find? (fun y => decide (y.1 = x.1)) = some x := by
      rw [List.find?_filter]
      rw [← b3]
      congr 1
      funext y
      by_cases q : y.1 = x.1
      · simp [q, b1]
      · simp [q]
    generalize (l.filter fun x => decide (x.1 < 0)) = F at ge fl xf ne mf hd ⊢
    have mn : gMin1 [.lst (F.map fun x => .int x.1)] = some (.int x.1) := by
      rw [gMin1_l, min_is (List.mem_map_of_mem xf) fun y hy => by
        obtain ⟨z, hz, rfl⟩ := List.mem_map.mp hy
        exact mf z hz]
      rfl
    have l2 := lcA (v := 4) (e := [.v (tabD n t), .v (.int (n : Nat)), .v (.lst (F.map encT)), .un, .un, .un, .un, .un]) (me := x2 gIx (xVar 4) (xC (.int 0))) rfl F encT (fun x => .int x.1) (fun x hx => by simp [↓bind_eq, encT, g0]) (by omega)
    have l3 := lcG (vs := [5, 6, 7]) (mg := gUnp 3 (gsCons (gSet 5) (gsCons (gSet 6) (gsCons (gSet 7) gsNil)))) (mt := tB1 (x2 gEq (xVar 5) (xVar 3))) (me := xTup (xCons (xVar 6) (xCons (xVar 7) xNil))) (e := [.v (tabD n t), .v (.int (n : Nat)), .v (.lst (F.map encT)), .v (.int x.1), .un, .un, .un, .un]) F encT
      (fun y => [.v (tabD n t), .v (.int (n : Nat)), .v (.lst (F.map encT)), .v (.int x.1), .un, .v (.int y.1), .v (.tup (txs y.2.1)), .v (.tup (txs y.2.2))]) (fun y => decide (y.1 = x.1)) (fun y => .tup [.tup (txs y.2.1), .tup (txs y.2.2)])
      (fun y _ => by simp [encT]) (fun y _ => rfl) (fun y _ => by simp [↓bind_eq, gEq_ii]; rfl) (fun y _ _ => by simp [↓bind_eq]) (by omega)
    have hh : (F.filter fun y => decide (y.1 = x.1)).head? = some x := by rw [List.head?_filter, hd]
    cases hF : F.filter fun y => decide (y.1 = x.1) with
    | nil => rw [hF] at hh; cases hh
    | cons z r =>
      rw [hF] at hh l3
      cases hh
      have gz : gIx (.lst ((x :: r).map fun y => D.tup [.tup (txs y.2.1), .tup (txs y.2.2)])) (.int 0) = some (.tup [.tup (txs x.2.1), .tup (txs x.2.2)]) := by
        simp only [gIx]
        exact atI_nat (i := 0) rfl
      refine wp_seq (wp_if ?_)
      simp [ne] at ge
      simp [↓bind_eq, ge]
      refine wp_nx (wp_seq (wp_asg ?_))
      simp [↓bind_eq, iterD, l2, mn]
      refine wp_ret ?_
      simp only [List.map_cons] at l3 gz
      simp [↓bind_eq, iterD, l3, gz, endD]
      exact .ret
/-! ### the law -/
theorem gNe_bb33 (a b : Bool) : gNe (.bl a) (.bl b) = some (.bl (a != b)) := by
  cases a <;> cases b <;> decide +kernel
theorem step33 (i m : Nat) (o : Ob) (s2 s3 s4 s5 : Sl) (hm : m < 2 ^ 32) (B : Bag m o) (h2 : isIoS s2 = false) (h3 : isIoS s3 = false) (h4 : isIoS s4 = false) (h5 : isIoS s5 = false) :
    Wp Lk33.m_law_right_f1 [.io o, .v (.int (i : Nat)), s2, s3, s4, s5] fun fl e => fl = .nx ∧ ∃ (o' : Ob) (s1 s2 s3 s4 s5 : Sl), e = [.io o', s1, s2, s3, s4, s5] ∧
      isIoS s1 = false ∧ isIoS s2 = false ∧ isIoS s3 = false ∧ isIoS s4 = false ∧ isIoS s5 = false ∧ Bag (m + 600) o' := by
  obtain ⟨o1, w, q1, B1, hw⟩ := jpick_lst B (by omega) [.int 1, .int 2, .int 2, .int 3, .int 3] (by simp) (by simp)
  have hw2 : ∃ n : Nat, w = .int (n : Nat) ∧ 0 < n ∧ n ≤ 3 := by
    simp only [List.mem_cons, List.mem_nil_iff, or_false] at hw
    rcases hw with rfl | rfl | rfl | rfl | rfl
    · exact ⟨1, rfl, by omega, by omega⟩
    · exact ⟨2, rfl, by omega, by omega⟩
    · exact ⟨2, rfl, by omega, by omega⟩
    · exact ⟨3, rfl, by omega, by omega⟩
    · exact ⟨3, rfl, by omega, by omega⟩
  obtain ⟨n, rfl, h0, hn⟩ := hw2
  have hn4 : n ≤ 4 := by omega
  obtain ⟨o2, t, q2, B2, T⟩ := jtable_ok B1 (by omega) n hn4 h0
  obtain ⟨o3, ms, q3, B3, M⟩ := jnames_ok B2 (by omega) n hn4
  have q4 := jmade_ok M T hn4 h0
  have du := due_ok T hn
  have mo := most_ok M T hn
  obtain ⟨d, hi, hd⟩ := hind_ok M T hn
  obtain ⟨p, rp⟩ := end_rp (n := n) (t := t) hn4
  have rr := ((Rps.cons rp (Rps.cons rp Rps.nil)).lst).repr (by omega) (by omega)
  have en := end_non (bestT (helpsT n t))
  have hn' : gIsN d .non = some (.bl (bestT (helpsT n t)).isNone) := by
    rw [← hd]
    cases d <;> rfl
  generalize endD (bestT (helpsT n t)) = z at du mo rr en rp
  generalize (bestT (helpsT n t)).isNone = c at en hn'
  have nb := gNe_bb33 c c
  simp at nb
  refine wp_seq (wp_asg ?_)
  simp [↓bind_eq, q1, h2]
  refine wp_seq (wp_asg ?_)
  simp [↓bind_eq, q2, h3]
  refine wp_seq (wp_par ?_)
  simp [↓bind_eq, q3, q4, du, h4, h5]
  refine wp_seq (wp_if ?_)
  simp [↓bind_eq, mo, pick, rr, gNe_ss]
  refine wp_nx (wp_if ?_)
  simp [↓bind_eq, hi, hn', en, nb]
  exact wp_nx ⟨rfl, o3, _, _, _, _, _, rfl, rfl, rfl, rfl, rfl, rfl, B3.mono (by omega)⟩
theorem right33 {o : Ob} (B : Bag 0 o) : ∃ e, Lk33.m_law_right [.io o] = .ok (.bl true) e := by
  obtain ⟨d, o', h1, rfl⟩ := io1 (N := 6) (mb := Lk33.m_law_right_b) (o := o) (P := fun d _ => d = .bl true) (by
    refine wp_seq (wp_forD (ds := rng 6) (e1 := .io o :: List.replicate 5 .un) (by
        have := rngD_nat (k := 6) (by decide)
        replace this : rngD 0 6 = some (rng 6) := this
        simp [↓bind_eq, this])
      (fun i e => ∃ (o' : Ob) (s1 s2 s3 s4 s5 : Sl), e = [.io o', s1, s2, s3, s4, s5] ∧ isIoS s1 = false ∧ isIoS s2 = false ∧ isIoS s3 = false ∧ isIoS s4 = false ∧ isIoS s5 = false ∧ Bag (600 * i) o')
      ⟨o, _, _, _, _, _, rfl, rfl, rfl, rfl, rfl, rfl, B⟩ ?_ ?_)
    · rintro i d e hd ⟨o4, s1, s2, s3, s4, s5, rfl, h1, h2, h3, h4, h5, B4⟩
      obtain ⟨hi, rfl⟩ := rng_get hd
      refine ⟨[.io o4, .v (.int (i : Nat)), s2, s3, s4, s5], by simp [h1], ?_⟩
      refine (step33 i _ o4 s2 s3 s4 s5 (by omega) B4 h2 h3 h4 h5).mono fun fl e ⟨hf, o5, s1, s2, s3, s4, s5, he, g1, g2, g3, g4, g5, B5⟩ => ?_
      subst hf
      exact ⟨o5, s1, s2, s3, s4, s5, he, g1, g2, g3, g4, g5, B5.mono (by omega)⟩
    · rintro e ⟨o4, s1, s2, s3, s4, s5, rfl, h1, h2, h3, h4, h5, B4⟩
      refine wp_ret ?_
      simp
      exact .ret rfl)
  exact ⟨_, h1⟩
end Pl
namespace Lk33
open PySem Mi Pl
theorem good (ns : List Int) : ∃ e, m_law [.v (.fz (ns.map .int))] = .ok (.bl true) e := jgood 5 (by decide) rfl (fun o B => right33 B) ns
end Lk33

set_option Elab.async false
set_option linter.all false
set_option maxRecDepth 100000
set_option maxHeartbeats 0
/-! the head of k33; printed by head.py -/
namespace Lk33
open PySem PySem.Spec PyProof.Rows Mi
abbrev R : PySem.W.OpenRow := PySem.W.OpenLaw.row PySem.Challenge.rw_wishesrise_k33_whole_most_hindering_lots
abbrev hk : PySem.W.Hook := hookP 6 fa fn ps ex
def ob (s : PySem.W.SharedT) : AlP := obsPG 6 fa fn ps ex (HandSHeadRun.getT s)
theorem ob_eq (s : PySem.W.SharedT) : ob s = hk.obs s.abs := obsPG_eq (HandSHeadRun.getT_eq s)
def names : List PySem.Str := ([PySem.Str.ofString "_wall", PySem.Str.ofString "ShapeError", PySem.Str.ofString "InvalidMarks", PySem.Str.ofString "InvalidNumbers", PySem.Str.ofString "InvalidText", PySem.Str.ofString "InvalidRow", PySem.Str.ofString "NotShares", PySem.Str.ofString "MOST_NAME", PySem.Str.ofString "MOST_MARKS", PySem.Str.ofString "MOST_NUMBER", PySem.Str.ofString "LETTERS", PySem.Str.ofString "FIGURES", PySem.Str.ofString "SIGNS", PySem.Str.ofString "is_integer", PySem.Str.ofString "is_between", PySem.Str.ofString "is_name", PySem.Str.ofString "wrong_mark", PySem.Str.ofString "check_marks", PySem.Str.ofString "all_rows", PySem.Str.ofString "is_row"] : List PySem.Str) ++ ([PySem.Str.ofString "number_in", PySem.Str.ofString "rising_lots", PySem.Str.ofString "wrong_number", PySem.Str.ofString "check_numbers", PySem.Str.ofString "shares_text", PySem.Str.ofString "shares_in", PySem.Str.ofString "Shares", PySem.Str.ofString "check_shares", PySem.Str.ofString "all_helps", PySem.Str.ofString "first_hindering", PySem.Str.ofString "hindering", PySem.Str.ofString "most_hindering", PySem.Str.ofString "_law_jar", PySem.Str.ofString "_law_draw", PySem.Str.ofString "_law_pick", PySem.Str.ofString "_law_names", PySem.Str.ofString "_law_rows", PySem.Str.ofString "_law_fitted", PySem.Str.ofString "_law_table", PySem.Str.ofString "_law_made"] : List PySem.Str) ++ ([PySem.Str.ofString "_law_lots", PySem.Str.ofString "_law_sum", PySem.Str.ofString "_law_help", PySem.Str.ofString "_law_helps", PySem.Str.ofString "_law_due", PySem.Str.ofString "_law_right"] : List PySem.Str)
theorem run (w : World) : HandSHeadRun.RunEq R (PySem.W.view R.prog [52]) hk ob 20000 names w := by
  intro os
  kernel_rfl
theorem facts {P : Program} {w : World} {K : PySem.W.Frag} {h : Heap} {mg : Str → Option Value} {f : Addr} (X : K.In h) (G : h.Ns mainGlobals mg) (hfa : mg ("law" : Str) = some (.ref f)) (c : SaysP fa fn ps ex K) :
    ∃ fd : FuncData, (∀ (s : Shared) (v : Value), BindsTo s fd ⟨[v], []⟩ [("_law_script", v)]) ∧ ∀ base : Heap, K.In base → base.Ns mainGlobals mg → FnG P w K mg base 9 f fd ["_law_script"] (spM K 1 m_law) := by
  obtain ⟨fd, F⟩ := c.def_ 30 (d := d_law) rfl
  have e := hfa.symm.trans (He.glo_ok X G (c.fact 28 (f := .glo "law") rfl))
  cases e
  have b := L2.FunD.bindsA (ps := ["_law_script"]) F fun _ _ _ _ _ _ us hl => match us, hl with | [_], _ => rfl
  exact ⟨fd, fun s v => b s [v] rfl, fun base _ _ => ok_law X G c (fun_of_D F)⟩
end Lk33
open PySem PySem.W PySem.Calls PyProof.Rows
theorem Lk33.holds (good : ∀ ns : List Int, ∃ e, Lk33.m_law [.v (.fz (ns.map .int))] = .ok (.bl true) e) : PySem.Challenge.rw_wishesrise_k33_whole_most_hindering_lots.Holds := by
  w_on; o_law
  refine HandSHeadRun.head_any (r := OpenLaw.row PySem.Challenge.rw_wishesrise_k33_whole_most_hindering_lots) (q := view (OpenLaw.row PySem.Challenge.rw_wishesrise_k33_whole_most_hindering_lots).prog [52]) (H := Lk33.hk) (ob := Lk33.ob) (M := 20000) (loose := Lk33.names) (d := HandSHeadRun.topDef (OpenLaw.row PySem.Challenge.rw_wishesrise_k33_whole_most_hindering_lots).prog 52) (kwd := []) Lk33.ob_eq
    (by kernel_rfl) (fun s => by kernel_rfl) Lk33.run (by kernel_rfl) (by kernel_rfl) (by kernel_rfl) (by rfl) (by first | assumption | decide +kernel) (by decide +kernel) ⟨rfl, rfl, rfl, rfl, rfl, by decide +kernel⟩ ?hw ?hc
  case hw => w_witness2
  case hc =>
    refine Mi.walk_G (l := PySem.Challenge.rw_wishesrise_k33_whole_most_hindering_lots) (n := 63) (k := 9) (x := "_law_script") (m := Lk33.m_law) rfl (by decide) (by kernel_rfl) ⟨rfl, by decide, by decide⟩ ?F good
    intro w mg fa h Y G hmg0
    obtain ⟨K, KX, c⟩ := Y
    have hmg : mg ("law" : PySem.Str) = some (.ref fa) := by
      have e : (HandSHeadRun.topDef (OpenLaw.row PySem.Challenge.rw_wishesrise_k33_whole_most_hindering_lots).prog 52).name = ("law" : PySem.Str) := by kernel_rfl
      rw [← e]
      exact hmg0
    obtain ⟨fd, hb, hF⟩ := Lk33.facts (P := (PySem.Challenge.rw_wishesrise_k33_whole_most_hindering_lots).prog) (w := w) KX G hmg c
    exact ⟨K, fd, KX, hb, hF⟩
theorem PySem.Challenge.cw_wishesrise_k33_whole_most_hindering_lots_holds : PySem.Challenge.rw_wishesrise_k33_whole_most_hindering_lots.Holds := by
  exact Lk33.holds Lk33.good
