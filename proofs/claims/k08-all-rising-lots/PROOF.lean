import PyProof.Rows.All
import Wide.All
import OpenK.AllK
import Wide.FinOn
import HandS.TupSets
import HandS.ForMost
import HandS.HeadHook1
import HandS.Lambda
import HandS.ForExc
import HandS.WordsExc
import HandS.CallSlots
import HandS.Wide
import HandS.TupAny
import HandS.TupMul
import HandS.Conv
import HandS.Flow
import HandS.Text
import KE.KTupSum
import HandS.IsInst
import HandS.NoneIn
import HandS.Style
import HandS.Iter
import HandS.Zip
import HandS.Small
import HandS.Comp
import HandS.TupLen
import HandS.SortInts
import KE.GoesZip
import KE.GoesEnum
import HandS.DeepEq
import PyProof.ReprRoads
import HandS.Defaults
import HandS.Ends
import HandS.HeadEnd
import KE.SortData
import HandS.Property
import HandS.HeadHook2
import KE.KDictZip
import KE.KDictPairs
import HandS.WideBits
import OpenK.KOps
import HandS.DictComp
import HandS.FStr
import PyProof.SliceList
import PyProof.SliceSyntax
import HandS.More
import HandS.Records
import HandS.ClsMeth
import HandS.Deep
import HandS.Strs
import HandS.ExcInit
import HandS.HotCalls
import HandS.ExcField
import HandS.ExcIs
import KE.KExcIs
import HandS.TryMany
import KE.KTryMore
import HandS.HeadHook4
import HandS.NestedK
import PyProof.ExcBaseAll.LookupError
import PyProof.ExcBaseAll.ArithmeticError
import PyProof.ExcBaseAll.ValueError
import PyProof.FactsAll.list_3
import HandS.OwnEq
import HandS.MapObj
import HandS.ExcValue
import PyProof.ListRange
import PyProof.RulesFinally
import KE.KExcInit
import KE.KDictItemsList
import PyProof.NeKinds
import KE.KDictCopyH
import HandS.DictTup
import KE.DataCmp
import KE.KDictSum
import HandS.Head0
import HandS.Head1
import HandS.Head2
import PySem.Challenge.RW_wishesrise_k08_whole_all_rising_lots
import KE.KStateDown
import Lean
set_option linter.all false
set_option maxRecDepth 100000
/-! Ts1: a set's table of up to 512 slots: the way of a search meets each slot. -/
namespace Ts
open PySem PySem.Spec PyProof.Rows L2
/-- a mask whose search meets each slot -/
structure Full (m : Nat) : Prop where
  all : ∀ {i j : Nat}, i ≤ m → j ≤ m → ∃ k, k ≤ m ∧ lcgI m i k = j
  odd : m % 2 = 1
  bd : m ≤ 511
theorem Full.run {m : Nat} (F : Full m) (h : Int) {j : Nat} (hj : j ≤ m) : ∃ n, n ≤ m + 12 ∧ runI m (SetTable.bits h) n = j := by
  obtain ⟨k, hk, e⟩ := F.all (runI_le m (SetTable.bits h) 12) hj
  exact ⟨12 + k, by omega, by rw [runI_tail (bits_lt h)]; exact e⟩
end Ts

set_option linter.all false
set_option maxRecDepth 100000
/-! Ts2: a table in which each entry is found again from its hash; one more put in. -/
namespace Ts
open PySem PySem.Spec PyProof.Rows L2
structure Tab (t : SetTable) (hs : List Int) : Prop where
  ris : Ris t.place.toList
  dm : t.dummies = #[]
  sz : t.place.toList.length = hs.length
  full : Full t.mask
  bd : ∀ x ∈ t.place.toList, x ≤ t.mask
  reach : ∀ (i : Nat) (h : Int) (j : Nat), hs[i]? = some h → t.place.toList[i]? = some j → ∃ k, way t.mask h k = j ∧ ∀ k', k' < k → way t.mask h k' ∈ t.place.toList
/-! ### laying anew -/
theorem Full.free {m : Nat} (F : Full m) (owner : Array (Option Nat)) (h : Int) {j : Nat} (hj : j ≤ m) (hf : oAt owner j = none) :
    ∃ K, SetTable.layClean.free m owner (SetTable.turns m) (SetTable.bits h % (m + 1)) (SetTable.bits h) = some (way m h K) ∧ oAt owner (way m h K) = none ∧ ∀ k, k < K → oAt owner (way m h k) ≠ none := by
  obtain ⟨n, hn, e⟩ := F.run h hj
  have hw : way m h (off m (SetTable.bits h % (m + 1)) (SetTable.bits h) n) = j := by
    show (nth m (runAt m (SetTable.bits h % (m + 1)) (SetTable.bits h)) _).j = j
    rw [nth_off, itL_run]
    exact e
  obtain ⟨K, k1, k2, k3⟩ := st_least (p := fun k => oAt owner (way m h k) = none) _ (by show oAt owner (way m h _) = none; rw [hw]; exact hf)
  refine ⟨K, free_spec m owner (SetTable.turns m) n _ _ K (by unfold SetTable.turns; omega) k1 (fun k hk => ?_) ?_, k2, k3⟩
  · have q := k3 k hk
    show (oAt owner (way m h k)).isNone = false
    cases z : oAt owner (way m h k) with
    | none => exact absurd z q
    | some _ => rfl
  · show (oAt owner (way m h K)).isNone = true
    rw [k2] <;> rfl
/-- some are laid: who sits where -/
structure Laid (m : Nat) (done : List Int) (owner : Array (Option Nat)) : Prop where
  sz : owner.size = m + 1
  at_ : ∀ j k, j ≤ m → oAt owner j = some k → ∃ h K, done[k]? = some h ∧ way m h K = j ∧ ∀ k', k' < K → oAt owner (way m h k') ≠ none
  all : ∀ k, k < done.length → ∃ j, j ≤ m ∧ oAt owner j = some k
  ps : ∃ ps : List Nat, ps.length = done.length ∧ ∀ j, j ≤ m → oAt owner j ≠ none → j ∈ ps
end Ts

set_option linter.all false
set_option maxRecDepth 100000
/-! Ts3: sets of tuples of texts and whole numbers: the search. -/
namespace Ts
open PySem PySem.Spec PyProof.Rows L2
abbrev xhash (P : Program) (w : World) (k : List Key) : Int := tupleKeyHash (mixKind P w) k
abbrev IsX (P : Program) (w : World) (h : Heap) (k : List Key) (a : Addr) : Prop := IsTupleKey (mixKind P w) h k a
section
variable {P : Program} {w : World} {A : Around} {E : Value → Shared → Prop} {s : Shared}
abbrev Rw := List (Addr × List Key)
def rowsX (P : Program) (w : World) (L : Rw) : List (Int × Value) := L.map fun p => (xhash P w p.2, Value.ref p.1)
/-- the set at a has the tuples L -/
structure SetX (P : Program) (w : World) (h : Heap) (a : Addr) (L : Rw) (es : Array (Int × Value)) (ep : Nat) (t : SetTable) : Prop where
  ob : ∃ o, h.get? a = some o ∧ o.ExactSet ∧ o.data = .set es ep t
  rows : es.toList = rowsX P w L
  tab : Tab t (L.map fun p => xhash P w p.2)
  msk : t.mask = 7 ∨ t.mask = 31 ∨ t.mask = 127 ∨ t.mask = 511
  nd : (L.map (·.2)).Nodup
  tup : ∀ p ∈ L, IsX P w h p.2 p.1
  led : w.params.followText "set-order" = true ∨ t.led = true
  room : L.length * 5 < t.mask * 3
  few : L.length ≤ 200
variable {a : Addr} {L : Rw} {es : Array (Int × Value)} {ep : Nat} {t : SetTable}
end
end Ts

set_option linter.all false
set_option maxRecDepth 100000
/-! Ts4: sets of tuples of texts and whole numbers: adding. -/
namespace Ts
open PySem PySem.Spec PyProof.Rows L2
section
variable {P : Program} {w : World} {A : Around} {E : Value → Shared → Prop} {s : Shared} {a : Addr} {L : Rw} {es : Array (Int × Value)} {ep : Nat} {t : SetTable}
end
end Ts

set_option linter.all false
set_option maxRecDepth 100000
/-! Ts5: set(list of tuples of texts and whole numbers). -/
namespace Ts
open PySem PySem.Spec PyProof.Rows L2
/-- what the set has of the first i items -/
structure GotX (ks : Rw) (i : Nat) (L : Rw) : Prop where
  sub : ∀ p ∈ L, p ∈ ks.take i
  all : ∀ p ∈ ks.take i, p.2 ∈ L.map (·.2)
  len : L.length ≤ i
theorem GotX.same {ks L : Rw} {i : Nat} {x : Addr × List Key} (g : GotX ks i L) (h : ks[i]? = some x) (hm : x.2 ∈ L.map (·.2)) : GotX ks (i + 1) L where
  sub := fun p hp => by rw [take_next h]; exact List.mem_append_left _ (g.sub p hp)
  all := fun p hp => by
    rw [take_next h] at hp
    rcases List.mem_append.mp hp with z | z
    · exact g.all p z
    · rw [List.mem_singleton.mp z]; exact hm
  len := Nat.le_succ_of_le g.len
section
variable {P : Program} {w : World} {A : Around} {E : Value → Shared → Prop} {s : Shared}
theorem SetX.keep {h h' : Heap} {a : Addr} {L : Rw} {es : Array (Int × Value)} {ep : Nat} {t : SetTable} (R : SetX P w h a L es ep t) (ha : ∀ o, h.get? a = some o → h'.get? a = some o) (ht : ∀ p ∈ L, IsX P w h' p.2 p.1) : SetX P w h' a L es ep t :=
  { R with ob := let ⟨o, ho, r⟩ := R.ob; ⟨o, ha o ho, r⟩, tup := ht }
end
end Ts

set_option linter.all false
set_option maxRecDepth 100000
set_option maxHeartbeats 3200000
/-! Ts6: set(list of tuples of texts and whole numbers), called. -/
namespace Ts
open PySem PySem.Spec PyProof.Rows L2
/-- a new set's cell -/
abbrev newS (w : World) : Obj := { cls := .type "set", dict := none, data := .set #[] 0 (.fresh 0 0 (!w.params.followText "set-order")) }
section
variable {P : Program} {w : World} {A : Around} {E : Value → Shared → Prop} {s : Shared}
end
end Ts

set_option linter.all false
set_option maxRecDepth 100000
set_option maxHeartbeats 3200000
/-! Ts7: set(tuple of tuples of texts and whole numbers), called. -/
namespace Ts
open PySem PySem.Spec PyProof.Rows L2
section
variable {P : Program} {w : World} {A : Around} {E : Value → Shared → Prop} {s : Shared}
end
end Ts

set_option Elab.async false
set_option linter.all false
set_option maxRecDepth 100000
set_option maxHeartbeats 4000000
/-! Mi1: data trees, what they stand for in the abstract heap, environments of a mirror -/
namespace Mi
open PySem PySem.Spec L2
/-- the tables of code objects that lambdas are laid in; the exception that is handled, its class, its dict -/
class Tb where
  T : List (Addr × Str)
  E : Option (Addr × Value × Option Addr)
inductive Ky where
  | int (i : Int) | str (x : Str) | tup (xs : List Key)
  deriving DecidableEq
inductive D where
  | non | bl (b : Bool) | int (i : Int) | str (x : Str) | tup (xs : List D) | lst (xs : List D)
  | dct (t : Bool) (ks : List Ky) (vs : List D) | obj (c : Str) (ns : List Str) (vs : List D) | fz (xs : List D) | exn (o : Bool) (c : Str) (ns : List Str) (vs : List D)
mutual
def D.same : D → D → Bool
  | .non, .non => true
  | .bl a, .bl b => a == b
  | .int a, .int b => decide (a = b)
  | .str a, .str b => decide (a = b)
  | .tup xs, .tup ys => D.sames xs ys
  | .lst xs, .lst ys => D.sames xs ys
  | .dct t ks vs, .dct u ls ws => (t == u) && decide (ks = ls) && D.sames vs ws
  | .obj c ns vs, .obj d ms ws => decide (c = d) && decide (ns = ms) && D.sames vs ws
  | .fz xs, .fz ys => D.sames xs ys
  | .exn o c ns vs, .exn p d ms ws => (o == p) && decide (c = d) && decide (ns = ms) && D.sames vs ws
  | _, _ => false
def D.sames : List D → List D → Bool
  | [], [] => true
  | x :: xs, y :: ys => D.same x y && D.sames xs ys
  | _, _ => false
end
mutual
theorem D.same_refl : ∀ d : D, D.same d d = true
  | .non => rfl
  | .bl a => by simp [D.same]
  | .int a => by simp [D.same]
  | .str a => by simp [D.same]
  | .tup xs => by simp [D.same, D.sames_refl xs]
  | .lst xs => by simp [D.same, D.sames_refl xs]
  | .dct t ks vs => by simp [D.same, D.sames_refl vs]
  | .obj c ns vs => by simp [D.same, D.sames_refl vs]
  | .fz xs => by simp [D.same, D.sames_refl xs]
  | .exn o c ns vs => by simp [D.same, D.sames_refl vs]
theorem D.sames_refl : ∀ ds : List D, D.sames ds ds = true
  | [] => rfl
  | d :: ds => by simp [D.sames, D.same_refl d, D.sames_refl ds]
end
mutual
theorem D.same_eq : ∀ d e : D, D.same d e = true → d = e
  | .non, e, h => by cases e <;> simp_all [D.same]
  | .bl a, e, h => by cases e <;> simp_all [D.same]
  | .int a, e, h => by cases e <;> simp_all [D.same]
  | .str a, e, h => by cases e <;> simp_all [D.same]
  | .tup xs, e, h => by
    cases e <;> simp [D.same] at h
    rw [D.sames_eq xs _ h]
  | .lst xs, e, h => by
    cases e <;> simp [D.same] at h
    rw [D.sames_eq xs _ h]
  | .dct t ks vs, e, h => by
    cases e <;> simp [D.same] at h
    rw [h.1.1, h.1.2, D.sames_eq vs _ h.2]
  | .obj c ns vs, e, h => by
    cases e <;> simp [D.same] at h
    rw [h.1.1, h.1.2, D.sames_eq vs _ h.2]
  | .fz xs, e, h => by
    cases e <;> simp [D.same] at h
    rw [D.sames_eq xs _ h]
  | .exn o c ns vs, e, h => by
    cases e <;> simp [D.same] at h
    rw [h.1.1.1, h.1.1.2, h.1.2, D.sames_eq vs _ h.2]
theorem D.sames_eq : ∀ ds es : List D, D.sames ds es = true → ds = es
  | [], es, h => by cases es <;> simp_all [D.sames]
  | d :: ds, es, h => by
    cases es with
    | nil => simp [D.sames] at h
    | cons e es =>
      simp [D.sames] at h
      rw [D.same_eq d e h.1, D.sames_eq ds es h.2]
end
instance : DecidableEq D := fun a b => if h : D.same a b = true then .isTrue (D.same_eq a b h) else .isFalse fun e => h (by rw [e]; exact D.same_refl b)

/-! ### what a tree stands for -/
variable [Tb]
/-- what is not a code object's table -/
def NT (o : HO) : Prop := ∀ ps, o ≠ .tbl ps
/-- an object that is none stands at a -/
def HN (H : Hp) (a : Addr) (o : HO) : Prop := H a = some o ∧ NT o
/-- nothing but perhaps a table stands at a -/
def NoN (H : Hp) (a : Addr) : Prop := ∀ o, ¬ HN H a o
theorem NoN.of {H : Hp} {a : Addr} (h : H a = none) : NoN H a := fun o q => by rw [q.1] at h; cases h
theorem NoN.no {H : Hp} {a : Addr} {o : HO} {p : Prop} (n : NoN H a) (h : HN H a o) : p := (n o h).elim
theorem nt_lst {xs : List V} : NT (.lst xs) := fun _ h => nomatch h
theorem nt_tup {xs : List V} : NT (.tup xs) := fun _ h => nomatch h
theorem nt_dK {xs : List (Key × V)} : NT (.dK xs) := fun _ h => nomatch h
theorem nt_dT {xs : List (List Key × V)} : NT (.dT xs) := fun _ h => nomatch h
theorem nt_ins {C d : Addr} {fs : List (Str × V)} : NT (.ins C d fs) := fun _ h => nomatch h
theorem nt_frz {o : Obj} {u : HO} : NT (.frz o u) := fun _ h => nomatch h
theorem nt_xd {fs : List (Str × V)} : NT (.xd fs) := fun _ h => nomatch h
/-- the keys of a dict of ints and texts -/
def kyK : Ky → Option Key
  | .int i => some (.inl i)
  | .str x => some (.inr x)
  | .tup _ => none
/-- the keys of a dict of tuples -/
def kyT : Ky → Option (List Key)
  | .tup xs => some xs
  | _ => none
/-- a dict stands at a: its keys, its values -/
def DctAt (H : Hp) (t : Bool) (ks : List Ky) (xs : List V) (a : Addr) : Prop := match t with
  | false => ∃ kvs, H a = some (.dK kvs) ∧ ks.map kyK = kvs.map (fun p => some p.1) ∧ xs = kvs.map (·.2)
  | true => ∃ kvs, H a = some (.dT kvs) ∧ ks.map kyT = kvs.map (fun p => some p.1) ∧ xs = kvs.map (·.2)
theorem DctAt.some {H : Hp} {t : Bool} {ks : List Ky} {xs : List V} {a : Addr} (h : DctAt H t ks xs a) : ∃ o, H a = Option.some o := by
  cases t with
  | false => obtain ⟨kvs, h, _⟩ := h; exact ⟨_, h⟩
  | true => obtain ⟨kvs, h, _⟩ := h; exact ⟨_, h⟩
theorem DctAt.to {H H' : Hp} {t : Bool} {ks : List Ky} {xs : List V} {a : Addr} (h : DctAt H t ks xs a) (k : ∀ o, HN H a o → HN H' a o) : DctAt H' t ks xs a := by
  cases t with
  | false => obtain ⟨kvs, h, q⟩ := h; exact ⟨kvs, (k _ ⟨h, nt_dK⟩).1, q⟩
  | true => obtain ⟨kvs, h, q⟩ := h; exact ⟨kvs, (k _ ⟨h, nt_dT⟩).1, q⟩
/-- .. or a locked one -/
def DctR (H : Hp) (t : Bool) (ks : List Ky) (xs : List V) (a : Addr) : Prop := match t with
  | false => ∃ kvs, L2.Rd H a (.dK kvs) ∧ ks.map kyK = kvs.map (fun p => some p.1) ∧ xs = kvs.map (·.2)
  | true => ∃ kvs, L2.Rd H a (.dT kvs) ∧ ks.map kyT = kvs.map (fun p => some p.1) ∧ xs = kvs.map (·.2)
theorem DctAt.rd {H : Hp} {t : Bool} {ks : List Ky} {xs : List V} {a : Addr} (h : DctAt H t ks xs a) : DctR H t ks xs a := by
  cases t with
  | false => obtain ⟨kvs, h, q⟩ := h; exact ⟨kvs, .inl h, q⟩
  | true => obtain ⟨kvs, h, q⟩ := h; exact ⟨kvs, .inl h, q⟩
theorem rd_some {H : Hp} {a : Addr} {u : HO} (h : L2.Rd H a u) : ∃ o, H a = Option.some o := by
  rcases h with h | ⟨o, h⟩
  · exact ⟨_, h⟩
  · exact ⟨_, h⟩
theorem rd_to {H H' : Hp} {a : Addr} {u : HO} (n : NT u) (h : L2.Rd H a u) (k : ∀ o, HN H a o → HN H' a o) : L2.Rd H' a u := by
  rcases h with h | ⟨o, h⟩
  · exact .inl (k _ ⟨h, n⟩).1
  · exact .inr ⟨o, (k _ ⟨h, nt_frz⟩).1⟩
theorem rd_hn {H : Hp} {a : Addr} {u : HO} (n : NT u) (h : L2.Rd H a u) : ∃ o, HN H a o := by
  rcases h with h | ⟨o, h⟩
  · exact ⟨_, h, n⟩
  · exact ⟨_, h, nt_frz⟩
theorem DctR.some {H : Hp} {t : Bool} {ks : List Ky} {xs : List V} {a : Addr} (h : DctR H t ks xs a) : ∃ o, H a = Option.some o := by
  cases t with
  | false => obtain ⟨kvs, h, _⟩ := h; exact rd_some h
  | true => obtain ⟨kvs, h, _⟩ := h; exact rd_some h
theorem DctR.to {H H' : Hp} {t : Bool} {ks : List Ky} {xs : List V} {a : Addr} (h : DctR H t ks xs a) (k : ∀ o, HN H a o → HN H' a o) : DctR H' t ks xs a := by
  cases t with
  | false => obtain ⟨kvs, h, q⟩ := h; exact ⟨kvs, rd_to nt_dK h k, q⟩
  | true => obtain ⟨kvs, h, q⟩ := h; exact ⟨kvs, rd_to nt_dT h k, q⟩
theorem DctR.hn {H : Hp} {t : Bool} {ks : List Ky} {xs : List V} {a : Addr} (h : DctR H t ks xs a) : ∃ o, HN H a o := by
  cases t with
  | false => obtain ⟨kvs, h, _⟩ := h; exact rd_hn nt_dK h
  | true => obtain ⟨kvs, h, _⟩ := h; exact rd_hn nt_dT h
theorem DctAt.hn {H : Hp} {t : Bool} {ks : List Ky} {xs : List V} {a : Addr} (h : DctAt H t ks xs a) : ∃ o, HN H a o := by
  cases t with
  | false => obtain ⟨kvs, h, _⟩ := h; exact ⟨_, h, nt_dK⟩
  | true => obtain ⟨kvs, h, _⟩ := h; exact ⟨_, h, nt_dT⟩
/-- a list that no one changes -/
def FzAt (K : PySem.W.Frag) (U : Addr → Prop) (H : Hp) (a : Addr) (xs : List V) : Prop := (∃ o, H a = some (.frz o (.lst xs)) ∧ ¬ U a) ∨ SqL K (fun _ => none) a xs
theorem FzAt.to {K : PySem.W.Frag} {U U' : Addr → Prop} {H H' : Hp} {a : Addr} {xs : List V} (hk : ∀ a o, ¬ U a → HN H a o → HN H' a o) (hu : ∀ a o, ¬ U a → HN H a o → ¬ U' a) (h : FzAt K U H a xs) : FzAt K U' H' a xs :=
  h.imp (fun ⟨o, h, n⟩ => ⟨o, (hk _ _ n ⟨h, nt_frz⟩).1, hu _ _ n ⟨h, nt_frz⟩⟩) id
theorem FzAt.sq {K : PySem.W.Frag} {U : Addr → Prop} {H : Hp} {a : Addr} {xs : List V} (h : FzAt K U H a xs) : SqL K H a xs := by
  rcases h with ⟨o, h, _⟩ | h
  · exact .inl (.inr ⟨o, h⟩)
  · rcases h with h | h
    · rcases h with h | ⟨o, h⟩
      · cases h
      · cases h
    · exact .inr h
/-- a text of small letters alone -/
def mkS (x : Str) : Bool := x.cps.size != 0 && x.cps.all fun c => decide (97 ≤ c) && decide (c ≤ 122)
/-- a tuple of such texts (names of marks): it is kept with its object, so that its methods can be read -/
def mkV1 : V → Bool
  | .str x => mkS x
  | _ => false
def mkV (xs : List V) : Bool := !xs.isEmpty && xs.all mkV1
def mkD1 : D → Bool
  | .str x => mkS x
  | _ => false
def mkD (xs : List D) : Bool := !xs.isEmpty && xs.all mkD1
/-- what stands at a tuple -/
def TupAt (H : Hp) (a : Addr) (xs : List V) : Prop := (mkV xs = false ∧ H a = some (.tup xs)) ∨ (mkV xs = true ∧ ∃ o, H a = some (.frz o (.tup xs)) ∧ o.dict = none)
theorem TupAt.rd {H : Hp} {a : Addr} {xs : List V} (h : TupAt H a xs) : L2.Rd H a (.tup xs) := by
  rcases h with ⟨_, h⟩ | ⟨_, o, h, _⟩
  · exact .inl h
  · exact .inr ⟨o, h⟩
theorem TupAt.sq {K : PySem.W.Frag} {H : Hp} {a : Addr} {xs : List V} (h : TupAt H a xs) : SqT K H a xs := .inl h.rd
theorem TupAt.to {H H' : Hp} {a : Addr} {xs : List V} (k : ∀ o, HN H a o → HN H' a o) (h : TupAt H a xs) : TupAt H' a xs := by
  rcases h with ⟨m, h⟩ | ⟨m, o, h, d⟩
  · exact .inl ⟨m, (k _ ⟨h, nt_tup⟩).1⟩
  · exact .inr ⟨m, o, (k _ ⟨h, nt_frz⟩).1, d⟩
theorem TupAt.hn {H : Hp} {a : Addr} {xs : List V} (h : TupAt H a xs) : ∃ o, HN H a o := by
  rcases h with ⟨m, h⟩ | ⟨m, o, h, d⟩
  · exact ⟨_, h, nt_tup⟩
  · exact ⟨_, h, nt_frz⟩
/-- an exception's dict: none, or what it keeps -/
def ExD (U : Addr → Prop) (H : Hp) (ns : List Str) (xs : List V) (dd : Option Addr) : Prop := (ns = [] ∧ xs = [] ∧ dd = none) ∨ ∃ b, dd = some b ∧ ¬ U b ∧ H b = some (.xd (ns.zip xs)) ∧ ns.length = xs.length
theorem ExD.to {U U' : Addr → Prop} {H H' : Hp} {ns : List Str} {xs : List V} {dd : Option Addr} (hk : ∀ a o, ¬ U a → HN H a o → HN H' a o) (hu : ∀ a o, ¬ U a → HN H a o → ¬ U' a) (h : ExD U H ns xs dd) : ExD U' H' ns xs dd := by
  rcases h with h | ⟨b, e, n, h, l⟩
  · exact .inl h
  · exact .inr ⟨b, e, hu _ _ n ⟨h, nt_xd⟩, (hk _ _ n ⟨h, nt_xd⟩).1, l⟩
section
variable (K : PySem.W.Frag) (U : Addr → Prop) (H : Hp)
mutual
def Rep : D → V → Prop
  | .non, v => v = .non
  | .bl b, v => v = .bl b
  | .int i, v => v = .int i
  | .str x, v => v = .str x
  | .tup ds, v => ∃ a xs, v = .ref a ∧ (TupAt H a xs ∧ ¬ U a) ∧ Reps ds xs
  | .lst ds, v => ∃ a xs, v = .ref a ∧ (H a = some (.lst xs) ∧ ¬ U a) ∧ Reps ds xs
  | .dct t ks ds, v => ∃ a xs, v = .ref a ∧ ¬ U a ∧ DctR H t ks xs a ∧ Reps ds xs
  | .obj c ns ds, v => ∃ a dx xs, v = .ref a ∧ ¬ U a ∧ H a = some (.ins (He.ga K c) dx (ns.zip xs)) ∧ ns.length = xs.length ∧ Reps ds xs
  | .fz ds, v => ∃ a xs, v = .ref a ∧ FzAt K U H a xs ∧ Reps ds xs
  | .exn o c ns ds, v => ∃ a cls dd xs, v = .ref a ∧ Tb.E = some (a, cls, dd) ∧ cls = (if o then .ref (He.ga K c) else .type c.toString) ∧ ExD U H ns xs dd ∧ Reps ds xs
def Reps : List D → List V → Prop
  | [], xs => xs = []
  | d :: ds, xs => ∃ x r, xs = x :: r ∧ Rep d x ∧ Reps ds r
end
end
section
variable {K : PySem.W.Frag} {U U' : Addr → Prop} {H H' : Hp}
mutual
theorem Rep.to (hk : ∀ a o, ¬ U a → HN H a o → HN H' a o) (hu : ∀ a o, ¬ U a → HN H a o → ¬ U' a) : ∀ (d : D) (v : V), Rep K U H d v → Rep K U' H' d v
  | .non, _, h => h
  | .bl _, _, h => h
  | .int _, _, h => h
  | .str _, _, h => h
  | .tup ds, v, h => by
    obtain ⟨a, xs, e, ⟨h1, h3⟩, h2⟩ := h
    obtain ⟨o, ho⟩ := h1.hn
    exact ⟨a, xs, e, ⟨h1.to fun o q => hk _ _ h3 q, hu _ _ h3 ho⟩, Reps.to hk hu ds xs h2⟩
  | .lst ds, v, h => by
    obtain ⟨a, xs, e, ⟨h1, h3⟩, h2⟩ := h
    exact ⟨a, xs, e, ⟨(hk _ _ h3 ⟨h1, nt_lst⟩).1, hu _ _ h3 ⟨h1, nt_lst⟩⟩, Reps.to hk hu ds xs h2⟩
  | .dct t ks ds, v, h => by
    obtain ⟨a, xs, e, h3, h1, h2⟩ := h
    obtain ⟨o, ho⟩ := h1.hn
    exact ⟨a, xs, e, hu _ _ h3 ho, h1.to fun o q => hk _ _ h3 q, Reps.to hk hu ds xs h2⟩
  | .obj c ns ds, v, h => by
    obtain ⟨a, dx, xs, e, h3, h1, hl, h2⟩ := h
    exact ⟨a, dx, xs, e, hu _ _ h3 ⟨h1, nt_ins⟩, (hk _ _ h3 ⟨h1, nt_ins⟩).1, hl, Reps.to hk hu ds xs h2⟩
  | .fz ds, v, h => by
    obtain ⟨a, xs, e, h1, h2⟩ := h
    exact ⟨a, xs, e, h1.to hk hu, Reps.to hk hu ds xs h2⟩
  | .exn o c ns ds, v, h => by
    obtain ⟨a, cls, dd, xs, e, h1, h2, h3, h4⟩ := h
    exact ⟨a, cls, dd, xs, e, h1, h2, h3.to hk hu, Reps.to hk hu ds xs h4⟩
theorem Reps.to (hk : ∀ a o, ¬ U a → HN H a o → HN H' a o) (hu : ∀ a o, ¬ U a → HN H a o → ¬ U' a) : ∀ (ds : List D) (xs : List V), Reps K U H ds xs → Reps K U' H' ds xs
  | [], _, h => h
  | d :: ds, xs, h => by
    obtain ⟨x, r, e, h1, h2⟩ := h
    exact ⟨x, r, e, Rep.to hk hu d x h1, Reps.to hk hu ds r h2⟩
end
end
end Mi

set_option Elab.async false
set_option linter.all false
set_option maxRecDepth 100000
set_option maxHeartbeats 4000000
/-! Mi2: environments, results, what an expression's mirror says -/
namespace Mi
open PySem PySem.Spec L2
variable [Tb]
/-- an object that one name alone holds -/
inductive Ob where
  | lst (xs : List D) | dct (t : Bool) (ks : List Ky) (vs : List D) | ins (c : Str) (ns : List Str) (vs : List D)
  deriving DecidableEq
/-- a slot: empty, a value, an object of its own, an object of its own that the caller sees -/
inductive Sl where
  | un | v (d : D) | ow (o : Ob) | io (o : Ob)
  deriving DecidableEq
def Sl.ob : Sl → Option Ob
  | .ow o => some o
  | .io o => some o
  | _ => none
abbrev En := List Sl
structure Exn where
  own : Bool
  cls : Str
  ns : List Str
  vs : List D
  deriving DecidableEq
inductive Rs (α : Type) where
  | ok (a : α) (env : En)
  | er (x : Exn) (env : En)
  | bad
  deriving DecidableEq
def Rs.bind {α β : Type} (r : Rs α) (f : α → En → Rs β) : Rs β := match r with
  | .ok a env => f a env
  | .er x env => .er x env
  | .bad => .bad
/-- from what may be undefined -/
def Rs.of {α : Type} (o : Option α) (env : En) : Rs α := match o with
  | some a => .ok a env
  | none => .bad
@[simp] theorem Rs.bind_ok {α β : Type} (a : α) (env : En) (f : α → En → Rs β) : (Rs.ok a env).bind f = f a env := rfl
@[simp] theorem Rs.bind_er {α β : Type} (x : Exn) (env : En) (f : α → En → Rs β) : (Rs.er x env).bind f = .er x env := rfl
@[simp] theorem Rs.bind_bad {α β : Type} (f : α → En → Rs β) : (Rs.bad : Rs α).bind f = .bad := rfl
@[simp] theorem Rs.of_some {α : Type} (a : α) (env : En) : Rs.of (some a) env = .ok a env := rfl
@[simp] theorem Rs.of_none {α : Type} (env : En) : Rs.of (none : Option α) env = .bad := rfl
/-- the addresses of the objects that the names hold by themselves -/
def Chg (env : En) (σ : St) (a : Addr) : Prop := ∃ (i : Nat) (s : Sl) (o : Ob), env[i]? = some s ∧ s.ob = some o ∧ σ[i]? = some (some (V.ref a))
def Ux (U : Addr → Prop) (env : En) (σ : St) (a : Addr) : Prop := U a ∨ Chg env σ a
def Gr (C : Addr → Prop) (H H' : Hp) : Prop := ∀ a o, ¬ C a → HN H a o → HN H' a o
theorem Gr.refl {C : Addr → Prop} {H : Hp} : Gr C H H := fun _ _ _ h => h
/-- what own objects are -/
def OwnO : HO → Prop
  | .lst _ => True
  | .dK _ => True
  | .dT _ => True
  | .ins _ _ _ => True
  | _ => False
def RepO (K : PySem.W.Frag) (U : Addr → Prop) (H : Hp) : Ob → Addr → Prop
  | .lst ds, a => ∃ xs, H a = some (.lst xs) ∧ Reps K U H ds xs
  | .dct t ks ds, a => ∃ xs, DctAt H t ks xs a ∧ Reps K U H ds xs
  | .ins c ns ds, a => ∃ dx xs, H a = some (.ins (He.ga K c) dx (ns.zip xs)) ∧ ns.length = xs.length ∧ Reps K U H ds xs
theorem RepO.some {K : PySem.W.Frag} {U : Addr → Prop} {H : Hp} {o : Ob} {a : Addr} (h : RepO K U H o a) : ∃ u, H a = Option.some u := by
  cases o with
  | lst ds => obtain ⟨xs, h, _⟩ := h; exact ⟨_, h⟩
  | dct t ks ds => obtain ⟨xs, h, _⟩ := h; exact h.some
  | ins c ns ds => obtain ⟨dx, xs, h, _⟩ := h; exact ⟨_, h⟩
theorem RepO.hn {K : PySem.W.Frag} {U : Addr → Prop} {H : Hp} {o : Ob} {a : Addr} (h : RepO K U H o a) : ∃ u, HN H a u := by
  cases o with
  | lst ds => obtain ⟨xs, h, _⟩ := h; exact ⟨_, h, nt_lst⟩
  | dct t ks ds => obtain ⟨xs, h, _⟩ := h; exact h.hn
  | ins c ns ds => obtain ⟨dx, xs, h, _⟩ := h; exact ⟨_, h, nt_ins⟩
theorem RepO.to {K : PySem.W.Frag} {U U' : Addr → Prop} {H H' : Hp} {o : Ob} {a : Addr} (hk : ∀ a o, ¬ U a → HN H a o → HN H' a o) (hu : ∀ a o, ¬ U a → HN H a o → ¬ U' a)
    (ha : ∀ o, HN H a o → HN H' a o) (h : RepO K U H o a) : RepO K U' H' o a := by
  cases o with
  | lst ds => obtain ⟨xs, h, r⟩ := h; exact ⟨xs, (ha _ ⟨h, nt_lst⟩).1, Reps.to hk hu _ _ r⟩
  | dct t ks ds => obtain ⟨xs, h, r⟩ := h; exact ⟨xs, h.to ha, Reps.to hk hu _ _ r⟩
  | ins c ns ds => obtain ⟨dx, xs, h, l, r⟩ := h; exact ⟨dx, xs, (ha _ ⟨h, nt_ins⟩).1, l, Reps.to hk hu _ _ r⟩
/-- a list, a dict, an instance stands at a -/
theorem RepO.own {K : PySem.W.Frag} {U : Addr → Prop} {H : Hp} {o : Ob} {a : Addr} (h : RepO K U H o a) : ∃ u, H a = Option.some u ∧ OwnO u := by
  cases o with
  | lst ds => obtain ⟨xs, h, _⟩ := h; exact ⟨_, h, trivial⟩
  | dct t ks ds =>
    obtain ⟨xs, h, _⟩ := h
    cases t with
    | false => obtain ⟨kvs, h, _⟩ := h; exact ⟨_, h, trivial⟩
    | true => obtain ⟨kvs, h, _⟩ := h; exact ⟨_, h, trivial⟩
  | ins c ns ds => obtain ⟨dx, xs, h, _⟩ := h; exact ⟨_, h, trivial⟩
theorem own_nt {u : HO} (h : OwnO u) : NT u := fun ps e => by subst e; exact h
/-- an object that one can own stands at a -/
def OH (H : Hp) (a : Addr) (o : HO) : Prop := HN H a o ∧ OwnO o
theorem RepO.hnO {K : PySem.W.Frag} {U : Addr → Prop} {H : Hp} {o : Ob} {a : Addr} (h : RepO K U H o a) : ∃ u, OH H a u := by
  obtain ⟨u, h, w⟩ := h.own
  exact ⟨u, ⟨h, own_nt w⟩, w⟩
structure SA (K : PySem.W.Frag) (U : Addr → Prop) (env : En) (σ : St) (H : Hp) : Prop where
  len : env.length = σ.length
  tb : LamX.Tabs Tb.T H
  alN : ∀ a, U a → ∃ o, OH H a o
  nu : ∀ a, Chg env σ a → ¬ U a
  inj : ∀ (i j : Nat) (s t : Sl) (o p : Ob) (a : Addr), env[i]? = some s → s.ob = some o → env[j]? = some t → t.ob = some p → σ[i]? = some (some (V.ref a)) → σ[j]? = some (some (V.ref a)) → i = j
  val : ∀ (i : Nat) (d : D), env[i]? = some (Sl.v d) → ∃ v, σ[i]? = some (some v) ∧ Rep K (Ux U env σ) H d v
  ob : ∀ (i : Nat) (s : Sl) (o : Ob), env[i]? = some s → s.ob = some o → ∃ a, σ[i]? = some (some (V.ref a)) ∧ RepO K (Ux U env σ) H o a
section
variable {K : PySem.W.Frag} {U U' : Addr → Prop} {env env' env1 env2 : En} {σ σ' σ1 σ2 : St} {H H' H1 H2 : Hp}
theorem SA.alxN (sa : SA K U env σ H) {a : Addr} (h : Ux U env σ a) : ∃ o, OH H a o := by
  rcases h with h | ⟨i, s, o, h1, h2, h3⟩
  · exact sa.alN a h
  · obtain ⟨b, h4, r⟩ := sa.ob i s o h1 h2
    rw [h3] at h4
    cases h4
    exact r.hnO
/-- from one heap to another: all but the tables stands -/
structure Sm (H H' : Hp) : Prop where
  keep : ∀ a o, HN H a o → HN H' a o
  tb : LamX.Tabs Tb.T H'
/-- from one state to another: what was not ours alone stands, objects of our own are the old ones or new, the caller's stay in their slots -/
structure Ste (K : PySem.W.Frag) (U : Addr → Prop) (env : En) (σ : St) (H : Hp) (env' : En) (σ' : St) (H' : Hp) : Prop where
  sa : SA K U env' σ' H'
  gr : Gr (Chg env σ) H H'
  fr : ∀ a, Chg env' σ' a → Chg env σ a ∨ NoN H a
  io : ∀ (i : Nat) (o : Ob), env[i]? = some (Sl.io o) → ∃ o' : Ob, env'[i]? = some (Sl.io o') ∧ σ'[i]? = σ[i]?
theorem Ste.refl (sa : SA K U env σ H) : Ste K U env σ H env σ H := ⟨sa, .refl, fun _ h => .inl h, fun _ o h => ⟨o, h, rfl⟩⟩
end
/-- how an exception lies -/
def ExR (K : PySem.W.Frag) (U : Addr → Prop) (H : Hp) (x : Exn) (cls : Value) (dd : Option Addr) : Prop :=
  cls = (if x.own then .ref (He.ga K x.cls) else .type x.cls.toString) ∧ ∃ xs, ExD U H x.ns xs dd ∧ Reps K U H x.vs xs
theorem ExR.to {K : PySem.W.Frag} {U U' : Addr → Prop} {H H' : Hp} {x : Exn} {cls : Value} {dd : Option Addr} (hk : ∀ a o, ¬ U a → HN H a o → HN H' a o) (hu : ∀ a o, ¬ U a → HN H a o → ¬ U' a) (h : ExR K U H x cls dd) : ExR K U' H' x cls dd := by
  obtain ⟨h1, xs, h2, h3⟩ := h
  exact ⟨h1, xs, h2.to hk hu, Reps.to hk hu _ _ h3⟩
theorem ExR.sub {K : PySem.W.Frag} {U U' : Addr → Prop} {H : Hp} {x : Exn} {cls : Value} {dd : Option Addr} (hu : ∀ a, U' a → U a) (h : ExR K U H x cls dd) : ExR K U' H x cls dd := h.to (fun _ _ _ q => q) fun a _ n _ q => n (hu a q)
/-- what a result of a mirror asks; RL: how its value and the state's lie -/
def Po {α β : Type} (RL : (Addr → Prop) → St → Hp → α → β → Prop) (K : PySem.W.Frag) (W : WX) (U : Addr → Prop) (env : En) (σ : St) (H : Hp) (r : Rs α) (Q : β → Hp → Prop) : Prop := match r with
  | .ok d env' => ∀ v H', Ste K U env σ H env' σ H' → RL (Ux U env' σ) σ H' d v → Q v H'
  | .er x env' => ∀ cls dd H', Ste K U env σ H env' σ H' → ExR K (Ux U env' σ) H' x cls dd → W cls dd σ H'
  | .bad => False
section
variable {α β γ δ : Type} {R1 : (Addr → Prop) → St → Hp → α → β → Prop} {R2 : (Addr → Prop) → St → Hp → γ → δ → Prop} {K : PySem.W.Frag} {W : WX} {U : Addr → Prop} {env env1 : En} {σ : St} {H H1 : Hp}
end
/-! ### judgements -/
def RDs (K : PySem.W.Frag) : (Addr → Prop) → St → Hp → List D → List V → Prop := fun U _ H d v => Reps K U H d v
/-- arguments: values, and slots whose objects are handed on -/
def RAr (K : PySem.W.Frag) (U : Addr → Prop) (σ : St) (H : Hp) : List (D ⊕ Nat) → List V → Prop
  | [], vs => vs = []
  | .inl d :: r, vs => ∃ x t, vs = x :: t ∧ Rep K U H d x ∧ RAr K U σ H r t
  | .inr i :: r, vs => ∃ x t, vs = x :: t ∧ σ[i]? = some (some x) ∧ RAr K U σ H r t
def tM {α β : Type} (RL : (Addr → Prop) → St → Hp → α → β → Prop) (K : PySem.W.Frag) (W : WX) (m : En → Rs α) : St → Hp → (β → Hp → Prop) → Prop := fun σ H Q => ∃ U env, SA K U env σ H ∧ Po RL K W U env σ H (m env) Q
abbrev tR (K : PySem.W.Frag) (W : WX) (m : En → Rs (List (D ⊕ Nat))) : TA := tM (RAr K) K W m
abbrev tA (K : PySem.W.Frag) (W : WX) (m : En → Rs (List D)) : TA := tM (RDs K) K W m
abbrev EvR (X : Cx) (W : WX) (es : List Expr) (m : En → Rs (List (D ⊕ Nat))) : Prop := PA X es (tR X.K W m)
abbrev EvA (X : Cx) (W : WX) (es : List Expr) (m : En → Rs (List D)) : Prop := PA X es (tA X.K W m)
end Mi

set_option Elab.async false
set_option linter.all false
set_option maxRecDepth 100000
set_option maxHeartbeats 4000000
/-! Mi3: defs, their promises, calls -/
namespace Mi
open PySem PySem.Spec L2
variable [Tb]
/-! ### a def that is walked where no repr is under way -/
structure FnG (P : Program) (w : World) (K : PySem.W.Frag) (mg : Str → Option Value) (base : Heap) (k : Nat) (f : Addr) (fd : FuncData) (ps : List Str) (sp : Sp) : Prop where
  len : ∀ vs H Q E, sp vs H Q E → vs.length = ps.length
  run : ∀ (A : Around) (outer : List PySem.Env) (s : Shared) (H : Hp) (args : Args) (us : List Value) (vs : List V) (Q : VK) (E : XK), Room k A → A.guards = some [] →
    Env0 P w K mg base A outer s H → BindsTo s fd args (ps.zip us) → Vals vs us → sp vs H Q E → codeAny (model P w) A (.call (.ref f) args) (CR (L2.CX P w) outer P w H s Q E) s
theorem FnG.of {P : Program} {w : World} {K : PySem.W.Frag} {mg : Str → Option Value} {base : Heap} {k : Nat} {f : Addr} {fd : FuncData} {ps : List Str} {sp : Sp} (F : FnOk P w K mg base (L2.CX P w) k f fd ps sp) : FnG P w K mg base k f fd ps sp :=
  ⟨F.len, fun A outer s H args us vs Q E hr _ e0 hb r h => F.run A outer s H args us vs Q E hr e0 hb r h⟩
theorem FnG.imp {P : Program} {w : World} {K : PySem.W.Frag} {mg : Str → Option Value} {base : Heap} {k : Nat} {f : Addr} {fd : FuncData} {ps : List Str} {sp sp' : Sp} (F : FnG P w K mg base k f fd ps sp)
    (h : ∀ vs H Q E, sp' vs H Q E → sp vs H Q E) : FnG P w K mg base k f fd ps sp' :=
  ⟨fun vs H Q E z => F.len vs H Q E (h vs H Q E z), fun A outer s H args us vs Q E hr hg e0 hb r q => F.run A outer s H args us vs Q E hr hg e0 hb r (h vs H Q E q)⟩
/-- what a body's context is known to have -/
structure Co (X : Cx) (k : Nat) : Prop where
  hr : Room k X.A
  hg : X.A.guards = some []
  calm : X.calm = true
section
variable {X : Cx} {W : WX} {k : Nat} {f : Addr} {fd : FuncData} {ps : List Str} {sp : Sp} {dvs : List V} {ds : List Value} {x : Str} {p pos : Pos} {e : Expr} {es : List Expr} {t : TA}
end
end Mi

set_option Elab.async false
set_option linter.all false
set_option maxRecDepth 100000
set_option maxHeartbeats 4000000
/-! Mi4: statements' mirrors; the promise of a mirror; a def keeps it; its calls -/
namespace Mi
open PySem PySem.Spec L2
variable [Tb]
inductive Fl where
  | nx | bk | ct | rt (d : D)
/-- what a statement's result asks -/
def PoF (K : PySem.W.Frag) (Dn : Ends) (U : Addr → Prop) (fl : Fl) (env' : En) (σ' : St) (H' : Hp) : Prop := match fl with
  | .nx => Dn.nx σ' H'
  | .bk => Dn.bk σ' H'
  | .ct => Dn.ct σ' H'
  | .rt d => ∀ v, Rep K (Ux U env' σ') H' d v → Dn.rt v H'
def PoS (K : PySem.W.Frag) (W : WX) (U : Addr → Prop) (env : En) (σ : St) (H : Hp) (r : Rs Fl) (Dn : Ends) : Prop := match r with
  | .ok fl env' => ∀ σ' H', Ste K U env σ H env' σ' H' → PoF K Dn U fl env' σ' H'
  | .er x env' => ∀ cls dd σ' H', Ste K U env σ H env' σ' H' → ExR K (Ux U env' σ') H' x cls dd → W cls dd σ' H'
  | .bad => False
def tS (K : PySem.W.Frag) (W : WX) (m : En → Rs Fl) : TS := fun Dn σ H => ∃ U env, SA K U env σ H ∧ PoS K W U env σ H (m env) Dn
abbrev EvSs (X : Cx) (W : WX) (s : List Stmt) (m : En → Rs Fl) : Prop := PSs X s (tS X.K W m)
section
variable {K : PySem.W.Frag} {W : WX} {U : Addr → Prop} {env env1 : En} {σ σ1 : St} {H H1 : Hp}
end
section
variable {X : Cx} {W : WX} {st : Stmt} {rest : List Stmt} {m n : En → Rs Fl}
end
/-! ### the promise -/
section
variable {K : PySem.W.Frag} {U : Addr → Prop} {args env' : En} {σ0 σ' : St} {H H' : Hp} {n : Nat}
end
end Mi

set_option Elab.async false
set_option linter.all false
set_option maxRecDepth 100000
set_option maxHeartbeats 4000000
/-! Mi5: a call's arguments; what a callee leaves in the caller's slots -/
namespace Mi
open PySem PySem.Spec L2
variable [Tb]
abbrev Ar := D ⊕ Nat
section
variable {K : PySem.W.Frag} {U U' : Addr → Prop} {env : En} {σ : St} {H : Hp} {as : List Ar} {vs : List V}
theorem RAr.len : ∀ {as : List Ar} {vs : List V}, RAr K U σ H as vs → vs.length = as.length
  | [], _, h => by rw [show _ = _ from h]; rfl
  | .inl _ :: r, _, ⟨x, t, e, _, h⟩ => by rw [e, List.length_cons, List.length_cons, RAr.len h]
  | .inr _ :: r, _, ⟨x, t, e, _, h⟩ => by rw [e, List.length_cons, List.length_cons, RAr.len h]
theorem RAr.at : ∀ {as : List Ar} {vs : List V}, RAr K U σ H as vs → ∀ (j : Nat) (a : Ar), as[j]? = some a → ∃ v, vs[j]? = some v ∧ match a with
    | .inl d => Rep K U H d v
    | .inr i => σ[i]? = some (some v)
  | [], _, h, j, a, q => by simp at q
  | .inl d :: r, _, ⟨x, t, e, h1, h⟩, 0, a, q => by simp at q; subst q; exact ⟨x, by rw [e]; rfl, h1⟩
  | .inr d :: r, _, ⟨x, t, e, h1, h⟩, 0, a, q => by simp at q; subst q; exact ⟨x, by rw [e]; rfl, h1⟩
  | .inl d :: r, _, ⟨x, t, e, h1, h⟩, j + 1, a, q => by
    obtain ⟨v, e2, h2⟩ := RAr.at h j a (by simpa using q)
    exact ⟨v, by rw [e]; simpa using e2, h2⟩
  | .inr d :: r, _, ⟨x, t, e, h1, h⟩, j + 1, a, q => by
    obtain ⟨v, e2, h2⟩ := RAr.at h j a (by simpa using q)
    exact ⟨v, by rw [e]; simpa using e2, h2⟩
theorem RAr.to {H' : Hp} (hk : ∀ a o, ¬ U a → HN H a o → HN H' a o) (hu : ∀ a o, ¬ U a → HN H a o → ¬ U' a) : ∀ {as : List Ar} {vs : List V}, RAr K U σ H as vs → RAr K U' σ H' as vs
  | [], _, h => h
  | .inl d :: r, _, ⟨x, t, e, h1, h⟩ => ⟨x, t, e, Rep.to hk hu d x h1, RAr.to hk hu h⟩
  | .inr d :: r, _, ⟨x, t, e, h1, h⟩ => ⟨x, t, e, h1, RAr.to hk hu h⟩
end
end Mi

set_option Elab.async false
set_option linter.all false
set_option maxRecDepth 100000
set_option maxHeartbeats 4000000
/-! MiT: tuples made with their label -/
namespace Mi
open PySem PySem.Spec PyProof.Rows L2
section
variable {X : Cx} {pins : List (Addr × Obj)} {σ : L2.St} {H : Hp} {s : Shared}
end
section
variable {X : Cx}
end
end Mi

set_option Elab.async false
set_option linter.all false
set_option maxRecDepth 100000
set_option maxHeartbeats 4000000
/-! Mi6: expressions' mirrors -/
namespace Mi
open PySem PySem.Spec L2
variable [Tb]
/-! ### names, constants, arguments -/
def Ob.val : Ob → D
  | .lst ds => .lst ds
  | .dct t ks ds => .dct t ks ds
  | .ins c ns ds => .obj c ns ds
section
variable {K : PySem.W.Frag} {W : WX} {U : Addr → Prop} {env : En} {σ : St} {H : Hp}
/-- a name gives up the object that it alone held: it is a value from now on -/
theorem Ste.free {i : Nat} {o : Ob} {a : Addr} (sa : SA K U env σ H) (h : env[i]? = some (.ow o)) (ha : σ[i]? = some (some (V.ref a))) : Ste K U env σ H (env.set i (.v o.val)) σ H ∧ Rep K (Ux U (env.set i (.v o.val)) σ) H o.val (.ref a) := by
  have hi : i < env.length := (List.getElem?_eq_some_iff.mp h).1
  have old : ∀ {j : Nat} {s : Sl} {p : Ob}, (env.set i (.v o.val))[j]? = some s → s.ob = some p → env[j]? = some s ∧ j ≠ i := fun {j s p} h1 h2 => by
    by_cases e : i = j
    · subst e
      rw [List.getElem?_set_self hi] at h1
      cases h1
      cases h2
    · rw [List.getElem?_set_ne e] at h1
      exact ⟨h1, fun z => e z.symm⟩
  have ch : ∀ x, Chg (env.set i (.v o.val)) σ x → Chg env σ x := fun x ⟨j, s, p, h1, h2, h3⟩ => ⟨j, s, p, (old h1 h2).1, h2, h3⟩
  have nc : ¬ Chg (env.set i (.v o.val)) σ a := fun ⟨j, s, p, h1, h2, h3⟩ => by
    obtain ⟨h4, n⟩ := old h1 h2
    exact n (sa.inj j i s _ p o a h4 h2 h rfl h3 ha)
  have sub : ∀ x, Ux U (env.set i (.v o.val)) σ x → Ux U env σ x := fun x q => q.imp id (ch x)
  have ra : Rep K (Ux U (env.set i (.v o.val)) σ) H o.val (.ref a) := by
    obtain ⟨b, h1, r⟩ := sa.ob i _ o h rfl
    rw [ha] at h1
    cases h1
    have nu : ¬ Ux U (env.set i (.v o.val)) σ a := fun q => q.elim (sa.nu a ⟨i, _, o, h, rfl, ha⟩) nc
    have r' := RepO.to (K := K) (fun _ _ _ q => q) (fun x o n _ q => n (sub x q)) (fun _ q => q) r
    cases o with
    | lst ds => obtain ⟨xs, e, r⟩ := r'; exact ⟨a, xs, rfl, ⟨e, nu⟩, r⟩
    | dct t ks ds => obtain ⟨xs, e, r⟩ := r'; exact ⟨a, xs, rfl, nu, e.rd, r⟩
    | ins c ns ds => obtain ⟨dx, xs, e, l, r⟩ := r'; exact ⟨a, dx, xs, rfl, nu, e, l, r⟩
  refine ⟨⟨⟨by rw [List.length_set]; exact sa.len, sa.tb, sa.alN, fun x c => sa.nu x (ch x c), fun j k s t p q x h1 h2 h3 h4 h5 h6 => sa.inj j k s t p q x (old h1 h2).1 h2 (old h3 h4).1 h4 h5 h6, fun j d h1 => ?_, fun j s p h1 h2 => ?_⟩, .refl, fun x c => .inl (ch x c), fun j p h1 => ?_⟩, ra⟩
  · by_cases e : i = j
    · subst e
      rw [List.getElem?_set_self hi] at h1
      cases h1
      exact ⟨_, ha, ra⟩
    · rw [List.getElem?_set_ne e] at h1
      obtain ⟨v, e1, r⟩ := sa.val j d h1
      exact ⟨v, e1, Rep.to (fun _ _ _ q => q) (fun x o n _ q => n (sub x q)) d v r⟩
  · obtain ⟨b, e1, r⟩ := sa.ob j s p (old h1 h2).1 h2
    exact ⟨b, e1, RepO.to (fun _ _ _ q => q) (fun x o n _ q => n (sub x q)) (fun _ q => q) r⟩
  · refine ⟨p, ?_, rfl⟩
    by_cases e : i = j
    · subst e
      rw [h] at h1
      cases h1
    · rw [List.getElem?_set_ne e]
      exact h1
end
section
variable {X : Cx} {W : WX} {e : Expr} {es : List Expr} {m : En → Rs D} {pos : Pos}
end
/-- a list of arguments, n of them -/
structure EvN (X : Cx) (W : WX) (es : List Expr) (n : Nat) (m : En → Rs (List D)) : Prop where
  pa : EvA X W es m
  len : ∀ env ds e, m env = .ok ds e → ds.length = n
structure EvQ (X : Cx) (W : WX) (es : List Expr) (n : Nat) (m : En → Rs (List Ar)) : Prop where
  pa : EvR X W es m
  len : ∀ env ds e, m env = .ok ds e → ds.length = n
section
variable {X : Cx} {W : WX} {e : Expr} {es : List Expr} {m : En → Rs D} {ma : En → Rs (List D)} {mq : En → Rs (List Ar)} {n : Nat}
end
/-! ### calls of defs -/
section
variable {X : Cx} {W : WX} {k n : Nat} {f : Addr} {fd : FuncData} {ps : List Str} {x : Str} {p pos : Pos} {e : Expr} {es : List Expr} {m : En → Rs D} {mq : En → Rs (List Ar)}
end
/-! ### values' operations -/
section
variable {K : PySem.W.Frag} {U : Addr → Prop} {H : Hp} {ds : List D} {xs : List V} {p : Addr}
theorem Reps.len : ∀ {ds : List D} {xs : List V}, Reps K U H ds xs → xs.length = ds.length
  | [], _, h => by rw [show _ = _ from h]; rfl
  | _ :: _, _, ⟨x, r, e, _, h⟩ => by rw [e, List.length_cons, List.length_cons, Reps.len h]
theorem Reps.get : ∀ {ds : List D} {xs : List V}, Reps K U H ds xs → ∀ {i : Nat} {d : D}, ds[i]? = some d → ∃ x, xs[i]? = some x ∧ Rep K U H d x
  | [], _, _, i, d, h => by simp at h
  | _ :: _, _, ⟨x, r, e, h1, h2⟩, 0, d, h => by simp at h; subst h; exact ⟨x, by rw [e]; rfl, h1⟩
  | _ :: _, _, ⟨x, r, e, h1, h2⟩, i + 1, d, h => by
    obtain ⟨y, e2, q⟩ := Reps.get h2 (i := i) (d := d) (by simpa using h)
    exact ⟨y, by rw [e]; simpa using e2, q⟩
theorem Reps.take : ∀ {ds : List D} {xs : List V} (n : Nat), Reps K U H ds xs → Reps K U H (ds.take n) (xs.take n)
  | _, _, 0, _ => by rw [List.take_zero, List.take_zero]; rfl
  | [], _, n + 1, h => by rw [show _ = _ from h]; rfl
  | _ :: _, _, n + 1, ⟨x, r, e, h1, h2⟩ => ⟨x, r.take n, by rw [e]; rfl, h1, Reps.take n h2⟩
theorem Reps.drop : ∀ {ds : List D} {xs : List V} (n : Nat), Reps K U H ds xs → Reps K U H (ds.drop n) (xs.drop n)
  | _, _, 0, h => h
  | [], _, n + 1, h => by rw [show _ = _ from h]; rfl
  | _ :: _, _, n + 1, ⟨x, r, e, h1, h2⟩ => by rw [e]; exact Reps.drop n h2
theorem Rep.tup_sq {v : V} (r : Rep K U H (.tup ds) v) : ∃ a xs, v = .ref a ∧ TupAt H a xs ∧ ¬ U a ∧ Reps K U H ds xs := by
  obtain ⟨a, xs, e, ⟨h, n⟩, q⟩ := r
  exact ⟨a, xs, e, h, n, q⟩
theorem Rep.lst_sq {v : V} (r : Rep K U H (.lst ds) v) : ∃ a xs, v = .ref a ∧ H a = some (.lst xs) ∧ ¬ U a ∧ Reps K U H ds xs := by
  obtain ⟨a, xs, e, ⟨h, n⟩, q⟩ := r
  exact ⟨a, xs, e, h, n, q⟩
end
section
variable {X : Cx} {W : WX} {K : PySem.W.Frag} {U : Addr → Prop} {env : En} {σ : St} {H : Hp}
variable {a b e : Expr} {es : List Expr} {m n : En → Rs D} {ma : En → Rs (List D)} {k : Nat} {pos : Pos}
end
end Mi

set_option Elab.async false
set_option linter.all false
set_option maxRecDepth 100000
set_option maxHeartbeats 4000000
/-! Mi7: the operations on trees, each with its rule -/
namespace Mi
open PySem PySem.Spec L2
variable [Tb]
section
variable {K : PySem.W.Frag} {U : Addr → Prop} {H : Hp}
/-! ### arithmetic -/
/-! ### comparisons -/
/-- the data alone -/
def D.py : D → Option PyData
  | .non => some .none
  | .bl b => some (.bool b)
  | .int i => some (.int i)
  | .str x => some (.str x)
  | .tup xs => (pys xs).map .tuple
  | .lst xs => (pys xs).map .list
  | _ => none
where pys : List D → Option (List PyData)
  | [] => some []
  | d :: ds => d.py.bind fun p => (pys ds).map fun r => p :: r
mutual
theorem Rep.dp : ∀ (d : D) (p : PyData) (v : V), Rep K U H d v → d.py = some p → Dp K H v p
  | .non, p, v, r, h => by simp [D.py] at h; subst h; rw [show v = _ from r]; exact .non
  | .bl b, p, v, r, h => by simp [D.py] at h; subst h; rw [show v = _ from r]; exact .bl b
  | .int i, p, v, r, h => by simp [D.py] at h; subst h; rw [show v = _ from r]; exact .int i
  | .str x, p, v, r, h => by simp [D.py] at h; subst h; rw [show v = _ from r]; exact .str x
  | .tup xs, p, v, r, h => by
    simp only [D.py, Option.map_eq_some_iff] at h
    obtain ⟨ps, h, rfl⟩ := h
    obtain ⟨a, vs, rfl, h1, _, r⟩ := r.tup_sq
    exact .tup h1.sq (Reps.dp xs ps vs r h)
  | .lst xs, p, v, r, h => by
    simp only [D.py, Option.map_eq_some_iff] at h
    obtain ⟨ps, h, rfl⟩ := h
    obtain ⟨a, vs, rfl, h1, _, r⟩ := r.lst_sq
    exact .lst (.of h1) (Reps.dp xs ps vs r h)
  | .dct t ks vs, p, v, r, h => by simp [D.py] at h
  | .obj c ns vs, p, v, r, h => by simp [D.py] at h
  | .fz vs, p, v, r, h => by simp [D.py] at h
theorem Reps.dp : ∀ (ds : List D) (ps : List PyData) (vs : List V), Reps K U H ds vs → D.py.pys ds = some ps → DpAll K H vs ps
  | [], ps, vs, r, h => by simp [D.py.pys] at h; subst h; rw [show vs = _ from r]; exact .nil
  | d :: ds, ps, vs, r, h => by
    obtain ⟨x, t, rfl, r1, r2⟩ := r
    simp only [D.py.pys, Option.bind_eq_some_iff, Option.map_eq_some_iff] at h
    obtain ⟨p, h1, qs, h2, rfl⟩ := h
    exact .cons (Rep.dp d p x r1 h1) (Reps.dp ds qs t r2 h2)
end
end
end Mi

set_option Elab.async false
set_option linter.all false
set_option maxRecDepth 100000
set_option maxHeartbeats 4000000
/-! Mi8: truth, and, or, conditions, displays, subscripts, slices, in -/
namespace Mi
open PySem PySem.Spec L2
variable [Tb]
/-! ### truth -/
section
variable {K : PySem.W.Frag} {U : Addr → Prop} {H : Hp}
theorem Reps.empty {ds : List D} {xs : List V} (r : Reps K U H ds xs) : xs.isEmpty = ds.isEmpty := by
  cases ds with
  | nil => have e : xs = [] := r; subst e; rfl
  | cons d ds => obtain ⟨x, t, rfl, _⟩ := r; rfl
end
section
variable {X : Cx} {W : WX} {a b c e : Expr} {rest : List Expr} {m n o : En → Rs D} {tm tn : En → Rs Bool} {pos : Pos}
end
/-! ### displays -/
section
variable {X : Cx} {W : WX} {es : List Expr} {ma : En → Rs (List D)} {n k : Nat} {pos : Pos}
end
/-! ### subscripts -/
section
variable {X : Cx} {K : PySem.W.Frag}
theorem Reps.atI {U : Addr → Prop} {H : Hp} {ds : List D} {xs : List V} {i : Int} {d : D} (r : Reps K U H ds xs) (h : atI ds i = some d) : ∃ v, L2.atI xs i = some v ∧ Rep K U H d v := by
  unfold L2.atI at h ⊢
  rw [r.len]
  obtain ⟨j, h1, h2⟩ := Option.bind_eq_some_iff.mp h
  obtain ⟨v, h3, h4⟩ := r.get h2
  exact ⟨v, by rw [h1]; exact h3, h4⟩
variable {W : WX} {a b : Expr} {m n : En → Rs D} {pos : Pos} {k : Nat}
/-! ### slices -/
/-! ### in -/
end
end Mi

set_option Elab.async false
set_option linter.all false
set_option maxRecDepth 100000
set_option maxHeartbeats 4000000
/-! Mi9: statements -/
namespace Mi
open PySem PySem.Spec L2
variable [Tb]
section
variable {K : PySem.W.Frag} {W : WX} {U : Addr → Prop} {env : En} {σ : St} {H : Hp}
/-- a slot takes a value -/
theorem Ste.set {i : Nat} {d : D} {v : V} (sa : SA K U env σ H) (hi : i < env.length) (nio : ∀ o, env[i]? ≠ some (.io o)) (r : Rep K (Ux U env σ) H d v) : Ste K U env σ H (env.set i (.v d)) (σ.set i (some v)) H := by
  have his : i < σ.length := by rw [← sa.len]; exact hi
  have old : ∀ {j : Nat} {s : Sl} {p : Ob}, (env.set i (.v d))[j]? = some s → s.ob = some p → env[j]? = some s ∧ j ≠ i := fun {j s p} h1 h2 => by
    by_cases e : i = j
    · subst e
      rw [List.getElem?_set_self hi] at h1
      cases h1
      cases h2
    · rw [List.getElem?_set_ne e] at h1
      exact ⟨h1, fun z => e z.symm⟩
  have oldS : ∀ {j : Nat}, j ≠ i → (σ.set i (some v))[j]? = σ[j]? := fun {j} n => List.getElem?_set_ne (Ne.symm n)
  have ch : ∀ x, Chg (env.set i (.v d)) (σ.set i (some v)) x → Chg env σ x := fun x ⟨j, s, p, h1, h2, h3⟩ => by
    obtain ⟨h4, n⟩ := old h1 h2
    rw [oldS n] at h3
    exact ⟨j, s, p, h4, h2, h3⟩
  have sub : ∀ x, Ux U (env.set i (.v d)) (σ.set i (some v)) x → Ux U env σ x := fun x q => q.imp id (ch x)
  refine ⟨⟨by rw [List.length_set, List.length_set]; exact sa.len, sa.tb, sa.alN, fun x c => sa.nu x (ch x c), fun j k s t p q x h1 h2 h3 h4 h5 h6 => ?_, fun j e h1 => ?_, fun j s p h1 h2 => ?_⟩, .refl, fun x c => .inl (ch x c), fun j p h1 => ?_⟩
  · obtain ⟨e1, n1⟩ := old h1 h2
    obtain ⟨e2, n2⟩ := old h3 h4
    rw [oldS n1] at h5
    rw [oldS n2] at h6
    exact sa.inj j k s t p q x e1 h2 e2 h4 h5 h6
  · by_cases e : i = j
    · subst e
      rw [List.getElem?_set_self hi] at h1
      cases h1
      exact ⟨v, List.getElem?_set_self his, Rep.to (fun _ _ _ q => q) (fun x o n _ q => n (sub x q)) _ v r⟩
    · rw [List.getElem?_set_ne e] at h1
      obtain ⟨w, e1, r'⟩ := sa.val j _ h1
      exact ⟨w, by rw [oldS (Ne.symm e)]; exact e1, Rep.to (fun _ _ _ q => q) (fun x o n _ q => n (sub x q)) _ w r'⟩
  · obtain ⟨e1, n1⟩ := old h1 h2
    obtain ⟨b, e2, r'⟩ := sa.ob j s p e1 h2
    exact ⟨b, by rw [oldS n1]; exact e2, RepO.to (fun _ _ _ q => q) (fun x o n _ q => n (sub x q)) (fun _ q => q) r'⟩
  · have n : j ≠ i := fun e => by subst e; exact nio p h1
    exact ⟨p, by rw [List.getElem?_set_ne (Ne.symm n)]; exact h1, oldS n⟩
/-- one address more that is not to be touched -/
def Up (U : Addr → Prop) (p : Addr) : Addr → Prop := fun a => U a ∨ a = p
theorem ux_up {p a : Addr} : Ux (Up U p) env σ a ↔ Ux U env σ a ∨ a = p := by
  unfold Ux Up
  constructor
  · rintro ((h | h) | h)
    · exact .inl (.inl h)
    · exact .inr h
    · exact .inl (.inr h)
  · rintro ((h | h) | h)
    · exact .inl (.inl h)
    · exact .inr h
    · exact .inl (.inr h)
/-- an expression that makes a new object which nothing else holds: it stands at p -/
structure Fre (K : PySem.W.Frag) (U : Addr → Prop) (env : En) (σ : St) (H : Hp) (env' : En) (H' : Hp) (o : Ob) (p : Addr) : Prop where
  nw : Chg env σ p ∨ NoN H p
  nu : ¬ U p
  sa : SA K (Up U p) env' σ H'
  gr : Gr (Chg env σ) H H'
  fr : ∀ a, Chg env' σ a → Chg env σ a ∨ NoN H a
  io : ∀ (i : Nat) (o : Ob), env[i]? = some (.io o) → ∃ o' : Ob, env'[i]? = some (.io o')
  ob : RepO K (Ux (Up U p) env' σ) H' o p
/-- .. and a name holds it -/
theorem Fre.own {env' : En} {H' : Hp} {o : Ob} {p : Addr} {i : Nat} (sa : SA K U env σ H) (f : Fre K U env σ H env' H' o p) (hi : i < env'.length) (nio : ∀ o, env'[i]? ≠ some (.io o)) :
    Ste K U env σ H (env'.set i (.ow o)) (σ.set i (some (.ref p))) H' := by
  have his : i < σ.length := by rw [← f.sa.len]; exact hi
  have np : ¬ U p := f.nu
  have get : ∀ {j : Nat} {s : Sl}, (env'.set i (.ow o))[j]? = some s → (j = i ∧ s = .ow o) ∨ (j ≠ i ∧ env'[j]? = some s) := fun {j s} h => by
    by_cases e : i = j
    · subst e
      rw [List.getElem?_set_self hi] at h
      cases h
      exact .inl ⟨rfl, rfl⟩
    · rw [List.getElem?_set_ne e] at h
      exact .inr ⟨Ne.symm e, h⟩
  have oldS : ∀ {j : Nat}, j ≠ i → (σ.set i (some (V.ref p)))[j]? = σ[j]? := fun {j} n => List.getElem?_set_ne (Ne.symm n)
  have newS : (σ.set i (some (V.ref p)))[i]? = some (some (V.ref p)) := List.getElem?_set_self his
  have ch : ∀ x, Chg (env'.set i (.ow o)) (σ.set i (some (.ref p))) x → Chg env' σ x ∨ x = p := fun x ⟨j, s, q, h1, h2, h3⟩ => by
    rcases get h1 with ⟨rfl, rfl⟩ | ⟨n, h4⟩
    · rw [newS] at h3
      cases h3
      exact .inr rfl
    · rw [oldS n] at h3
      exact .inl ⟨j, s, q, h4, h2, h3⟩
  have sub : ∀ x, Ux U (env'.set i (.ow o)) (σ.set i (some (.ref p))) x → Ux (Up U p) env' σ x := fun x h => ux_up.mpr (h.elim (fun h => .inl (.inl h)) fun c => (ch x c).imp .inr id)
  have ne : ∀ {x}, Chg env' σ x → x ≠ p := fun c e => f.sa.nu _ c (.inr e)
  refine ⟨⟨by rw [List.length_set, List.length_set]; exact f.sa.len, f.sa.tb, fun a h => f.sa.alN a (.inl h), fun a c h => ?_, fun j k s t p1 p2 x h1 h2 h3 h4 h5 h6 => ?_, fun j d h => ?_, fun j s q h1 h2 => ?_⟩, f.gr, fun x c => ?_, fun j q h => ?_⟩
  · rcases ch a c with c | rfl
    · exact f.sa.nu a c (.inl h)
    · exact np h
  · rcases get h1 with ⟨rfl, rfl⟩ | ⟨n1, h1⟩
    · rw [newS] at h5
      cases h5
      rcases get h3 with ⟨e, _⟩ | ⟨n2, h3⟩
      · exact e.symm
      · rw [oldS n2] at h6
        exact absurd rfl (ne ⟨k, t, p2, h3, h4, h6⟩)
    · rw [oldS n1] at h5
      have cj : Chg env' σ x := ⟨j, s, p1, h1, h2, h5⟩
      rcases get h3 with ⟨rfl, rfl⟩ | ⟨n2, h3⟩
      · rw [newS] at h6
        cases h6
        exact absurd rfl (ne cj)
      · rw [oldS n2] at h6
        exact f.sa.inj j k s t p1 p2 x h1 h2 h3 h4 h5 h6
  · rcases get h with ⟨_, e⟩ | ⟨n, h⟩
    · cases e
    · obtain ⟨v, e, r⟩ := f.sa.val j d h
      exact ⟨v, by rw [oldS n]; exact e, Rep.to (fun _ _ _ q => q) (fun x o n _ q => n (sub x q)) _ v r⟩
  · rcases get h1 with ⟨rfl, rfl⟩ | ⟨n, h1⟩
    · cases h2
      exact ⟨p, newS, RepO.to (fun _ _ _ q => q) (fun x o n _ q => n (sub x q)) (fun _ q => q) f.ob⟩
    · obtain ⟨a, e, r⟩ := f.sa.ob j s q h1 h2
      exact ⟨a, by rw [oldS n]; exact e, RepO.to (fun _ _ _ q => q) (fun x o n _ q => n (sub x q)) (fun _ q => q) r⟩
  · rcases ch x c with c | rfl
    · exact f.fr x c
    · exact f.nw
  · obtain ⟨q', e⟩ := f.io j q h
    have n : j ≠ i := fun z => by subst z; exact nio q' e
    exact ⟨q', by rw [List.getElem?_set_ne (Ne.symm n)]; exact e, oldS n⟩
end
/-! ### targets -/
section
variable {X : Cx} {e : Expr} {es : List Expr} {is js : List Nat} {mg : D → En → Option En} {ms : List D → En → Option En} {n k : Nat} {pos : Pos}
end
/-! ### assignments, expressions, if, return -/
section
variable {X : Cx} {W : WX} {tg e c : Expr} {a b : List Stmt} {st : Stmt} {mg : D → En → Option En} {m : En → Rs D} {t : En → Rs Bool} {ms ns : En → Rs Fl} {pos : Pos}
end
end Mi

set_option Elab.async false
set_option linter.all false
set_option maxRecDepth 100000
set_option maxHeartbeats 4000000
/-! Mi10: loops; objects of one's own -/
namespace Mi
open PySem PySem.Spec L2
variable [Tb]
/-! ### what is walked -/
def AlO (U : Addr → Prop) (H : Hp) : Prop := ∀ a, U a → ∃ o, OH H a o
structure ItOk (K : PySem.W.Frag) (U : Addr → Prop) (H : Hp) (ds : List D) (J : It) : Prop where
  stop : ∀ i H2, ds.length ≤ i → (∀ a o, ¬ U a → HN H a o → HN H2 a o) → i = ds.length → J.stop i H2
  go : ∀ i H2, i < ds.length → (∀ a o, ¬ U a → HN H a o → HN H2 a o) → J.go i H2
  yld : ∀ i d H2 H3 x (U' : Addr → Prop), ds[i]? = some d → (∀ a o, ¬ U a → HN H a o → HN H2 a o) → (∀ a o, ¬ U a → HN H a o → ¬ U' a) → AlO U' H2 → J.yld i H2 x H3 → Same H2 H3 ∧ Rep K U' H3 d x
def iterD : D → Option (List D)
  | .lst ds => some ds
  | .tup ds => some ds
  | .str z => some (z.cps.toList.map fun c => .str ⟨#[c]⟩)
  | _ => none
section
variable {K : PySem.W.Frag} {U : Addr → Prop} {H : Hp} {ds : List D} {xs : List V} {a : Addr}
end
section
variable {X : Cx} {W : WX} {tg e a b : Expr} {es : List Expr} {m n : En → Rs D} {pos p : Pos}
end
/-! ### for -/
section
variable {X : Cx} {W : WX} {tg iter : Expr} {body : List Stmt} {mi : En → Rs (List D)} {is : List Nat} {mg : D → En → Option En} {mb : En → Rs Fl} {pos : Pos}
end
/-! ### while -/
end Mi

set_option Elab.async false
set_option linter.all false
set_option maxRecDepth 100000
set_option maxHeartbeats 4000000
/-! Mi11: reading what names hold by themselves; new objects; lists made by comprehensions -/
namespace Mi
open PySem PySem.Spec L2
variable [Tb]
/-! ### reading without taking -/
def p1 (g : D → Option D) (m : En → Option D) : En → Option D := fun env => (m env).bind g
def p2 (g : D → D → Option D) (m n : En → Option D) : En → Option D := fun env => (m env).bind fun d => (n env).bind fun e => g d e
section
variable {X : Cx} {W : WX} {e a b : Expr} {es : List Expr} {mp m n : En → Option D} {ms : En → Option (List D)} {pos : Pos} {k : Nat}
end
/-! ### new objects -/
section
variable {K : PySem.W.Frag} {U : Addr → Prop} {env env1 : En} {σ : St} {H H1 : Hp}
end
section
variable {X : Cx} {W : WX} {e : Expr} {es : List Expr} {mo : En → Rs Ob} {ma : En → Rs (List D)} {n k : Nat} {pos : Pos}
end
end Mi

set_option Elab.async false
set_option linter.all false
set_option maxRecDepth 100000
set_option maxHeartbeats 4000000
/-! Mi12: what a name holds by itself is changed -/
namespace Mi
open PySem PySem.Spec L2
variable [Tb]
section
variable {K : PySem.W.Frag} {W : WX} {U : Addr → Prop} {env : En} {σ : St} {H : Hp}
end
section
variable {X : Cx} {W : WX} {e : Expr} {i : Nat} {ma : En → Rs (List D)} {g : Ob → List D → Option (D × Ob)} {r : V → List V → Hp → VK → Prop}
end
section
variable {K : PySem.W.Frag}
theorem Reps.set {U : Addr → Prop} {H : Hp} {d : D} {v : V} (rv : Rep K U H d v) : ∀ {ds : List D} {xs : List V} (n : Nat), Reps K U H ds xs → Reps K U H (ds.set n d) (xs.set n v)
  | [], _, n, h => by rw [show _ = _ from h]; rfl
  | _ :: _, _, 0, ⟨x, r, e, h1, h2⟩ => ⟨v, r, by rw [e]; rfl, rv, h2⟩
  | _ :: _, _, n + 1, ⟨x, r, e, h1, h2⟩ => ⟨x, r.set n v, by rw [e]; rfl, h1, Reps.set rv n h2⟩
/-! ### stores -/
end
section
variable {X : Cx} {W : WX} {st : Stmt} {o ki : Expr} {i : Nat} {g : Ob → D → D → Option Ob} {t : TSet} {m mk : En → Rs D}
end
end Mi

set_option Elab.async false
set_option linter.all false
set_option maxRecDepth 100000
set_option maxHeartbeats 4000000
/-! Mi13: lists by comprehension -/
namespace Mi
open PySem PySem.Spec L2
variable [Tb]
section
variable {K : PySem.W.Frag} {U : Addr → Prop} {env : En} {σ : St} {H : Hp}
/-- in the loop: D the new list -/
structure LcI (K : PySem.W.Frag) (U : Addr → Prop) (env : En) (σ : St) (H : Hp) (p : Addr) (e : En) (σ' : St) (H' : Hp) (acc : List D) : Prop where
  sa : SA K (Up U p) e σ' H'
  gr : Gr (Chg env σ) H H'
  fr : ∀ a, Chg e σ' a → Chg env σ a ∨ NoN H a
  io : ∀ (i : Nat) (o : Ob), env[i]? = some (.io o) → ∃ o' : Ob, e[i]? = some (.io o') ∧ σ'[i]? = σ[i]?
  ob : ∃ xs, H' p = some (.lst xs) ∧ Reps K (Ux (Up U p) e σ') H' acc xs
  nw : H p = none
variable {p : Addr} {e e2 : En} {σ' σ2 : St} {H' H2 : Hp} {acc : List D}
end
/-! ### the loop's mirror -/
/-- no exception within -/
abbrev W0 : WX := fun _ _ _ _ => False
section
variable {X : Cx} {W : WX} {elt tg iter tg1 iter1 : Expr} {ifs ifs1 : List Expr} {scope : Scope} {own : List (Str × Nat)} {vs1 : List Nat} {pos : Pos} {mi mi1 : En → Rs (List D)} {is is1 : List Nat} {mg mg1 : D → En → Option En} {mt mt1 : En → Rs Bool} {me : En → Rs D}
section
variable {i : Nat} {y : Str} {py spos : Pos}
end
end
end Mi

set_option Elab.async false
set_option linter.all false
set_option maxRecDepth 100000
set_option maxHeartbeats 4000000
/-! Mi14: comprehensions of two clauses -/
namespace Mi
open PySem PySem.Spec L2
variable [Tb]
section
/-- in the second clause's loop, from its start at H4 -/
structure LcJ (U : Addr → Prop) (e4 : En) (σ4 : St) (H4 : Hp) (e : En) (τ : St) (H' : Hp) : Prop where
  gr : ∀ a o, ¬ Ux U e4 σ4 a → HN H4 a o → HN H' a o
  fr : ∀ a, Chg e τ a → Chg e4 σ4 a ∨ NoN H4 a
variable {K : PySem.W.Frag} {U : Addr → Prop} {e4 e e2 : En} {σ4 τ τ2 : St} {H4 H' H2 : Hp}
end
section
variable {X : Cx} {W : WX} {elt tg iter tg1 iter1 : Expr} {ifs ifs1 : List Expr} {scope : Scope} {own : List (Str × Nat)} {vs1 : List Nat} {pos : Pos} {mi mi1 : En → Rs (List D)} {is is1 : List Nat} {mg mg1 : D → En → Option En} {mt mt1 : En → Rs Bool} {me : En → Rs D}
section
variable {i : Nat} {y : Str} {py spos : Pos}
end
end
end Mi

set_option Elab.async false
set_option linter.all false
set_option maxRecDepth 100000
set_option maxHeartbeats 4000000
/-! Mi15: the built-in functions on trees -/
namespace Mi
open PySem PySem.Spec L2
variable [Tb]
section
variable {K : PySem.W.Frag} {U : Addr → Prop} {H : Hp}
theorem Reps.one {d : D} {xs : List V} (r : Reps K U H [d] xs) : ∃ x, xs = [x] ∧ Rep K U H d x := by
  obtain ⟨x, t, e, r, e'⟩ := r
  exact ⟨x, by rw [e, show t = _ from e'], r⟩
/-! ### len -/
/-! ### int, str, abs, max, min -/
/-! ### all, any, sum, of lists -/
/-! ### tuple, list -/
end
/-! ### isinstance -/
section
variable {X : Cx} {W : WX} {a c : Expr} {m : En → Rs D} {f : D → Option Bool} {T : String} {p pos : Pos}
end
end Mi

set_option Elab.async false
set_option linter.all false
set_option maxRecDepth 100000
set_option maxHeartbeats 4000000
/-! Mi16: zip and enumerate over lists, tuples and texts -/
namespace Mi
open PySem PySem.Spec L2
variable [Tb]
/-- a list, a tuple, a text -/
inductive Sc where
  | lst (a : Addr) | tup (a : Addr) | txt (x : Str) (t : Tok)
def Sc.ad : Sc → Addr → Prop
  | .lst a, b => b = a
  | .tup a, b => b = a
  | .txt _ _, _ => False
def Sc.val : Sc → Value
  | .lst a => .ref a
  | .tup a => .ref a
  | .txt x t => .str x t
def Sc.obj : Sc → Obj
  | .lst a => { cls := .type "list_iterator", data := .fields #[.ref a, .int 0 0] }
  | .tup a => { cls := .type "tuple_iterator", data := .fields #[.ref a, .int 0 0] }
  | .txt x t => { cls := .type (strIterType x), data := .fields #[.str x t, .int 0 0] }
def Sc.tn (it : Addr) (i : Nat) (h : Heap) : Sc → Prop
  | .lst a => h.IsListIter it a i
  | .tup a => h.IsTupleIter it a i
  | .txt x t => h.IsStrIter it (strIterType x) x t i
/-- what an iterator over it gives, in a state -/
structure ScD (P : Program) (w : World) (A : Around) (c : Sc) (it : Addr) (xs : List V) (fp : List Addr) (n : Nat) (Pv : Nat → Value → Prop) (St : Nat → Heap → Prop) (h : Heap) : Prop where
  dr : Draws P w A it fp n Pv St
  hn : n = xs.length
  hv : ∀ i v, Pv i v → ∃ x, xs[i]? = some x ∧ RelV x v
  into : ∀ i, c.tn it i h → St i h
  out : ∀ i h', St i h' → c.tn it i h'
  mem : it ∈ fp
  few : ∀ b ∈ fp, b = it ∨ c.ad b
section
variable {X : Cx} {pins : List (Addr × Obj)} {σ : St} {H : Hp} {s : Shared} {c : Sc} {it : Addr} {xs : List V}
end
/-! ### zip -/
structure ZAp (z TI TO i1 i2 : Addr) (c d : Sc) : Prop where
  nd : [z, TI, TO, i1, i2].Nodup
  ap : ∀ b, c.ad b ∨ d.ad b → b ∉ [z, TI, TO, i1, i2]
theorem ZAp.sep {z TI TO i1 i2 : Addr} {c d : Sc} (a : ZAp z TI TO i1 i2 c d) {fp1 fp2 : List Addr} (m1 : i1 ∈ fp1) (m2 : i2 ∈ fp2) (f1 : ∀ b ∈ fp1, b = i1 ∨ c.ad b) (f2 : ∀ b ∈ fp2, b = i2 ∨ d.ad b) : ZipSep2 z TI TO i1 i2 fp1 fp2 := by
  have nd := a.nd
  simp only [List.nodup_cons, List.mem_cons, List.mem_nil_iff, or_false, not_or] at nd
  obtain ⟨⟨a1, a2, a3, a4⟩, ⟨b1, b2, b3⟩, ⟨c1, c2⟩, d1, _⟩ := nd
  have no1 : ∀ {b}, b ∈ [z, TI, TO, i2] → b ∉ fp1 := fun {b} hb hm => by
    rcases f1 b hm with e | e
    · subst e
      simp only [List.mem_cons, List.mem_nil_iff, or_false] at hb
      rcases hb with q | q | q | q
      · exact a3 q.symm
      · exact b2 q.symm
      · exact c1 q.symm
      · exact d1 q
    · refine a.ap b (.inl e) ?_
      simp only [List.mem_cons, List.mem_nil_iff, or_false] at hb ⊢
      rcases hb with q | q | q | q <;> simp [q]
  have no2 : ∀ {b}, b ∈ [z, TI, TO, i1] → b ∉ fp2 := fun {b} hb hm => by
    rcases f2 b hm with e | e
    · subst e
      simp only [List.mem_cons, List.mem_nil_iff, or_false] at hb
      rcases hb with q | q | q | q
      · exact a4 q.symm
      · exact b3 q.symm
      · exact c2 q.symm
      · exact d1 q.symm
    · refine a.ap b (.inr e) ?_
      simp only [List.mem_cons, List.mem_nil_iff, or_false] at hb ⊢
      rcases hb with q | q | q | q <;> simp [q]
  exact ⟨Ne.symm a1, Ne.symm a2, b1, b2, m1, no1 (by simp), no1 (by simp), b3, m2, no2 (by simp), no2 (by simp), no2 (by simp), no1 (by simp)⟩
end Mi

set_option Elab.async false
set_option linter.all false
set_option maxRecDepth 100000
set_option maxHeartbeats 4000000
/-! Mi17: enumerate; the rules of both -/
namespace Mi
open PySem PySem.Spec L2
variable [Tb]
def Sc.is (x : V) : Sc → Prop
  | .lst a => x = .ref a
  | .tup a => x = .ref a
  | .txt z _ => x = .str z
section
variable {X : Cx} {W : WX} {e e2 : Expr} {ta : TA} {p pos tpos : Pos} {elts : List Expr} {kk : Nat}
end
/-! ### their mirrors -/
def zipD (a b : List D) : List D := (a.zip b).map fun p => .tup [p.1, p.2]
section
variable {K : PySem.W.Frag} {U : Addr → Prop} {H : Hp}
end
section
variable {X : Cx} {W : WX} {e e2 : Expr} {ma : En → Rs (List D)} {p pos tpos : Pos} {elts : List Expr} {kk : Nat}
end
end Mi

set_option Elab.async false
set_option linter.all false
set_option maxRecDepth 100000
set_option maxHeartbeats 4000000
/-! Mi18: repr; calls by keywords; defs that return what they made -/
namespace Mi
open PySem PySem.Spec L2
variable [Tb]
/-! ### repr -/
/-! ### f(k = e, ..): keywords alone -/
def pick {α : Type} (pm : List Nat) (xs : List α) : List α := pm.filterMap fun j => xs[j]?
def KB (K : PySem.W.Frag) (fd : FuncData) (ps ks : List Str) (pm : List Nat) : Prop := ∀ (s : Shared) (us : List Value), us.length = ks.length → BindsTo s fd ⟨[], ks.zip us⟩ (ps.zip (pick pm us))
/-- keywords' values -/
structure EvK (X : Cx) (W : WX) (kws : List Keyword) (n : Nat) (m : En → Rs (List Ar)) : Prop where
  pk : PK X kws (tR X.K W m)
  len : ∀ env ds e, m env = .ok ds e → ds.length = n
section
variable {X : Cx} {W : WX} {e : Expr} {kws : List Keyword} {m : En → Rs D} {mq : En → Rs (List Ar)} {n : Nat} {nm : Option Str} {kpos : Pos}
end
section
variable {K : PySem.W.Frag} {U : Addr → Prop} {σ : St} {H : Hp}
theorem RAr.pick {as : List Ar} {vs : List V} (h : RAr K U σ H as vs) : ∀ pm : List Nat, RAr K U σ H (Mi.pick pm as) (Mi.pick pm vs)
  | [] => rfl
  | j :: pm => by
    have ih := RAr.pick h pm
    unfold Mi.pick at ih ⊢
    rw [List.filterMap_cons, List.filterMap_cons]
    cases ha : as[j]? with
    | none =>
      have : vs[j]? = none := by
        rw [List.getElem?_eq_none_iff] at ha ⊢
        rw [h.len]
        exact ha
      rw [this]
      exact ih
    | some a =>
      obtain ⟨v, hv, q⟩ := h.at j a ha
      rw [hv]
      cases a with
      | inl d => exact ⟨v, _, rfl, q, ih⟩
      | inr i => exact ⟨v, _, rfl, q, ih⟩
end
section
variable {X : Cx} {W : WX} {k n : Nat} {f : Addr} {fd : FuncData} {ps ks : List Str} {pm : List Nat} {sp : Sp} {x : Str} {p pos : Pos} {kws : List Keyword} {m : En → Rs D} {mq : En → Rs (List Ar)} {tk : TA}
end
end Mi

set_option Elab.async false
set_option linter.all false
set_option maxRecDepth 100000
set_option maxHeartbeats 4000000
/-! Mi19: defs that return what they made; facts of defs -/
namespace Mi
open PySem PySem.Spec L2
variable [Tb]
section
variable {K : PySem.W.Frag} {U : Addr → Prop} {env env1 : En} {σ : St} {H H1 : Hp}
/-- a name gives its object away -/
theorem Fre.take {i : Nat} {o : Ob} {p : Addr} (sa : SA K U env σ H) (h : env[i]? = some (.ow o)) (hp : σ[i]? = some (some (V.ref p))) : Fre K U env σ H (env.set i .un) H o p := by
  have hi : i < env.length := (List.getElem?_eq_some_iff.mp h).1
  have old : ∀ {j : Nat} {s : Sl} , (env.set i Sl.un)[j]? = some s → s ≠ .un → env[j]? = some s ∧ j ≠ i := fun {j s} h1 h2 => by
    by_cases e : i = j
    · subst e
      rw [List.getElem?_set_self hi] at h1
      cases h1
      exact absurd rfl h2
    · rw [List.getElem?_set_ne e] at h1
      exact ⟨h1, fun z => e z.symm⟩
  have nun : ∀ {s : Sl} {q : Ob}, s.ob = some q → s ≠ .un := fun {s q} h e => by subst e; cases h
  have cp : Chg env σ p := ⟨i, _, o, h, rfl, hp⟩
  have ch : ∀ x, Chg (env.set i .un) σ x → Chg env σ x ∧ x ≠ p := fun x ⟨j, s, q, h1, h2, h3⟩ => by
    obtain ⟨h4, n⟩ := old h1 (nun h2)
    exact ⟨⟨j, s, q, h4, h2, h3⟩, fun e => n (sa.inj j i s _ q o p h4 h2 h rfl (by rw [← e]; exact h3) hp)⟩
  have sub : ∀ x, Ux (Up U p) (env.set i .un) σ x → Ux U env σ x := fun x q => by
    rcases ux_up.mp q with (q | q) | q
    · exact .inl q
    · exact .inr (ch x q).1
    · rw [q]; exact .inr cp
  refine ⟨.inl cp, sa.nu p cp, ⟨by rw [List.length_set]; exact sa.len, sa.tb, fun a q => ?_, fun a c q => ?_, fun j k s t q r x h1 h2 h3 h4 h5 h6 => ?_, fun j d h1 => ?_, fun j s q h1 h2 => ?_⟩, .refl, fun a c => .inl (ch a c).1, fun j q h1 => ?_, ?_⟩
  · rcases q with q | q
    · exact sa.alN a q
    · rw [q]; exact sa.alxN (.inr cp)
  · exact q.elim (sa.nu a (ch a c).1) (ch a c).2
  · exact sa.inj j k s t q r x (old h1 (nun h2)).1 h2 (old h3 (nun h4)).1 h4 h5 h6
  · obtain ⟨v, e, r⟩ := sa.val j d (old h1 fun z => nomatch z).1
    exact ⟨v, e, Rep.to (fun _ _ _ q => q) (fun x o n _ q => n (sub x q)) d v r⟩
  · obtain ⟨b, e, r⟩ := sa.ob j s q (old h1 (nun h2)).1 h2
    exact ⟨b, e, RepO.to (fun _ _ _ q => q) (fun x o n _ q => n (sub x q)) (fun _ q => q) r⟩
  · have n : i ≠ j := fun e => by subst e; rw [h] at h1; cases h1
    exact ⟨q, by rw [List.getElem?_set_ne n]; exact h1⟩
  · obtain ⟨b, e, r⟩ := sa.ob i _ o h rfl
    rw [hp] at e
    cases e
    exact RepO.to (fun _ _ _ q => q) (fun x o n _ q => n (sub x q)) (fun _ q => q) r
end
/-! ### a def that returns a new object; its arguments are values -/
section
variable {X : Cx} {W : WX} {st : Stmt} {rest : List Stmt} {m : En → Rs Fl} {n : En → Rs Ob} {e : Expr} {pos : Pos}
end
section
variable {K : PySem.W.Frag} {U : Addr → Prop} {σ : St} {H : Hp} {ds : List D} {vs : List V}
end
section
variable {X : Cx} {W : WX} {k n : Nat} {f : Addr} {fd : FuncData} {ps : List Str} {x : Str} {p pos : Pos} {e : Expr} {es : List Expr} {m : List D → Rs Ob} {ma : En → Rs (List D)}
end
/-! ### facts of defs -/
theorem Fun.kb {K : PySem.W.Frag} {x qual : Str} {st : Stmt} {f : Addr} {fd : FuncData} {ps ks : List Str} {pm : List Nat} (F : Fun K x qual st f fd)
    (h : ∀ (kV doc pmm : Value) (an : Option Addr) (cdv ct : Value) (us : List Value), us.length = ks.length → bindArgs (PySem.W.fnOf x qual (defArgs st) (defBody st) (defScope st) .none kV doc pmm an cdv ct) ⟨[], ks.zip us⟩ = pure (ps.zip (pick pm us))) : KB K fd ps ks pm := by
  obtain ⟨oc, od, kV, doc, pmm, an, cdv, ct, osl, rfl, lk, hcd⟩ := F.ex
  exact fun s us hl => .of_eq (h kV doc pmm an cdv ct us hl)
end Mi

set_option Elab.async false
set_option linter.all false
set_option maxRecDepth 100000
set_option maxHeartbeats 4000000
/-! Mi20: a law's end -/
namespace Mi
open PySem PySem.Spec L2
/-- no tables -/
@[reducible] def tb0 : Tb := ⟨[], none⟩
open PyProof.Rows (IntsAre AllBare)
section
variable {K : PySem.W.Frag} {a b : Addr} {o : Obj} {xs : List V} {u : HO}
end
end Mi

set_option Elab.async false
set_option linter.all false
set_option maxRecDepth 100000
set_option maxHeartbeats 4000000
/-! Mi21: calls in short; a new object handed to a def -/
namespace Mi
open PySem PySem.Spec L2
variable [Tb]
section
variable {X : Cx} {W : WX} {k : Nat} {x : Str} {id T : String} {p pos : Pos} {e : Expr} {es : List Expr} {g : List D → Option D} {r : List V → Hp → VK → Prop} {ma : En → Rs (List D)} {ms : En → Option (List D)}
end
section
variable {K : PySem.W.Frag} {U : Addr → Prop} {env e1 : En} {σ : St} {H H1 : Hp} {o : Ob} {p : Addr}
end
section
variable {X : Cx} {W : WX} {k : Nat} {f : Addr} {fd : FuncData} {ps : List Str} {x : Str} {p pos : Pos} {e : Expr} {m : En → Rs D} {mo : En → Rs Ob}
end
end Mi

set_option Elab.async false
set_option linter.all false
set_option maxRecDepth 100000
set_option maxHeartbeats 4000000
/-! Mi22: objects: made, asked, their attributes -/
namespace Mi
open PySem PySem.Spec L2
variable [Tb]
section
variable {K : PySem.W.Frag} {U : Addr → Prop} {env e1 : En} {σ : St} {H H1 : Hp} {o : Ob} {p : Addr} {ds : List D} {vs : List V}
end
/-! ### C(..) -/
section
variable {X : Cx} {W : WX} {k : Nat} {C f : Addr} {fd : FuncData} {ps : List Str} {sp : Sp}
end
section
variable {X : Cx} {W : WX} {k n : Nat} {c x : Str} {f : Addr} {fd : FuncData} {ps : List Str} {p pos : Pos} {e : Expr} {es : List Expr} {m : En → Rs D} {ma : En → Rs (List D)}
end
end Mi

set_option Elab.async false
set_option linter.all false
set_option maxRecDepth 100000
set_option maxHeartbeats 4000000
/-! Mi23: attributes and methods -/
namespace Mi
open PySem PySem.Spec L2
variable [Tb]
/-! ### reading an attribute -/
section
variable {K : PySem.W.Frag} {U : Addr → Prop} {H : Hp}
end
section
variable {X : Cx} {W : WX} {e : Expr} {c f : Str} {m : En → Rs D} {mp : En → Option D} {pos : Pos} {i : Nat}
end
/-! ### storing -/
section
variable {K : PySem.W.Frag} {U : Addr → Prop} {H : Hp}
end
section
variable {X : Cx} {W : WX} {o value : Expr} {c f : Str} {m : En → Rs D} {pos pos' : Pos} {i : Nat}
end
end Mi

set_option Elab.async false
set_option linter.all false
set_option maxRecDepth 100000
set_option maxHeartbeats 4000000
/-! Mi24: methods -/
namespace Mi
open PySem PySem.Spec L2
variable [Tb]
section
variable {X : Cx} {W : WX} {k : Nat} {C f : Addr} {fd : FuncData} {ps : List Str} {sp : Sp} {nm : Str} {o e : Expr} {es : List Expr} {apos pos : Pos} {ta : TE} {t : TA}
end
section
variable {X : Cx} {W : WX} {k n i : Nat} {c nm : Str} {f : Addr} {fd : FuncData} {ps : List Str} {o e : Expr} {es : List Expr} {apos pos : Pos} {m mo : En → Rs D} {ma : En → Rs (List D)} {mq : En → Rs (List Ar)}
end
end Mi

set_option Elab.async false
set_option linter.all false
set_option maxRecDepth 100000
set_option maxHeartbeats 4000000
/-! Mi25: methods of texts; sum; divmod -/
namespace Mi
open PySem PySem.Spec L2
variable [Tb]
section
variable {X : Cx} {W : WX} {n : Nat} {o e : Expr} {es : List Expr} {mo : En → Rs D} {ma : En → Rs (List D)} {g : D → List D → Option D} {r : V → List V → Hp → VK → Prop} {name : Str} {apos cpos : Pos} {id : String}
end
section
variable {K : PySem.W.Frag}
/-! ### divmod, sum of a list -/
end
end Mi

set_option Elab.async false
set_option linter.all false
set_option maxRecDepth 100000
set_option maxHeartbeats 4000000
/-! Mi26: sorted of tuples of which some are empty -/
namespace Mi
open PySem PySem.Calls PySem.SeqAt PySem.W PyProof.Rows
variable [Tb]
section
variable {prog : Program} {w : World} {A : Around} {s : Shared}
end
end Mi

set_option Elab.async false
set_option linter.all false
set_option maxRecDepth 100000
set_option maxHeartbeats 4000000
/-! Mi27: sorted -/
namespace Mi
open PySem PySem.Spec PySem.Calls PySem.W PyProof.Rows L2
variable [Tb]
mutual
def encD : D → PyData
  | .bl b => .bool b
  | .int i => .int i
  | .str x => .str x
  | .tup ds => .tuple (encDs ds)
  | .lst ds => .list (encDs ds)
  | _ => .none
def encDs : List D → List PyData
  | [] => []
  | d :: ds => encD d :: encDs ds
end
mutual
def plD : D → Bool
  | .bl _ => true
  | .int _ => true
  | .str _ => true
  | .tup ds => plDs ds
  | .lst ds => plDs ds
  | _ => false
def plDs : List D → Bool
  | [] => true
  | d :: ds => plD d && plDs ds
end
def isTp : D → Bool
  | .tup _ => true
  | _ => false
/-- it can be sorted -/
def sortOk (ds : List D) : Bool := plDs ds && (ds.all fun a => ds.all fun b => alike (encD a) (encD b)) && (ds.all isTp || ds.all fun a => !isTp a) && ds.all fun a => decide ((encD a).depth ≤ 8)
def leD (a b : D) : Bool := dataLe false encD a b
def gSort : List D → Option D
  | [.lst ds] => if sortOk ds then some (.lst (ds.mergeSort leD)) else none
  | [.tup ds] => if sortOk ds then some (.lst (ds.mergeSort leD)) else none
  | _ => none
section
variable {K : PySem.W.Frag} {U : Addr → Prop} {H : Hp}
end
section
variable {X : Cx} {pins : List (Addr × Obj)} {σ : L2.St} {H : Hp} {s : Shared} {U : Addr → Prop}
end
end Mi

set_option Elab.async false
set_option linter.all false
set_option maxRecDepth 100000
set_option maxHeartbeats 4000000
/-! Mi28: sorted, of lists and tuples -/
namespace Mi
open PySem PySem.Spec PySem.Calls PySem.W PyProof.Rows L2
variable [Tb]
section
variable {prog : Program} {w : World} {A : Around} {E : Value → Shared → Prop} {s : Shared}
end
section
variable {X : Cx}
end
end Mi

set_option Elab.async false
set_option linter.all false
set_option maxRecDepth 100000
set_option maxHeartbeats 4000000
/-! Mi29: sum of lists and tuples -/
namespace Mi
open PySem PySem.Spec PySem.Calls PySem.W PyProof.Rows L2
variable [Tb]
section
variable {prog : Program} {w : World} {A : Around} {E : Value → Shared → Prop} {s : Shared}
end
end Mi

set_option Elab.async false
set_option linter.all false
set_option maxRecDepth 100000
set_option maxHeartbeats 4000000
/-! Mi30: properties -/
namespace Mi
open PySem PySem.Spec PyProof.Rows L2
variable [Tb]
section
variable {X : Cx} {W : WX} {k : Nat} {C p g a dx : Addr} {fs : List (Str × V)} {f : Str} {fd : FuncData} {ps : List Str} {sp : Sp} {e : Expr} {pos : Pos} {ta : TE}
end
def callV0 (m : En → Rs D) (ds : List D) (e : En) : Rs D := match m (ds.map Sl.v) with
  | .ok d _ => .ok d e
  | _ => .bad
section
variable {X : Cx} {W : WX} {k i : Nat} {c f : Str} {p g : Addr} {fd : FuncData} {ps : List Str} {o : Expr} {pos : Pos} {m mo : En → Rs D}
end
end Mi

set_option Elab.async false
set_option linter.all false
set_option maxRecDepth 100000
set_option maxHeartbeats 4000000
/-! Mi31: a hook that tells of properties, and of any further Bool -/
namespace Mi
open PySem PySem.Spec PyProof.Rows L2 He
variable [Tb]
/-- a def that stands at an address told by the fragment -/
structure AtD where
  at_ : PySem.W.Frag → Addr
  d : DefD
def fnWA (K : PySem.W.Frag) (a : Addr) : FnW := match K.lookup a with
  | some ⟨_, _, .func fd, _⟩ => some (fd.name, fd.qualname, fd.params, fd.body, fd.scope, fd.globals, fd.closure, fd.builtins)
  | _ => none
def AtD.ok (K : PySem.W.Frag) (p : AtD) : Bool := PySem.W.keepIn K (.ref (p.at_ K)) && (match K.lookup (p.at_ K) with
  | some ⟨_, _, .func fd, _⟩ => PySem.W.codeIn K fd.code p.d.qual && (dflB K fd.defaults (p.d.dvs K) && kwdB K fd.kwdefaults (p.d.kws K))
  | _ => false)
theorem AtD.funD {K : PySem.W.Frag} {p : AtD} (e : fnWA K (p.at_ K) = p.d.val) (c : p.ok K = true) : ∃ fd, FunD K p.d.name p.d.qual p.d.params p.d.body p.d.scope (p.d.dvs K) (p.d.kws K) (p.at_ K) fd := by
  obtain ⟨at_, d⟩ := p
  obtain ⟨kp, c2⟩ := ba c
  unfold fnWA at e
  dsimp only at e c2 kp ⊢
  cases q : K.lookup (at_ K) with
  | none =>
    rw [q] at c2
    cases c2
  | some o =>
    obtain ⟨oc, od, dt, osl⟩ := o
    rw [q] at c2 e
    cases dt with
    | func fd =>
      obtain ⟨n1, n2, n3, n4, n5, n6, n7, n8, n9, n10, n11, n12, n13, n14, n15⟩ := fd
      have e2 : (some (n1, n2, n3, n4, n5, n6, n7, n15) : FnW) = some (d.name, d.qual, d.params, .stmts d.body, d.scope, mainGlobals, [], builtinsNs) := e
      simp only [Option.some.injEq, Prod.mk.injEq] at e2
      obtain ⟨h1, h2, h3, h4, h5, h6, h7, h8⟩ := e2
      subst h1 h2 h3 h4 h5 h6 h7 h8
      have c3 : (PySem.W.codeIn K n13 d.qual && (dflB K n8 (d.dvs K) && kwdB K n9 (d.kws K))) = true := c2
      obtain ⟨k1, k2⟩ := ba c3
      obtain ⟨k3, k4⟩ := ba k2
      exact ⟨_, ⟨oc, od, n8, n9, n10, n11, n12, n13, n14, osl, rfl, q, k1, dflB_ok k3, kwdB_ok k4⟩, kp⟩
    | _ => cases c2
/-! ### the hook -/
abbrev AlP : Type := AlD × Bool × List FnW
def obsP (fa : List Fa) (fn : List DefD) (ps : List AtD) (ex : PySem.W.Frag → Bool) (K : PySem.W.Frag) : AlP := (obsD fa fn K, (ps.all fun p => p.ok K) && ex K, ps.map fun p => fnWA K (p.at_ K))
def valP (fn : List DefD) (ps : List AtD) : AlP := (valD fn, true, ps.map fun p => p.d.val)
structure SaysP (fa : List Fa) (fn : List DefD) (ps : List AtD) (ex : PySem.W.Frag → Bool) (K : PySem.W.Frag) : Prop where
  eq : obsP fa fn ps ex K = valP fn ps
section
variable {fa : List Fa} {fn : List DefD} {ps : List AtD} {ex : PySem.W.Frag → Bool} {K : PySem.W.Frag}
theorem SaysP.d (c : SaysP fa fn ps ex K) : SaysD fa fn K := congrArg (fun z : AlP => z.1) c.eq
theorem SaysP.at_ (c : SaysP fa fn ps ex K) (i : Nat) {p : AtD} (h : ps[i]? = some p := by rfl) : ∃ fd, FunD K p.d.name p.d.qual p.d.params p.d.body p.d.scope (p.d.dvs K) (p.d.kws K) (p.at_ K) fd := by
  have c2 := (ba (congrArg (fun z : AlP => z.2.1) c.eq)).1
  have e : (ps.map fun p => fnWA K (p.at_ K)) = ps.map fun p => p.d.val := congrArg (fun z : AlP => z.2.2) c.eq
  have e2 : (ps.map fun p => fnWA K (p.at_ K))[i]? = (ps.map fun p => p.d.val)[i]? := by rw [e]
  rw [List.getElem?_map, List.getElem?_map, h] at e2
  exact AtD.funD (Option.some.inj e2) (List.all_eq_true.mp c2 p (List.mem_of_getElem? h))
end
end Mi

set_option Elab.async false
set_option linter.all false
set_option maxRecDepth 100000
set_option maxHeartbeats 4000000
/-! Mi32: dict(zip(a, b)), over lists, tuples and texts -/
namespace Mi
open PySem PySem.Spec PyProof.Rows L2
variable [Tb]
section
variable {prog : Program} {w : World} {A : Around} {E : Value → Shared → Prop} {s : Shared} {z TI TO T i1 i2 : Addr} {f : Bool} {oT : Obj} {fp1 fp2 : List Addr} {n1 n2 i : Nat} {P1 P2 : Nat → Value → Prop} {St1 St2 : Nat → Heap → Prop}
end
end Mi

set_option Elab.async false
set_option linter.all false
set_option maxRecDepth 100000
set_option maxHeartbeats 4000000
/-! Mi33: dict(zip(a, b)) in the layer -/
namespace Mi
open PySem PySem.Spec PyProof.Rows L2
variable [Tb]
section
variable {X : Cx} {pins : List (Addr × Obj)} {σ : L2.St} {H : Hp} {s : Shared}
end
end Mi

set_option Elab.async false
set_option linter.all false
set_option maxRecDepth 100000
set_option maxHeartbeats 4000000
/-! Mi34: dicts made by dict(..); targets in tuples; isinstance with own classes -/
namespace Mi
open PySem PySem.Spec L2
variable [Tb]
/-! ### new objects made by calls -/
section
variable {X : Cx} {W : WX} {e : Expr} {es : List Expr} {ma : En → Rs (List D)} {k : Nat} {pos : Pos}
end
/-! ### pairs -/
section
variable {K : PySem.W.Frag} {U : Addr → Prop} {H : Hp}
end
/-! ### dict(zip(a, b)) -/
section
variable {X : Cx} {W : WX} {e e2 : Expr} {ma : En → Rs (List D)} {p p2 pos pos2 : Pos}
end
/-! ### dict(l), l a list of pairs or a dict -/
/-! ### a[k], .. = .. -/
/-! ### own classes: what isinstance asks -/
def tyNames : List String := ["NoneType", "bool", "int", "str", "tuple", "list", "dict"]
def insB (K : PySem.W.Frag) (c : Str) : Bool := (He.Fa.cls c).ok K && (He.eqO (PySem.W.findIn K (.ref (He.ga K c)) "__class__") (some (some (.builtin "object.__class__"))) &&
  (He.eqO (PySem.W.specialIn K (.builtin "object.__class__") "__get__") (some (some (.builtin "getset_descriptor.__get__"))) && (decide (PySem.W.takesIn K (.builtin "object.__class__") = some true) && decide (PySem.W.mroIn K (He.ga K c) (.type "object") = some true))))
def kitsB (K : PySem.W.Frag) (cs : List Str) : Bool := cs.all fun c => insB K c && (tyNames.all fun T => decide (PySem.W.kitOne K (.type T) (.ref (He.ga K c)) = some false) && decide (PySem.W.kitOne K (.ref (He.ga K c)) (.type T) = some false)) &&
  cs.all fun d => decide (PySem.W.kitOne K (.ref (He.ga K c)) (.ref (He.ga K d)) = some (decide (c = d)))
structure Kits (K : PySem.W.Frag) (cs : List Str) : Prop where
  b : kitsB K cs = true
section
variable {K : PySem.W.Frag} {cs : List Str} {U : Addr → Prop} {H : Hp}
theorem Kits.all (k : Kits K cs) {c : Str} (h : c ∈ cs) : insB K c = true ∧ (∀ T ∈ tyNames, PySem.W.kitOne K (.type T) (.ref (He.ga K c)) = some false ∧ PySem.W.kitOne K (.ref (He.ga K c)) (.type T) = some false) ∧
    ∀ d ∈ cs, PySem.W.kitOne K (.ref (He.ga K c)) (.ref (He.ga K d)) = some (decide (c = d)) := by
  have z := List.all_eq_true.mp (show (cs.all fun c => insB K c && (tyNames.all fun T => decide (PySem.W.kitOne K (.type T) (.ref (He.ga K c)) = some false) && decide (PySem.W.kitOne K (.ref (He.ga K c)) (.type T) = some false)) &&
    cs.all fun d => decide (PySem.W.kitOne K (.ref (He.ga K c)) (.ref (He.ga K d)) = some (decide (c = d)))) = true from k.b) c h
  simp only [Bool.and_eq_true, List.all_eq_true, decide_eq_true_eq] at z
  exact ⟨z.1.1, z.1.2, z.2⟩
theorem Kits.ty (k : Kits K cs) {c : Str} (h : c ∈ cs) {a dx : Addr} {fs : List (Str × V)} (e : H a = some (.ins (He.ga K c) dx fs)) : TyX K H (.ref a) (.ref (He.ga K c)) := by
  have z := (k.all h).1
  unfold insB at z
  obtain ⟨z1, z⟩ := He.ba z
  obtain ⟨z2, z⟩ := He.ba z
  obtain ⟨z3, z⟩ := He.ba z
  obtain ⟨z4, z5⟩ := He.ba z
  exact .base (.ins e (He.cls_ok z1) (He.eqO_ok z2) (He.eqO_ok z3) (of_decide_eq_true z4) (of_decide_eq_true z5))
end
section
variable {X : Cx} {W : WX} {a c : Expr} {m : En → Rs D} {pos p : Pos} {cs : List Str} {T : String} {f : D → Option Bool} {cn : Str}
end
end Mi

set_option Elab.async false
set_option linter.all false
set_option maxRecDepth 100000
set_option maxHeartbeats 4000000
/-! Mi35: a, b = .. with new objects; sorted of a dict -/
namespace Mi
open PySem PySem.Spec PyProof.Rows L2
variable [Tb]
section
variable {K : PySem.W.Frag} {U : Addr → Prop} {env e1 e2 : En} {σ : L2.St} {H H1 H2 : Hp} {o : Ob} {p : Addr}
/-- a slot for a new object -/
def ownAt (i : Nat) (o : Ob) (e : En) : Option En := match e[i]? with
  | some (.io _) => none
  | some _ => some (e.set i (.ow o))
  | none => none
end
theorem set_comm {α : Type} {l : List α} {i j : Nat} {a b : α} (h : i ≠ j) : (l.set i a).set j b = (l.set j b).set i a := List.set_comm _ _ h
section
variable {X : Cx} {W : WX} {st : Stmt} {x1 x2 : Expr} {i j : Nat} {m : En → Rs D} {n n2 : En → Rs Ob}
end
/-! ### sorted(d) -/
def strKs : List Ky → Option (List Str)
  | [] => some []
  | .str x :: r => (strKs r).map fun t => x :: t
  | _ => none
def gSortX : List D → Option D
  | [.dct false ks vs] => (strKs ks).bind fun t => if t.length < 64 ∧ sortedS t = true then some (.lst (t.map .str)) else none
  | ds => gSort ds
end Mi

set_option Elab.async false
set_option linter.all false
set_option maxRecDepth 100000
set_option maxHeartbeats 4000000
/-! Mi36: objects made, methods called, by keywords -/
namespace Mi
open PySem PySem.Spec L2
variable [Tb]
structure EvKN (X : Cx) (W : WX) (kws : List Keyword) (n : Nat) (m : En → Rs (List D)) : Prop where
  pk : PK X kws (tA X.K W m)
  len : ∀ env ds e, m env = .ok ds e → ds.length = n
section
variable {X : Cx} {W : WX} {e : Expr} {kws : List Keyword} {m : En → Rs D} {mq : En → Rs (List D)} {n : Nat} {nm : Option Str} {kpos : Pos}
end
section
variable {K : PySem.W.Frag} {U : Addr → Prop} {H : Hp}
end
/-! ### C(k = e, ..) -/
section
variable {X : Cx} {W : WX} {k n : Nat} {C f : Addr} {fd : FuncData} {ps ks : List Str} {pm : List Nat} {sp : Sp}
end
section
variable {X : Cx} {W : WX} {k n : Nat} {c x : Str} {f : Addr} {fd : FuncData} {ps ks : List Str} {pm : List Nat} {p pos : Pos} {kws : List Keyword} {m : En → Rs D} {ma : En → Rs (List D)}
end
/-! ### o.nm(k = e, ..) -/
section
variable {X : Cx} {W : WX} {k : Nat} {C f : Addr} {fd : FuncData} {ps ks : List Str} {pm : List Nat} {sp : Sp} {nm : Str} {o : Expr} {kws : List Keyword} {apos pos : Pos} {ta : TE} {t : TA}
end
section
variable {X : Cx} {W : WX} {k n : Nat} {c nm : Str} {f : Addr} {fd : FuncData} {ps ks : List Str} {pm : List Nat} {o : Expr} {kws : List Keyword} {apos pos : Pos} {m mo : En → Rs D} {ma : En → Rs (List D)}
end
end Mi

set_option Elab.async false
set_option linter.all false
set_option maxRecDepth 100000
set_option maxHeartbeats 4000000
/-! Mi37: divmod by wide divisors -/
namespace Mi
open PySem PySem.Spec L2
variable [Tb]
end Mi

set_option Elab.async false
set_option linter.all false
set_option maxRecDepth 100000
set_option maxHeartbeats 4000000
/-! Mi38: defs that return a new object and change what they are handed -/
namespace Mi
open PySem PySem.Spec L2
variable [Tb]
section
variable {K : PySem.W.Frag} {U : Addr → Prop} {args env' : En} {σ0 σ' : St} {H H' : Hp} {n : Nat} {p : Addr}
end
section
variable {K : PySem.W.Frag} {U U' : Addr → Prop} {env : En} {σ : St} {H : Hp} {as : List Ar} {vs : List V}
end
/-! ### the promise of such a def -/
section
variable {X : Cx} {W : WX} {k n : Nat} {f : Addr} {fd : FuncData} {ps : List Str} {x : Str} {p pos : Pos} {e : Expr} {es : List Expr} {m : En → Rs Ob} {mq : En → Rs (List Ar)}
end
end Mi

set_option Elab.async false
set_option linter.all false
set_option maxRecDepth 100000
set_option maxHeartbeats 4000000
/-! Mi39: the larger and the smaller of two texts; of a list of ints -/
namespace Mi
open PySem PySem.Spec L2
variable [Tb]
section
variable {prog : Program} {w : World} {A : Around} {E : Value → Shared → Prop} {s : Shared}
end
/-! two ints or two texts -/
/-! of a list, of a tuple -/
section
variable {prog : Program} {w : World} {A : Around} {E : Value → Shared → Prop} {s : Shared}
open PyProof.Rows PyProof.V PySem.W
end
end Mi

set_option Elab.async false
set_option linter.all false
set_option maxRecDepth 100000
set_option maxHeartbeats 4000000
/-! Mi40: a target a[x], x a name -/
namespace Mi
open PySem PySem.Spec L2
variable [Tb]
end Mi

set_option Elab.async false
set_option linter.all false
set_option maxRecDepth 100000
set_option maxHeartbeats 4000000
/-! Mi41: len(o), o of an own class with __len__ -/
namespace Mi
open PySem PySem.Spec PyProof.Rows L2
variable [Tb]
section
variable {X : Cx} {W : WX} {k : Nat} {C g : Addr} {fd : FuncData} {ps : List Str} {sp : Sp}
end
section
variable {X : Cx} {W : WX} {k n : Nat} {c x : Str} {g : Addr} {fd : FuncData} {ps : List Str} {e : Expr} {p pos : Pos} {m : En → Rs D} {ma : En → Rs (List D)}
end
end Mi

set_option Elab.async false
set_option linter.all false
set_option maxRecDepth 100000
set_option maxHeartbeats 4000000
/-! Mi42: a comprehension over the keys of a dict: the dict is locked meanwhile -/
namespace Mi
open PySem PySem.Spec L2
variable [Tb]
structure Lk (d : Addr) (kvs : List (Key × V)) (H H' : Hp) : Prop where
  ne : ∀ a, a ≠ d → H' a = H a
  a : Rd H d (.dK kvs)
  b : Rd H' d (.dK kvs)
section
variable {K : PySem.W.Frag} {U : Addr → Prop} {d : Addr} {kvs : List (Key × V)} {H H' : Hp}
theorem Lk.away (l : Lk d kvs H H') {a : Addr} {u : HO} (h : H a = some u) (n1 : u ≠ .dK kvs) (n2 : ∀ o, u ≠ .frz o (.dK kvs)) : a ≠ d := fun e => by
  subst e
  rcases l.a with q | ⟨o, q⟩
  · rw [h] at q; cases q; exact n1 rfl
  · rw [h] at q; cases q; exact n2 o rfl
theorem Lk.to (l : Lk d kvs H H') {a : Addr} {u : HO} (h : H a = some u) (n1 : u ≠ .dK kvs) (n2 : ∀ o, u ≠ .frz o (.dK kvs)) : H' a = some u := by
  rw [l.ne a (l.away h n1 n2)]; exact h
end
/-! ### the keys -/
def keysD : D → Option (List D)
  | .dct false ks _ => (strKs ks).map fun l => l.map .str
  | _ => none
section
variable {X : Cx} {W : WX} {elt tg : Expr} {ifs : List Expr} {scope : Scope} {own : List (Str × Nat)} {pos p : Pos} {x : Str} {j : Nat} {is : List Nat} {mg : D → En → Option En} {mt : En → Rs Bool} {me : En → Rs D}
end
end Mi

set_option Elab.async false
set_option linter.all false
set_option maxRecDepth 100000
set_option maxHeartbeats 4000000
/-! Mi43: for over the keys of a dict: the dict is locked meanwhile -/
namespace Mi
open PySem PySem.Spec L2
variable [Tb]
section
variable {K : PySem.W.Frag} {W : WX} {U : Addr → Prop} {d : Addr} {kvs : List (Key × V)} {H H' : Hp}
end
section
variable {X : Cx} {W : WX} {tg : Expr} {body : List Stmt} {mi : En → Rs (List D)} {is : List Nat} {mg : D → En → Option En} {mb : En → Rs Fl} {pos p : Pos} {x : Str} {j : Nat}
end
end Mi

set_option Elab.async false
set_option linter.all false
set_option maxRecDepth 100000
set_option maxHeartbeats 4000000
/-! Mi44: dict comprehensions of one clause, by keys of any kind -/
namespace Mi
open PySem PySem.Spec PyProof.Rows L2
variable [Tb]
section
variable {X : Cx} {kx vx tg iter : Expr} {ifs : List Expr} {scope : Scope} {own : List (Str × Nat)} {pos : Pos} {wi : TI} {g : TG} {tt : TT} {tk tv : TE}
end

/-! ### the mirror -/
section
variable {K : PySem.W.Frag} {U : Addr → Prop} {env : En} {σ : L2.St} {H : Hp}
/-- a new object at p is being filled -/
structure NwI (K : PySem.W.Frag) (U : Addr → Prop) (env : En) (σ : L2.St) (H : Hp) (p : Addr) (e : En) (σ' : L2.St) (H' : Hp) (o : Ob) : Prop where
  sa : SA K (Up U p) e σ' H'
  gr : Gr (Chg env σ) H H'
  fr : ∀ a, Chg e σ' a → Chg env σ a ∨ NoN H a
  io : ∀ (i : Nat) (u : Ob), env[i]? = some (.io u) → ∃ o' : Ob, e[i]? = some (.io o') ∧ σ'[i]? = σ[i]?
  ob : RepO K (Ux (Up U p) e σ') H' o p
  nw : H p = none
variable {p : Addr} {e e2 : En} {σ' σ2 : L2.St} {H' H2 : Hp} {o : Ob}
end
section
variable {X : Cx} {W : WX} {kx vx tg iter : Expr} {ifs : List Expr} {scope : Scope} {own : List (Str × Nat)} {pos : Pos} {mi : En → Rs (List D)} {is : List Nat} {mg : D → En → Option En} {mt : En → Rs Bool} {mk mv : En → Rs D}
end
end Mi

set_option Elab.async false
set_option linter.all false
set_option maxRecDepth 100000
set_option maxHeartbeats 4000000
/-! Mi45: f-strings; d.get(k, x) -/
namespace Mi
open PySem PySem.Spec PyProof.Rows L2
variable [Tb]
section
variable {X : Cx} {W : WX} {e v1 v2 : Expr} {es : List Expr} {m : En → Rs D} {pos : Pos}
/-! ### several parts -/
def RS : (Addr → Prop) → L2.St → Hp → Str → Str → Prop := fun _ _ _ a b => b = a
structure EvJ (X : Cx) (W : WX) (es : List Expr) (mj : Str → En → Rs Str) : Prop where
  ex : ∃ ts, PJ X es ts ∧ ∀ (acc : Str) (U : Addr → Prop) (env : En) (σ : L2.St) (H : Hp) (Q : Str → Hp → Prop), SA X.K U env σ H → Po RS X.K W U env σ H (mj acc env) Q → tJs ts acc σ H Q
/-! ### d.get(k, x) -/
section
variable {o f : Expr} {apos cpos : Pos} {md mk mz : En → Rs D} {k : Nat}
end
end
end Mi

set_option Elab.async false
set_option linter.all false
set_option maxRecDepth 100000
set_option maxHeartbeats 4000000
/-! Mi46: a list turned about, xs[::-1] -/
namespace Mi
open PySem PySem.Spec PyProof.Rows L2
variable [Tb]
section
variable {X : Cx} {W : WX} {a st : Expr} {m : En → Rs D} {ms : En → Rs (Option Int)} {te : TE} {ts : TO} {pos p2 : Pos}
end
end Mi

set_option Elab.async false
set_option linter.all false
set_option maxRecDepth 100000
set_option maxHeartbeats 4000000
/-! Mi47: list(d): the keys of a dict of texts -/
namespace Mi
open PySem PySem.Spec PyProof.Rows L2
variable [Tb]
end Mi

set_option Elab.async false
set_option linter.all false
set_option maxRecDepth 100000
set_option maxHeartbeats 4000000
/-! Mi48: list(x), sorted(x), x an own list -/
namespace Mi
open PySem PySem.Spec PyProof.Rows L2
variable [Tb]
def ownL : Option Sl → Option (List D)
  | some (.io (.lst ds)) => some ds
  | some (.ow (.lst ds)) => some ds
  | _ => none
def xNO (g : List D → Option D) (i : Nat) : En → Rs D := fun env => match ownL env[i]? with
  | some ds => .of (g [.lst ds]) env
  | none => .bad
section
variable {X : Cx} {W : WX} {i : Nat} {x : Str} {id T : String} {p pos : Pos} {e a : Expr} {g : List D → Option D} {r : List V → Hp → VK → Prop}
end
/-! ### for the plain side -/
@[simp] theorem ev_xNO (g : List D → Option D) (i : Nat) (env : En) : xNO g i env = (match ownL env[i]? with
  | some ds => .of (g [.lst ds]) env
  | none => .bad) := id rfl
end Mi

set_option Elab.async false
set_option linter.all false
set_option maxRecDepth 100000
set_option maxHeartbeats 4000000
/-! Mi49: a global tuple of texts behind in; a dict display of texts -/
namespace Mi
open PySem PySem.Spec PyProof.Rows L2
variable [Tb]
/-! ### x in WORDS -/
section
variable {X : Cx} {W : WX} {a b : Expr} {m : En → Rs D} {pos : Pos} {x : Str} {l : List Str}
/-! ### {"a": "b", ..} -/
end
end Mi

set_option Elab.async false
set_option linter.all false
set_option maxRecDepth 100000
set_option maxHeartbeats 4000000
/-! Mi50: x is True, x is not False, x a truth -/
namespace Mi
open PySem PySem.Spec PyProof.Rows L2
variable [Tb]
section
variable {X : Cx} {K : PySem.W.Frag}
end
end Mi

set_option Elab.async false
set_option linter.all false
set_option maxRecDepth 100000
set_option maxHeartbeats 4000000
/-! Mi51: len of a new dict -/
namespace Mi
open PySem PySem.Spec PyProof.Rows L2
variable [Tb]
section
variable {X : Cx} {W : WX} {e : Expr} {p pos : Pos} {m : En → Rs Ob}
end
end Mi

set_option Elab.async false
set_option linter.all false
set_option maxRecDepth 100000
set_option maxHeartbeats 4000000
/-! Mi52: ==, !=, str and truth of an object of an own class -/
namespace Mi
section
open PySem PySem.Spec PyProof.Rows
variable [Tb]
section
variable {prog : Program} {w : World} {A : Around} {E : Value → Shared → Prop} {s : Shared}
end
end
open PySem PySem.Spec PyProof.Rows L2
variable [Tb]
section
variable {X : Cx} {k : Nat} {C g : Addr} {fd : FuncData} {ps : List Str} {sp : Sp}
end
/-! ### the mirrors -/
def eqArg (c : Str) : D → Bool
  | .obj c' _ _ => decide (c' = c)
  | .lst _ => true
  | .str _ => true
  | _ => false
def isB (neg : Bool) (z : D) (e : En) : Rs D := match z with
  | .bl b => .ok (.bl (if neg then !b else b)) e
  | _ => .bad
def eqO (neg : Bool) (c : Str) (m : En → Rs D) (d e : D) (env : En) : Rs D := match d with
  | .obj c' ns vs => if c' = c ∧ eqArg c e = true then (callV0 m [.obj c' ns vs, e] env).bind (isB neg) else .bad
  | _ => .bad
section
variable {X : Cx} {W : WX} {k n : Nat} {c x : Str} {g : Addr} {fd : FuncData} {ps : List Str} {a b e : Expr} {p pos : Pos} {m ma mb : En → Rs D} {mn : En → Rs (List D)} {op : CmpOp} {neg : Bool}
end
end Mi

set_option Elab.async false
set_option linter.all false
set_option maxRecDepth 100000
set_option maxHeartbeats 4000000
/-! Mi53: C.m(..), m a classmethod that makes an object -/
namespace Mi
open PySem PySem.Spec PyProof.Rows L2 He
variable [Tb]
/-! ### the facts -/
/-! ### the call -/
section
variable {X : Cx} {W : WX} {k : Nat} {C p g : Addr} {mc : Value} {fd : FuncData} {ps ks : List Str} {pm : List Nat} {sp : Sp} {nm : Str} {o e : Expr} {es : List Expr} {kws : List Keyword} {apos pos : Pos} {ta : TE} {t : TA}
end
/-! ### the rules -/
section
variable {X : Cx} {W : WX} {k n : Nat} {C p g : Addr} {mc : Value} {fd : FuncData} {ps ks : List Str} {pm : List Nat} {nm : Str} {o e : Expr} {es : List Expr} {kws : List Keyword} {apos pos : Pos} {m : En → Rs D} {ma : En → Rs (List D)}
end
end Mi

set_option Elab.async false
set_option linter.all false
set_option maxRecDepth 100000
set_option maxHeartbeats 4000000
/-! Mi54: a classmethod: p = e; if t: raise; return cls(..) -/
namespace Mi
open PySem PySem.Spec PyProof.Rows L2
variable [Tb]
section
variable {K : PySem.W.Frag} {U : Addr → Prop} {H H' : Hp} {d : D} {v : V} {C : Addr} {σ : L2.St} {env : En}
end
section
variable {X : Cx} {W : WX} {C : Addr} {m1 mr : En → Rs D} {mt : En → Rs Bool} {s1 s2 s3 : Stmt}
end
/-! ### cls(..) -/
section
variable {X : Cx} {W : WX} {k n : Nat} {c x : Str} {f : Addr} {fd : FuncData} {ps : List Str} {p pos : Pos} {e : Expr} {es : List Expr} {m : En → Rs D} {ma : En → Rs (List D)}
end
end Mi

set_option Elab.async false
set_option linter.all false
set_option maxRecDepth 100000
set_option maxHeartbeats 4000000
/-! Mi55: the hook with the statics in sight -/
namespace Mi
open PySem PySem.Spec PyProof.Rows L2 He
variable [Tb]
end Mi

set_option Elab.async false
set_option linter.all false
set_option maxRecDepth 100000
set_option maxHeartbeats 4000000
/-! Mi56: x in l for values of any depth; t[::k] of a tuple, k 1 or -1 -/
namespace Mi
open PySem PySem.Spec PyProof.Rows L2
variable [Tb]
section
variable {X : Cx}
end
section
variable {K : PySem.W.Frag}
end
/-! ### t[::k] -/
section
variable {prog : Program} {w : World} {A : Around} {E : Value → Shared → Prop} {s : Shared}
end
section
variable {X : Cx} {W : WX} {a st : Expr} {m : En → Rs D} {ms : En → Rs (Option Int)} {te : TE} {ts : TO} {pos p2 : Pos}
end
end Mi

set_option Elab.async false
set_option linter.all false
set_option maxRecDepth 100000
set_option maxHeartbeats 4000000
/-! Mi57: the index -1 of an own list, as a target -/
namespace Mi
open PySem PySem.Spec PyProof.Rows L2
variable [Tb]
end Mi

set_option Elab.async false
set_option linter.all false
set_option maxRecDepth 100000
set_option maxHeartbeats 4000000
/-! Mi58: the place of a name in a tuple of names -/
namespace Mi
open PySem PySem.Spec PyProof.Rows L2
variable [Tb]
section
variable {X : Cx} {W : WX}
end
end Mi

set_option Elab.async false
set_option linter.all false
set_option maxRecDepth 100000
set_option maxHeartbeats 4000000
/-! Mi59: raise -/
namespace Mi
open PySem PySem.Spec PyProof.Rows L2
variable [Tb]
/-- what an exception's class over ValueError says that is made by an __init__ of its own with the field f -/
def xiB (K : PySem.W.Frag) (c f : Str) : Bool :=
  (match K.lookup (He.ga K c) with
    | some ⟨.type "type", _, .cls cd, sl⟩ => (match cd.mro, sl.toList with
      | .ref C' :: bm, [_, _, _, _, some (.builtin n), _] => C' == He.ga K c && n == "ValueError.__new__" && !cd.hasDel && cd.hasDict && HandSPX.refsVE bm
      | _, _ => false)
    | _ => false) && (He.eqO (PySem.W.findIn K (.ref (He.ga K c)) "__setattr__") (some (some (.builtin "object.__setattr__"))) && (decide (PySem.W.subIn K (.ref (He.ga K c)) (.type "BaseException") = some true) &&
      (decide (PySem.W.typeIn K (.ref (He.ga K c)) = some (.type "type")) && (PySem.W.keepIn K (.ref (He.ga K c)) && (He.eqO (PySem.W.findIn K (.ref (He.ga K c)) f) (some none) &&
        (He.eqO (PySem.W.findIn K (.ref (He.ga K c)) "__init__") (some (some (.ref (He.ma K (He.ga K c) "__init__")))) && decide (PySem.W.typeIn K (.ref (He.ma K (He.ga K c) "__init__")) = some (.type "function"))))))))
structure Xi (K : PySem.W.Frag) (c f : Str) : Prop where
  ox : OexC K (He.ga K c)
  no : PySem.W.findIn K (.ref (He.ga K c)) f = some none
  ini : PySem.W.findIn K (.ref (He.ga K c)) "__init__" = some (some (.ref (He.ma K (He.ga K c) "__init__")))
  ty : PySem.W.typeIn K (.ref (He.ma K (He.ga K c) "__init__")) = some (.type "function")
section
variable {X : Cx} {W : WX} {k : Nat} {c x fld self par : Str} {fd : FuncData} {e : Expr} {m : En → Rs D} {p pos pos2 : Pos}
end
section
variable {X : Cx} {W : WX} {c : Str} {p pos pos2 : Pos} {B newId initId : String} {bm : List Value}
end
end Mi

set_option Elab.async false
set_option linter.all false
set_option maxRecDepth 100000
set_option maxHeartbeats 4000000
/-! Mi60: an exception that is handled: its class, its fields; defs called meanwhile -/
namespace Mi
open PySem PySem.Spec PyProof.Rows L2
variable [Tb]
/-! ### the classes of the program's exceptions -/
def shapeL : List Str := ["InvalidMarks", "InvalidNumbers", "InvalidText", "InvalidRow", "InvalidRows", "InvalidLot", "NotRising", "InvalidTies", "InvalidNumber", "InvalidDeeds", "InvalidPromise", "InvalidIndex", "InvalidLine", "NotShares"]
def questL : List Str := ["UnknownMark", "NoShares", "OtherMarks", "Broken", "Busy", "NothingToUndo"]
def sizeL : List Str := ["TooMany"]
def supX (c : Str) : Str := if c ∈ shapeL then "ShapeError" else if c ∈ questL then "QuestionError" else if c ∈ sizeL then "SizeError" else c
def builtX (c : Str) : Str := if c = "ShapeError" then "ValueError" else if c = "QuestionError" then "LookupError" else if c = "SizeError" then "ArithmeticError" else c
/-- whether the class c is t or lies below t -/
def subX (c t : Str) : Bool := decide (c = t) || (decide (supX c = t) || decide (builtX (supX c) = t))
structure Xc (K : PySem.W.Frag) (cs fs ts : List Str) (bs : List String) : Prop where
  hn : PySem.W.specialIn K (.builtin "object.__class__") "__get__" = some (some (.builtin "getset_descriptor.__get__"))
  ht : PySem.W.takesIn K (.builtin "object.__class__") = some true
  xf : ∀ c ∈ cs, XfC K (He.ga K c)
  cl : ∀ c ∈ cs, PySem.W.findIn K (.ref (He.ga K c)) "__class__" = some (some (.builtin "object.__class__"))
  mr : ∀ c ∈ cs, PySem.W.mroIn K (He.ga K c) (.type "object") = some true
  no : ∀ c ∈ cs, ∀ f ∈ fs, PySem.W.findIn K (.ref (He.ga K c)) f = some none
  kt : ∀ c ∈ cs, ∀ t ∈ ts, PySem.W.kitOne K (.ref (He.ga K c)) (.ref (He.ga K t)) = some (subX c t)
  em : ∀ c ∈ cs, ∀ t ∈ ts, PySem.W.exmOne K (.ref (He.ga K c)) (.ref (He.ga K t)) = some (subX c t)
  kb : ∀ c ∈ cs, ∀ t ∈ bs, PySem.W.kitOne K (.ref (He.ga K c)) (.type t) = some (subX c (Str.ofString t))
/-! ### the context of a handled exception -/
def CxE (X : Cx) : Prop := ∃ (a : Addr) (cls : Value) (dd : Option Addr) (oe : Obj), Tb.E = some (a, cls, dd) ∧ (a, oe) ∈ X.pn ∧ Zc cls dd oe ∧ ∃ vs, oe.data = .fields vs
structure CoH (X : Cx) (k : Nat) : Prop where
  hr : L2H.RoomH k X.A
  hg : X.A.guards = some []
  hx : CxE X
/-! ### its fields, its class -/
section
variable {X : Cx} {W : WX} {cs fs ts : List Str} {bs : List String} {e c : Expr} {m : En → Rs D} {pos p : Pos} {n : Str}
end
/-! ### defs called while an exception is handled -/
structure FnX (P : Program) (w : World) (K : PySem.W.Frag) (mg : Str → Option Value) (base : Heap) (k : Nat) (f : Addr) (fd : FuncData) (ps : List Str) (sp : Sp) : Prop where
  len : ∀ vs H Q E, sp vs H Q E → vs.length = ps.length
  run : ∀ (A : Around) (outer : List PySem.Env) (s : Shared) (H : Hp) (args : Args) (us : List Value) (vs : List V) (Q : VK) (E : XK) (p : Addr × Obj), L2H.RoomH k A → A.guards = some [] → L2H.PinOk outer H s p →
    (∃ cls dd, Tb.E = some (p.1, cls, dd) ∧ Zc cls dd p.2 ∧ ∃ vs, p.2.data = .fields vs) → Env0 P w K mg base A outer s H → BindsTo s fd args (ps.zip us) → Vals vs us → sp vs H Q E →
    codeAny (model P w) A (.call (.ref f) args) (CR (L2.CX P w) outer P w H s Q E) s
section
variable {X : Cx} {W : WX} {k n : Nat} {f : Addr} {fd : FuncData} {ps : List Str} {sp : Sp} {x : Str} {p pos : Pos} {e : Expr} {es : List Expr} {m : En → Rs D} {mq : En → Rs (List Ar)}
end
end Mi

set_option Elab.async false
set_option linter.all false
set_option maxRecDepth 100000
set_option maxHeartbeats 4000000
/-! Mi61: try with clauses of any kind -/
namespace Mi
open PySem PySem.Spec PyProof.Rows L2
variable [Tb]
/-- a clause: the classes that it names, the slot of its name, its suite -/
structure Hd where
  cs : List Value
  slot : Option Nat
  ts : Addr → Value → Option Addr → L2.TS
/-- what stands behind except -/
inductive TstX (X : Cx) : Expr → List Value → Prop
  | one {x : Str} {c : Value} {p : Pos} (h : Names X x c) : TstX X (.Name x p) [c]
  | three {x y z : Str} {c d e : Value} {p q r pos : Pos} {j : Nat} (h1 : Names X x c) (h2 : Names X y d) (h3 : Names X z e) : TstX X (.Tuple [.Name x p, .Name y q, .Name z r] j pos) [c, d, e]
inductive HdsX (X : Cx) : List ExceptHandler → List Hd → Prop
  | nil : HdsX X [] []
  | cons {t : Expr} {cs : List Value} {ts : Addr → Value → Option Addr → L2.TS} {b₀ : Stmt} {suite : List Stmt} {pos' : Pos} {hds : List ExceptHandler} {l : List Hd} (ht : TstX X t cs)
      (hsu : ∀ (a : Addr) (oe : Obj) (cls : Value) (d : Option Addr) (pn : List (Addr × Obj)), Zc cls d oe → (∃ vs, oe.data = .fields vs) → PSs (X.suite a ((a, oe) :: pn)) (b₀ :: suite) (ts a cls d)) (r : HdsX X hds l) :
      HdsX X (.ExceptHandler (some t) none (b₀ :: suite) pos' :: hds) (⟨cs, none, ts⟩ :: l)
  | as {t : Expr} {cs : List Value} {ts : Addr → Value → Option Addr → L2.TS} {b₀ : Stmt} {suite : List Stmt} {pos' : Pos} {hds : List ExceptHandler} {l : List Hd} {n : Str} {i : Nat} (ht : TstX X t cs) (hi : X.N[i]? = some n) (hln : X.env.kindOf n = some .local)
      (hsu : ∀ (a : Addr) (oe : Obj) (cls : Value) (d : Option Addr) (pn : List (Addr × Obj)), Zc cls d oe → (∃ vs, oe.data = .fields vs) → PSs (X.suite a ((a, oe) :: pn)) (b₀ :: suite) (ts a cls d)) (r : HdsX X hds l) :
      HdsX X (.ExceptHandler (some t) (some n) (b₀ :: suite) pos' :: hds) (⟨cs, some i, ts⟩ :: l)
section
variable {X : Cx} {pins : List (Addr × Obj)} {σ : L2.St} {H : Hp}
end
section
variable {X : Cx} {body : List Stmt} {h₀ : ExceptHandler} {hds : List ExceptHandler} {l : List Hd} {pos : Pos} {tb : WX → L2.TS} {Wout : WX}
end
end Mi

set_option Elab.async false
set_option linter.all false
set_option maxRecDepth 100000
set_option maxHeartbeats 4000000
/-! Mi62: what holds whichever exception is handled; clauses' mirrors -/
namespace Mi
open PySem PySem.Spec PyProof.Rows L2
/-! ### no exception within -/
section
variable {t t2 : Tb} {K : PySem.W.Frag} {U : Addr → Prop} {H : Hp}
end
/-- while the exception at a is handled -/
@[reducible] def tbE (t : Tb) (a : Addr) (cls : Value) (d : Option Addr) : Tb := ⟨t.T, some (a, cls, d)⟩
variable [T0 : Tb]
/-! ### clauses -/
/-- a clause: the classes' names, the slot of its name, its suite's mirror -/
structure HM where
  ts : List Str
  slot : Option Nat
  m : En → Rs Fl
inductive TstN (X : Cx) : Expr → List Str → Prop
  | one {x : Str} {p : Pos} (hm : X.mg x = some (.ref (He.ga X.K x))) (hg : Gl X x) (hd : (x == ("__debug__" : Str)) = false) : TstN X (.Name x p) [x]
  | three {x y z : Str} {p q r pos : Pos} {j : Nat} (hm : X.mg x = some (.ref (He.ga X.K x))) (hg : Gl X x) (hd : (x == ("__debug__" : Str)) = false) (hm2 : X.mg y = some (.ref (He.ga X.K y))) (hg2 : Gl X y) (hd2 : (y == ("__debug__" : Str)) = false)
      (hm3 : X.mg z = some (.ref (He.ga X.K z))) (hg3 : Gl X z) (hd3 : (z == ("__debug__" : Str)) = false) : TstN X (.Tuple [.Name x p, .Name y q, .Name z r] j pos) [x, y, z]
theorem TstN.x {X : Cx} {t : Expr} {ns : List Str} (h : TstN X t ns) : TstX X t (ns.map fun n => .ref (He.ga X.K n)) := by
  cases h with
  | one hm hg hd => exact .one ⟨hg, hd, .inl hm⟩
  | three hm hg hd hm2 hg2 hd2 hm3 hg3 hd3 => exact .three ⟨hg, hd, .inl hm⟩ ⟨hg2, hd2, .inl hm2⟩ ⟨hg3, hd3, .inl hm3⟩
/-- the clauses and their mirrors -/
inductive HdsM (X : Cx) (k : Nat) (ts : List Str) : List ExceptHandler → List HM → Prop
  | nil : HdsM X k ts [] []
  | cons {t : Expr} {ns : List Str} {m : En → Rs Fl} {b₀ : Stmt} {suite : List Stmt} {pos' : Pos} {hds : List ExceptHandler} {l : List HM} (ht : TstN X t ns) (hn : ∀ n ∈ ns, n ∈ ts)
      (hsu : ∀ (a : Addr) (oe : Obj) (cls : Value) (d : Option Addr) (pn : List (Addr × Obj)), @CoH (tbE T0 a cls d) (X.suite a ((a, oe) :: pn)) k → @EvSs (tbE T0 a cls d) (X.suite a ((a, oe) :: pn)) W0 (b₀ :: suite) m) (r : HdsM X k ts hds l) :
      HdsM X k ts (.ExceptHandler (some t) none (b₀ :: suite) pos' :: hds) (⟨ns, none, m⟩ :: l)
  | as {t : Expr} {ns : List Str} {m : En → Rs Fl} {b₀ : Stmt} {suite : List Stmt} {pos' : Pos} {hds : List ExceptHandler} {l : List HM} {n : Str} {i : Nat} (ht : TstN X t ns) (hn : ∀ n ∈ ns, n ∈ ts) (hi : X.N[i]? = some n) (hln : X.env.kindOf n = some .local)
      (hsu : ∀ (a : Addr) (oe : Obj) (cls : Value) (d : Option Addr) (pn : List (Addr × Obj)), @CoH (tbE T0 a cls d) (X.suite a ((a, oe) :: pn)) k → @EvSs (tbE T0 a cls d) (X.suite a ((a, oe) :: pn)) W0 (b₀ :: suite) m) (r : HdsM X k ts hds l) :
      HdsM X k ts (.ExceptHandler (some t) (some n) (b₀ :: suite) pos' :: hds) (⟨ns, some i, m⟩ :: l)
/-- their readings -/
def HM.hd (K : PySem.W.Frag) (h : HM) : Hd := ⟨h.ts.map fun n => .ref (He.ga K n), h.slot, fun a cls d => @tS (tbE T0 a cls d) K W0 h.m⟩
theorem suite_co {X : Cx} {k : Nat} (c : Co X k) {a : Addr} {oe : Obj} {cls : Value} {d : Option Addr} {pn : List (Addr × Obj)} (hz : Zc cls d oe) (hf : ∃ vs, oe.data = .fields vs) : @CoH (tbE T0 a cls d) (X.suite a ((a, oe) :: pn)) k :=
  @CoH.mk (tbE T0 a cls d) _ _ ⟨c.hr.dp, c.hr.un⟩ c.hg ⟨a, cls, d, oe, rfl, List.mem_cons_self, hz, hf⟩
theorem HdsM.x {X : Cx} {k : Nat} {ts : List Str} {hds : List ExceptHandler} {l : List HM} (c : Co X k) (h : HdsM X k ts hds l) : HdsX X hds (l.map (HM.hd X.K)) := by
  induction h with
  | nil => exact .nil
  | cons ht hn hsu r ih => exact .cons ht.x (fun a oe cls d pn hz hf => hsu a oe cls d pn (suite_co c hz hf)) ih
  | as ht hn hi hln hsu r ih => exact .as ht.x hi hln (fun a oe cls d pn hz hf => hsu a oe cls d pn (suite_co c hz hf)) ih
theorem HdsM.names {X : Cx} {k : Nat} {ts : List Str} {hds : List ExceptHandler} {l : List HM} (h : HdsM X k ts hds l) : ∀ m ∈ l, ∀ n ∈ m.ts, n ∈ ts := by
  induction h with
  | nil => intro m hm; cases hm
  | cons ht hn hsu r ih => intro m hm; rcases List.mem_cons.mp hm with e | hm; (· subst e; exact hn); (· exact ih m hm)
  | as ht hn hi hln hsu r ih => intro m hm; rcases List.mem_cons.mp hm with e | hm; (· subst e; exact hn); (· exact ih m hm)
end Mi

set_option Elab.async false
set_option linter.all false
set_option maxRecDepth 100000
set_option maxHeartbeats 4000000
/-! Mi63: x(lambda: e), x a def that tries to call what it got -/
namespace Mi
open PySem PySem.Spec PyProof.Rows L2
variable [T0 : Tb]
/-! ### the mirror -/
/-! ### the lambda called, in the def that got it -/
section
variable {X : Cx} {pins : List (Addr × Obj)} {σ : L2.St} {H HZ : Hp} {s s1 : Shared}
end
/-! ### the slots of the callee -/
section
variable {K : PySem.W.Frag} {U : Addr → Prop} {H H' H'' : Hp} {σ σZ σ2 : L2.St} {e e2 : En} {n : Nat}
end
/-! ### x(lambda: e) -/
/-- the first statement within try -/
inductive FstOk (N : List Str) (sc : Scope) (a : Str) : Stmt → Option Nat → Prop
  | asg {i : Nat} {x : Str} {p0 p1 p2 p3 : Pos} (hi : N[i]? = some x) (hx : Loc sc x) : FstOk N sc a (.Assign [.Name x p0] (.Call (.Name a p1) [] [] p2) p3) (some i)
  | drop {p1 p2 p3 : Pos} : FstOk N sc a (.Expr (.Call (.Name a p1) [] [] p2) p3) none
/-- a def that tries to call what it got -/
structure HoF (P : Program) (w : World) (K : PySem.W.Frag) (mg : Str → Option Value) (base : Heap) (k : Nat) (x : Str) (g : Addr) (fd : FuncData) (a : Str) (n : Nat) (io : Option Nat) (ts : List Str) (hs : List HM) (mr : En → Rs Fl) : Prop where
  ex : ∃ (st : Stmt) (N : List Str) (h₀ : ExceptHandler) (hds : List ExceptHandler) (rest : List Stmt) (fst : Stmt) (pos : Pos), Fun K x x st g fd ∧ FnScope N [a] (defScope st) ∧ N.length = n ∧ N[0]? = some a ∧ Vis (defScope st) a ∧ (a == ("__debug__" : Str)) = false ∧ (a == ("__classdict__" : Str)) = false ∧
    defBody st = .Try [fst] (h₀ :: hds) [] [] pos :: rest ∧ FstOk N (defScope st) a fst io ∧ (∀ i, io = some i → i < n) ∧
    ∀ (cdv : Value) (A : Around) (outer : List PySem.Env) (s : Shared) (H : Hp), Co (cxOf (L2.CX P w) P w K mg base N x (defScope st) g cdv A outer s H (fun _ _ _ => False)) k →
      HdsM (cxOf (L2.CX P w) P w K mg base N x (defScope st) g cdv A outer s H (fun _ _ _ => False)) k ts (h₀ :: hds) hs ∧ EvSs (cxOf (L2.CX P w) P w K mg base N x (defScope st) g cdv A outer s H (fun _ _ _ => False)) W0 rest mr
section
variable {X : Cx} {W : WX} {k n : Nat} {io : Option Nat} {cs fs ts : List Str} {bs : List String} {hs : List HM} {mr : En → Rs Fl} {m : En → Rs D} {x a : Str} {g c P : Addr} {fd : FuncData} {params : Arguments} {body : Expr} {scope : Scope} {lpos p pos : Pos}
end
end Mi

set_option Elab.async false
set_option linter.all false
set_option maxRecDepth 100000
set_option maxHeartbeats 4000000
/-! Mi64: the hook and the law's end where defs make lambdas -/
namespace Mi
open PySem PySem.Spec PyProof.Rows L2 He
/-! ### the hook -/
structure SaysL (fa : List Fa) (fn : List DefD) (ps : List AtD) (ex : PySem.W.Frag → Bool) (tf : List Defn) (h : Heap) (K : PySem.W.Frag) : Prop where
  p : SaysP fa fn ps ex K
  hd : ∀ d ∈ tf, PySem.W.codeHdIn K (cT K d).1 (cT K d).2 = true
  out : ∀ d ∈ tf, K.lookup (cT K d).2 = none
  empty : ∀ d ∈ tf, h.get? (cT K d).2 = some { cls := .none, data := .fields #[] }
/-! ### the law's end -/
/-! ### a def that makes lambdas: its body knows its own code object -/
end Mi

set_option Elab.async false
set_option linter.all false
set_option maxRecDepth 100000
set_option maxHeartbeats 4000000
/-! Mi65: what a walk over lambdas knows of the tables; clauses for any handled exception -/
namespace Mi
open PySem PySem.Spec PyProof.Rows L2
/-- tq: the defs that make lambdas, with their lambdas' names -/
structure LamT [Tb] (K : PySem.W.Frag) (mg : Str → Option Value) (base : Heap) (tq : List (He.Defn × Str)) : Prop where
  all : ∀ p ∈ tq, LamX.TabB base mg (He.cT K p.1).1 (He.cT K p.1).2 ∧ ((He.cT K p.1).2, p.2) ∈ Tb.T ∧ ∀ z ∈ Tb.T, z.1 = (He.cT K p.1).2 → z.2 = p.2
theorem LamT.at [Tb] {K : PySem.W.Frag} {mg : Str → Option Value} {base : Heap} {tq : List (He.Defn × Str)} (lt : LamT K mg base tq) (i : Nat) {p : He.Defn × Str} (h : tq[i]? = some p := by rfl) :
    LamX.TabB base mg (He.cT K p.1).1 (He.cT K p.1).2 ∧ ((He.cT K p.1).2, p.2) ∈ Tb.T ∧ ∀ z ∈ Tb.T, z.1 = (He.cT K p.1).2 → z.2 = p.2 := lt.all p (List.mem_of_getElem? h)
variable [T0 : Tb]
end Mi

set_option Elab.async false
set_option linter.all false
set_option maxRecDepth 100000
set_option maxHeartbeats 4000000
/-! Mi66: what the hook tells, for the law's end; runs in parts -/
namespace Mi
open PySem PySem.Spec PyProof.Rows L2 He
/-! ### a run in parts -/
theorem all_split {α : Type} (l : List α) (n : Nat) (p : α → Bool) : l.all p = ((l.take n).all p && (l.drop n).all p) := by rw [← List.all_append, List.take_append_drop]
/-- all parts together -/
theorem joinP {σ β : Type} {o : Option σ} {fa : List Fa} {fn : List DefD} {ps : List AtD} {ex : PySem.W.Frag → Bool} {A : σ → Bool} {B : σ → β} {b : β} {k : σ → PySem.W.Frag} (h i : Nat) (hA : o.map A = some true) (hB : o.map B = some b)
    (h1a : o.map (fun s => (fa.take i).all fun f => f.ok (k s)) = some true) (h1b : o.map (fun s => (fa.drop i).all fun f => f.ok (k s)) = some true) (h1c : o.map (fun s => (fn.take h).all fun d => d.ok (k s)) = some true) (h1d : o.map (fun s => (fn.drop h).all fun d => d.ok (k s)) = some true) (h2 : o.map (fun s => (fn.take h).map fun d => He.fnW (k s) d.at_) = some ((fn.take h).map He.DefD.val))
    (h3 : o.map (fun s => (fn.drop h).map fun d => He.fnW (k s) d.at_) = some ((fn.drop h).map He.DefD.val)) (h4 : o.map (fun s => (ps.all fun p => p.ok (k s)) && ex (k s)) = some true)
    (h5 : o.map (fun s => ps.map fun p => fnWA (k s) (p.at_ (k s))) = some (ps.map fun p => p.d.val)) : o.map (fun s => (A s, B s, obsP fa fn ps ex (k s))) = some (true, b, valP fn ps) := by
  cases o with
  | none => cases hA
  | some x =>
    have a := Option.some.inj hA
    have b := Option.some.inj hB
    have ca := Option.some.inj h1a
    have cb := Option.some.inj h1b
    have cc := Option.some.inj h1c
    have cd := Option.some.inj h1d
    have c2 := Option.some.inj h2
    have c3 := Option.some.inj h3
    have c4 := Option.some.inj h4
    have c5 := Option.some.inj h5
    dsimp only at ca cb cc cd c2 c3 c4 c5
    have c1 : ((fa.all fun f => f.ok (k x)) && fn.all fun d => d.ok (k x)) = true := by
      rw [all_split fa i, all_split fn h, ca, cb, cc, cd] <;> rfl
    have c6 : (fn.map fun d => He.fnW (k x) d.at_) = fn.map He.DefD.val := by
      have e : ∀ f : He.DefD → He.FnW, fn.map f = (fn.take h).map f ++ (fn.drop h).map f := fun f => by rw [← List.map_append, List.take_append_drop]
      rw [e, e, c2, c3]
    show some (A x, B x, ((((fa.all fun f => f.ok (k x)) && fn.all fun d => d.ok (k x)), fn.map fun d => He.fnW (k x) d.at_), ((ps.all fun p => p.ok (k x)) && ex (k x)), ps.map fun p => fnWA (k x) (p.at_ (k x)))) = some (true, _, ((true, fn.map He.DefD.val), true, ps.map fun p => p.d.val))
    rw [a, b, c1, c6, c4, c5]
end Mi

set_option Elab.async false
set_option linter.all false
set_option maxRecDepth 100000
set_option maxHeartbeats 4000000
/-! Mi67: an own list compared with what is reckoned meanwhile; index and count in lists of truths -/
namespace Mi
open PySem PySem.Spec PyProof.Rows L2
variable [T0 : Tb]
section
variable {X : Cx} {W : WX} {a b : Expr} {m : En → Rs D} {pos : Pos} {i : Nat} {K : PySem.W.Frag} {U : Addr → Prop} {env : En} {σ : L2.St} {H : Hp} {g : D → D → Option D} {r : R2}
end
/-! ### the place and the number of a flat value in a list -/
end Mi

set_option Elab.async false
set_option linter.all false
set_option maxRecDepth 100000
set_option maxHeartbeats 4000000
/-! Mi68: an item, of any kind, of an own list -/
namespace Mi
open PySem PySem.Spec PyProof.Rows L2
variable [T0 : Tb]
end Mi

set_option Elab.async false
set_option linter.all false
set_option maxRecDepth 100000
set_option maxHeartbeats 4000000
/-! Mi69: list(range(n)) -/
namespace Mi
open PySem PySem.Spec PyProof.Rows L2
variable [T0 : Tb]
end Mi

set_option Elab.async false
set_option linter.all false
set_option maxRecDepth 100000
set_option maxHeartbeats 4000000
/-! Mi70: a text, times an int -/
namespace Mi
open PySem PySem.Spec L2
variable [Tb]
section
variable {K : PySem.W.Frag}
end
end Mi

set_option Elab.async false
set_option linter.all false
set_option maxRecDepth 100000
set_option maxHeartbeats 4000000
/-! Mi71: a tuple of anything, and the empty one -/
namespace Mi
open PySem PySem.Spec L2
variable [Tb]
section
variable {K : PySem.W.Frag}
end
end Mi

set_option Elab.async false
set_option linter.all false
set_option maxRecDepth 100000
set_option maxHeartbeats 4000000
/-! Mi72: a tuple, times an int that may be one -/
namespace Mi
open PySem PySem.Spec L2
variable [Tb]
section
variable {K : PySem.W.Frag}
end
end Mi

set_option Elab.async false
set_option linter.all false
set_option maxRecDepth 100000
set_option maxHeartbeats 4000000
/-! Mi73: repr, of an empty dict too -/
namespace Mi
open PySem PySem.Spec L2
variable [Tb]
section
variable {K : PySem.W.Frag}
end
end Mi

set_option Elab.async false
set_option linter.all false
set_option maxRecDepth 100000
set_option maxHeartbeats 4000000
/-! Mi74: for over the items of a dict that an object holds -/
namespace Mi
open PySem PySem.Spec L2
variable [Tb]
def pairsD (l : List Str) (vs : List D) : List D := (l.zip vs).map fun p => .tup [.str p.1, p.2]
def itemsD : D → Option (List D)
  | .dct false ks vs => (strKs ks).bind fun l => if (l.zip vs).all (fun p => !mkD [.str p.1, p.2]) = true ∧ l.length = vs.length then some (pairsD l vs) else none
  | _ => none
section
variable {X : Cx} {W : WX} {tg : Expr} {body : List Stmt} {is : List Nat} {mg : D → En → Option En} {mb : En → Rs Fl} {pos p : Pos} {x : Str} {j : Nat} {c f : Str}
end
end Mi

set_option Elab.async false
set_option linter.all false
set_option maxRecDepth 100000
set_option maxHeartbeats 4000000
/-! Mi75: d[k] += e, in an own dict of ints -/
namespace Mi
open PySem PySem.Spec L2
variable [Tb]
section
variable {X : Cx} {W : WX} {o ke ve : Expr} {i : Nat} {m mk : En → Rs D} {pos tpos : Pos}
end
end Mi

set_option Elab.async false
set_option linter.all false
set_option maxRecDepth 100000
set_option maxHeartbeats 4000000
/-! Mi76: sorted(d), d an own dict of texts -/
namespace Mi
open PySem PySem.Spec PyProof.Rows L2
variable [Tb]
def ownDk : Option Sl → Option (List Ky × List D)
  | some (.io (.dct false ks vs)) => some (ks, vs)
  | some (.ow (.dct false ks vs)) => some (ks, vs)
  | _ => none
def xSortD (i : Nat) : En → Rs D := fun env => match ownDk env[i]? with
  | some p => .of (gSortX [.dct false p.1 p.2]) env
  | none => .bad
section
variable {X : Cx} {W : WX} {i : Nat} {x : Str} {p pos : Pos} {e a : Expr}
end
@[simp] theorem ev_xSortD (i : Nat) (env : En) : xSortD i env = (match ownDk env[i]? with
  | some p => .of (gSortX [.dct false p.1 p.2]) env
  | none => .bad) := id rfl
end Mi

set_option Elab.async false
set_option linter.all false
set_option maxRecDepth 100000
set_option maxHeartbeats 4000000
/-! Mi77: != of two lists whose items are equal by their own == -/
namespace Mi
section
open PySem PySem.Spec PyProof.Rows PySem.SeqAt GQ
open AutoSeq1 (wpAny_loadPart')
open MeetsSeq MeetsSeq2 MeetsSeq3 SeqRoads2
variable [Tb]
section
variable {prog : Program} {w : World} {A : Around} {R : Result → Shared → Prop}
end
section
variable {prog : Program} {w : World} {A : Around} {E : Value → Shared → Prop} {s : Shared}
end
end
open PySem PySem.Spec PyProof.Rows L2
variable [Tb]
section
variable {X : Cx} {k : Nat} {C g : Addr} {fd : FuncData} {ps : List Str} {sp : Sp}
end
/-! ### the mirror -/
section
variable {X : Cx} {W : WX} {c : Str} {a b : Expr} {pos : Pos} {m ma mb : En → Rs D}
end
end Mi

set_option Elab.async false
set_option linter.all false
set_option maxRecDepth 100000
set_option maxHeartbeats 4000000
/-! Mi78: tuple(zip(a, b)): the pairs are kept -/
namespace Mi
open PySem PySem.Spec PyProof.Rows
open AutoSeq1 (wpAny_loadPart')
variable [Tb]
section
variable {prog : Program} {w : World} {A : Around} {z TI TO i1 i2 d : Addr} {fp1 fp2 : List Addr} {n1 n2 : Nat} {P1 P2 : Nat → Value → Prop} {St1 St2 : Nat → Heap → Prop}
end
/-! ### the list is filled -/
section
variable {prog : Program} {w : World} {A : Around} {R : Result → Shared → Prop} {I S : Addr} {wr : List Addr} {n i : Nat} {Rel : Nat → Value → Value → Prop} {St : Nat → Heap → Prop} {acc : Array Value} {h h' : Heap}
end
section
variable {prog : Program} {w : World} {A : Around} {E : Value → Shared → Prop} {s : Shared} {z TI TO i1 i2 : Addr} {fp1 fp2 : List Addr} {n1 n2 : Nat} {P1 P2 : Nat → Value → Prop} {St1 St2 : Nat → Heap → Prop}
/-- a zip that has not begun -/
structure ZNew (prog : Program) (w : World) (z TI TO i1 i2 : Addr) (fp1 fp2 : List Addr) (n1 n2 : Nat) (P1 P2 : Nat → Value → Prop) (St1 St2 : Nat → Heap → Prop) (h : Heap) : Prop where
  sep : ZipSep2 z TI TO i1 i2 fp1 fp2
  d1 : ∀ A : Around, A.handled = none → Draws prog w A i1 fp1 n1 P1 St1
  d2 : ∀ A : Around, A.handled = none → Draws prog w A i2 fp2 n2 P2 St2
  hz : IsZip h z TI TO .none
  hTI : IsTupOf2 h TI (.ref i1) (.ref i2)
  hTO : ∃ a b, IsTupOf2 h TO a b
  h1 : St1 0 h
  h2 : St2 0 h
  old : ∀ b ∈ fp1 ++ fp2, b < h.objs.size
end
end Mi

set_option Elab.async false
set_option linter.all false
set_option maxRecDepth 100000
set_option maxHeartbeats 4000000
/-! Mi79: tuple(zip(a, b)) in the layer -/
namespace Mi
open PySem PySem.Spec PyProof.Rows L2
variable [Tb]
section
variable {X : Cx} {pins : List (Addr × Obj)} {σ : L2.St} {H : Hp} {s : Shared} {c : Sc} {it : Addr} {xs : List V}
end
section
variable {X : Cx} {W : WX} {e e2 : Expr} {p p2 pos pos2 : Pos} {ta : TA}
/-! ### its mirror -/
def tzD (ds : List D) : Option D := match ds with
  | [c, d] => (iterD c).bind fun a => (iterD d).bind fun b => if a.length ≤ 4000 ∧ (a.zip b).all (fun p => !mkD [p.1, p.2]) = true then some (.tup (zipD a b)) else none
  | _ => none
def xTZip (ma : En → Rs (List D)) : En → Rs D := fun env => (ma env).bind fun ds e => .of (tzD ds) e
@[simp] theorem ev_xTZip (ma : En → Rs (List D)) (env : En) : xTZip ma env = (ma env).bind fun ds e => .of (tzD ds) e := id rfl
end
end Mi

set_option Elab.async false
set_option linter.all false
set_option maxRecDepth 100000
set_option maxHeartbeats 4000000
/-! Mi80: list(zip(a, b)) -/
namespace Mi
open PySem PySem.Spec PyProof.Rows
open AutoSeq1 (wpAny_loadPart')
variable [Tb]
section
variable {prog : Program} {w : World} {A : Around} {E : Value → Shared → Prop} {s : Shared} {z TI TO i1 i2 : Addr} {fp1 fp2 : List Addr} {n1 n2 : Nat} {P1 P2 : Nat → Value → Prop} {St1 St2 : Nat → Heap → Prop}
end
open L2
section
variable {X : Cx} {W : WX} {e e2 : Expr} {p p2 pos pos2 : Pos} {ta : TA}
/-! ### its mirror -/
def lzD (ds : List D) : Option D := match ds with
  | [c, d] => (iterD c).bind fun a => (iterD d).bind fun b => if a.length ≤ 4000 ∧ (a.zip b).all (fun p => !mkD [p.1, p.2]) = true then some (.lst (zipD a b)) else none
  | _ => none
def xLZip (ma : En → Rs (List D)) : En → Rs D := fun env => (ma env).bind fun ds e => .of (lzD ds) e
@[simp] theorem ev_xLZip (ma : En → Rs (List D)) (env : En) : xLZip ma env = (ma env).bind fun ds e => .of (lzD ds) e := id rfl
end
end Mi

set_option Elab.async false
set_option linter.all false
set_option maxRecDepth 100000
set_option maxHeartbeats 4000000
/-! Mi81: a, b = x, y with a name that inner scopes know -/
namespace Mi
open PySem PySem.Spec PyProof.Rows L2
variable [Tb]
section
variable {X : Cx} {pos : Pos}
end
end Mi

set_option Elab.async false
set_option linter.all false
set_option maxRecDepth 100000
set_option maxHeartbeats 4000000
/-! Mi82: dict comprehensions of two clauses (as HandS.Comp's lists of two clauses and Mi44) -/
namespace Mi
open PySem PySem.Spec PyProof.Rows L2
variable [Tb]
section
variable {prog : Program} {w : World} {A : Around} {R : Result → Shared → Prop} {s : Shared} {kx vx t0 i0 t1 i1 : Expr} {ifs0 ifs1 : List Expr} {scope : Scope} {pos : Pos} {it acc : Value} {env : Env}
end

section
variable {X : Cx}
end
end Mi

set_option Elab.async false
set_option linter.all false
set_option maxRecDepth 100000
set_option maxHeartbeats 4000000
/-! Mi83: dict comprehensions of two clauses: their mirror (as in Mi14 and Mi44); list of a new dict, of an own dict -/
namespace Mi
open PySem PySem.Spec PyProof.Rows L2
variable [Tb]
section
variable {X : Cx} {W : WX} {kx vx tg iter tg1 iter1 : Expr} {ifs ifs1 : List Expr} {scope : Scope} {own : List (Str × Nat)} {vs1 : List Nat} {pos : Pos} {mi mi1 : En → Rs (List D)} {is is1 : List Nat} {mg mg1 : D → En → Option En} {mt mt1 : En → Rs Bool} {mk mv : En → Rs D}
end
end Mi

set_option Elab.async false
set_option linter.all false
set_option maxRecDepth 100000
set_option maxHeartbeats 4000000
/-! Mi84: list(new dict), list(own dict); for over a dict that stands in a list -/
namespace Mi
open PySem PySem.Spec PyProof.Rows L2
variable [Tb]
section
variable {X : Cx} {W : WX} {e : Expr} {te : TE} {p pos : Pos} {m : En → Rs Ob} {i : Nat}
def xListF (m : En → Rs Ob) : En → Rs D := fun env => (m env).bind fun o e1 => match o with
  | .dct false ks _ => .of ((strKs ks).map fun l => .lst (l.map .str)) e1
  | _ => .bad
def xListDk (i : Nat) : En → Rs D := fun env => match ownDk env[i]? with
  | some q => .of ((strKs q.1).map fun l => .lst (l.map .str)) env
  | none => .bad
end
@[simp] theorem ev_xListDk (i : Nat) (env : En) : xListDk i env = (match ownDk env[i]? with
  | some q => .of ((strKs q.1).map fun l => .lst (l.map .str)) env
  | none => .bad) := id rfl
@[simp] theorem ev_xListF (m : En → Rs Ob) (env : En) : xListF m env = (m env).bind fun o e1 => match o with
  | .dct false ks _ => .of ((strKs ks).map fun l => .lst (l.map .str)) e1
  | _ => .bad := id rfl
/-! ### for x in t[i], a dict -/
def xIterKI (j : Nat) (i : Int) : En → Rs (List D) := fun env => match env[j]? with
  | some (.v (.lst ds)) => (match L2.atI ds i with
    | some d => .of (keysD d) env
    | none => .bad)
  | _ => .bad
section
variable {X : Cx} {W : WX} {tg e b : Expr} {body : List Stmt} {mi : En → Rs (List D)} {is : List Nat} {mg : D → En → Option En} {mb : En → Rs Fl} {pos p : Pos} {x : Str} {j : Nat} {i : Int}
end
@[simp] theorem ev_xIterKI (j : Nat) (i : Int) (env : En) : xIterKI j i env = (match env[j]? with
  | some (.v (.lst ds)) => (match L2.atI ds i with
    | some d => .of (keysD d) env
    | none => .bad)
  | _ => .bad) := id rfl
/-! ### a, b = {}, {} -/
def mPar00 (i j : Nat) : En → Rs Fl := fun env => match (ownAt i (.dct false [] []) env).bind (ownAt j (.dct false [] [])) with
  | some e3 => .ok .nx e3
  | none => .bad
@[simp] theorem ev_mPar00 (i j : Nat) (env : En) : mPar00 i j env = (match (ownAt i (.dct false [] []) env).bind (ownAt j (.dct false [] [])) with
  | some e3 => .ok .nx e3
  | none => .bad) := id rfl
end Mi

set_option Elab.async false
set_option linter.all false
set_option maxRecDepth 100000
set_option maxHeartbeats 4000000
/-! Mi85: methods of own objects (they may change them) -/
namespace Mi
open PySem PySem.Spec L2
variable [Tb]
section
variable {X : Cx} {W : WX} {k n i : Nat} {c nm : Str} {f : Addr} {fd : FuncData} {ps : List Str} {o e : Expr} {es : List Expr} {apos pos : Pos} {m mo : En → Rs D} {ma : En → Rs (List D)} {mq : En → Rs (List Ar)}
end
end Mi

set_option Elab.async false
set_option linter.all false
set_option maxRecDepth 100000
set_option maxHeartbeats 4000000
/-! Mi86: new objects whose making is handed own objects -/
namespace Mi
open PySem PySem.Spec L2
variable [Tb]
section
variable {K : PySem.W.Frag} {U : Addr → Prop} {e : En} {σ : St} {H : Hp} {o : Ob} {p : Addr}
end
end Mi

set_option Elab.async false
set_option linter.all false
set_option maxRecDepth 100000
set_option maxHeartbeats 4000000
/-! Mi87: C(.., an own object, ..) -/
namespace Mi
open PySem PySem.Spec L2
variable [Tb]
section
variable {K : PySem.W.Frag} {U U' : Addr → Prop} {e env : En} {σ : St} {H H' H1 H2 : Hp} {o o' : Ob} {p : Addr} {as : List Ar} {vs : List V} {args : En} {s : Sl}
end
section
variable {X : Cx} {W : WX} {k n : Nat} {c x : Str} {f : Addr} {fd : FuncData} {ps : List Str} {p pos : Pos} {e : Expr} {es : List Expr} {m : En → Rs D} {mq : En → Rs (List Ar)}
end
end Mi

set_option Elab.async false
set_option linter.all false
set_option maxRecDepth 100000
set_option maxHeartbeats 4000000
/-! Mi88: two names, two new objects of their own -/
namespace Mi
open PySem PySem.Spec L2
variable [Tb]
section
variable {K : PySem.W.Frag} {U : Addr → Prop} {env e1 e3 e4 : En} {σ σ3 : L2.St} {H H1 H2 : Hp} {o : Ob} {p : Addr} {i : Nat}
end
section
variable {X : Cx} {W : WX} {st : Stmt} {x1 x2 : Expr} {i j : Nat} {n n2 : En → Rs Ob}
end
end Mi

set_option Elab.async false
set_option linter.all false
set_option maxRecDepth 100000
set_option maxHeartbeats 4000000
/-! Mi89: methods of own objects by keywords; len of an own object -/
namespace Mi
open PySem PySem.Spec L2
variable [Tb]
section
variable {K : PySem.W.Frag} {W : WX} {U : Addr → Prop} {σ : St} {H : Hp} {n : Nat} {pm : List Nat} {ma : En → Rs (List D)} {Q : List V → Hp → Prop}
end
section
variable {X : Cx} {W : WX} {k n i : Nat} {c nm : Str} {f : Addr} {fd : FuncData} {ps ks : List Str} {pm : List Nat} {o : Expr} {kws : List Keyword} {apos pos : Pos} {m : En → Rs D} {ma : En → Rs (List D)}
end
section
variable {X : Cx} {W : WX} {k i : Nat} {c : Str} {g : Addr} {fd : FuncData} {ps : List Str} {e : Expr} {p pos : Pos} {m : En → Rs D}
end
end Mi

set_option Elab.async false
set_option linter.all false
set_option maxRecDepth 100000
set_option maxHeartbeats 4000000
/-! Mi90: bool(an own object), by its __len__ -/
namespace PySem
end PySem
namespace Mi
open PySem PySem.Spec L2
variable [Tb]
section
variable {X : Cx} {W : WX} {k : Nat} {C g : Addr} {fd : FuncData} {ps : List Str} {sp : Sp}
end
section
variable {X : Cx} {W : WX} {k i : Nat} {c : Str} {g : Addr} {fd : FuncData} {ps : List Str} {e : Expr} {p pos : Pos} {m : En → Rs D}
end
end Mi

set_option Elab.async false
set_option linter.all false
set_option maxRecDepth 100000
set_option maxHeartbeats 4000000
/-! Mi91: three names that inner scopes know: a new object of its own, two values -/
namespace Mi
open PySem PySem.Spec PyProof.Rows L2
variable [Tb]
section
variable {X : Cx} {pos : Pos}
end
section
variable {X : Cx} {W : WX} {st : Stmt} {x1 x2 x3 : Expr} {i j l : Nat} {m m2 : En → Rs D} {n : En → Rs Ob}
end
end Mi

set_option Elab.async false
set_option linter.all false
set_option maxRecDepth 100000
set_option maxHeartbeats 4000000
/-! Mi92: try with clauses, in any def -/
namespace Mi
open PySem PySem.Spec PyProof.Rows L2
variable [Tb]
section
variable {X : Cx} {W : WX} {k i : Nat} {c : Str} {g : Addr} {fd : FuncData} {ps : List Str} {a : Expr} {m : En → Rs D}
end
end Mi

set_option Elab.async false
set_option linter.all false
set_option maxRecDepth 100000
set_option maxHeartbeats 4000000
/-! Mi93: a def that tries to call what it got, with a last clause for a built-in class that no exception of the program comes to -/
namespace Mi
open PySem PySem.Spec PyProof.Rows L2
variable [T0 : Tb]
/-- own clauses, then others -/
inductive HdsT (X : Cx) (k : Nat) (ts : List Str) : List ExceptHandler → List HM → List Hd → Prop
  | tail {hds : List ExceptHandler} {tl : List Hd} (h : HdsX X hds tl) : HdsT X k ts hds [] tl
  | cons {t : Expr} {ns : List Str} {m : En → Rs Fl} {b₀ : Stmt} {suite : List Stmt} {pos' : Pos} {hds : List ExceptHandler} {l : List HM} {tl : List Hd} (ht : TstN X t ns) (hn : ∀ n ∈ ns, n ∈ ts)
      (hsu : ∀ (a : Addr) (oe : Obj) (cls : Value) (d : Option Addr) (pn : List (Addr × Obj)), @CoH (tbE T0 a cls d) (X.suite a ((a, oe) :: pn)) k → @EvSs (tbE T0 a cls d) (X.suite a ((a, oe) :: pn)) W0 (b₀ :: suite) m) (r : HdsT X k ts hds l tl) :
      HdsT X k ts (.ExceptHandler (some t) none (b₀ :: suite) pos' :: hds) (⟨ns, none, m⟩ :: l) tl
  | as {t : Expr} {ns : List Str} {m : En → Rs Fl} {b₀ : Stmt} {suite : List Stmt} {pos' : Pos} {hds : List ExceptHandler} {l : List HM} {tl : List Hd} {n : Str} {i : Nat} (ht : TstN X t ns) (hn : ∀ n ∈ ns, n ∈ ts) (hi : X.N[i]? = some n) (hln : X.env.kindOf n = some .local)
      (hsu : ∀ (a : Addr) (oe : Obj) (cls : Value) (d : Option Addr) (pn : List (Addr × Obj)), @CoH (tbE T0 a cls d) (X.suite a ((a, oe) :: pn)) k → @EvSs (tbE T0 a cls d) (X.suite a ((a, oe) :: pn)) W0 (b₀ :: suite) m) (r : HdsT X k ts hds l tl) :
      HdsT X k ts (.ExceptHandler (some t) (some n) (b₀ :: suite) pos' :: hds) (⟨ns, some i, m⟩ :: l) tl
theorem HdsT.x {X : Cx} {k : Nat} {ts : List Str} {hds : List ExceptHandler} {l : List HM} {tl : List Hd} (c : Co X k) (h : HdsT X k ts hds l tl) : HdsX X hds (l.map (HM.hd X.K) ++ tl) := by
  induction h with
  | tail h => exact h
  | cons ht hn hsu r ih => exact .cons ht.x (fun a oe cls d pn hz hf => hsu a oe cls d pn (suite_co c hz hf)) ih
  | as ht hn hi hln hsu r ih => exact .as ht.x hi hln (fun a oe cls d pn hz hf => hsu a oe cls d pn (suite_co c hz hf)) ih
theorem HdsT.names {X : Cx} {k : Nat} {ts : List Str} {hds : List ExceptHandler} {l : List HM} {tl : List Hd} (h : HdsT X k ts hds l tl) : ∀ m ∈ l, ∀ n ∈ m.ts, n ∈ ts := by
  induction h with
  | tail h => intro m hm; cases hm
  | cons ht hn hsu r ih => intro m hm; rcases List.mem_cons.mp hm with e | hm; (· subst e; exact hn); (· exact ih m hm)
  | as ht hn hi hln hsu r ih => intro m hm; rcases List.mem_cons.mp hm with e | hm; (· subst e; exact hn); (· exact ih m hm)
structure HoFB (P : Program) (w : World) (K : PySem.W.Frag) (mg : Str → Option Value) (base : Heap) (k : Nat) (x : Str) (g : Addr) (fd : FuncData) (a : Str) (n : Nat) (io : Option Nat) (ts : List Str) (hs : List HM) (mr : En → Rs Fl) : Prop where
  ex : ∃ (st : Stmt) (N : List Str) (h₀ : ExceptHandler) (hds : List ExceptHandler) (rest : List Stmt) (fst : Stmt) (pos : Pos), Fun K x x st g fd ∧ FnScope N [a] (defScope st) ∧ N.length = n ∧ N[0]? = some a ∧ Vis (defScope st) a ∧ (a == ("__debug__" : Str)) = false ∧ (a == ("__classdict__" : Str)) = false ∧
    defBody st = .Try [fst] (h₀ :: hds) [] [] pos :: rest ∧ FstOk N (defScope st) a fst io ∧ (∀ i, io = some i → i < n) ∧
    ∀ (cdv : Value) (A : Around) (outer : List PySem.Env) (s : Shared) (H : Hp), Co (cxOf (L2.CX P w) P w K mg base N x (defScope st) g cdv A outer s H (fun _ _ _ => False)) k →
      ∃ tl, HdsX (cxOf (L2.CX P w) P w K mg base N x (defScope st) g cdv A outer s H (fun _ _ _ => False)) (h₀ :: hds) (hs.map (HM.hd K) ++ tl) ∧ (∀ m ∈ hs, ∀ n ∈ m.ts, n ∈ ts) ∧ EvSs (cxOf (L2.CX P w) P w K mg base N x (defScope st) g cdv A outer s H (fun _ _ _ => False)) W0 rest mr
section
variable {X : Cx} {W : WX} {k n : Nat} {io : Option Nat} {cs fs ts : List Str} {bs : List String} {hs : List HM} {mr : En → Rs Fl} {m : En → Rs D} {x a : Str} {g c P : Addr} {fd : FuncData} {params : Arguments} {body : Expr} {scope : Scope} {lpos p pos : Pos}
end
end Mi

set_option Elab.async false
set_option linter.all false
set_option maxRecDepth 100000
set_option maxHeartbeats 4000000
/-! Mi94: a classmethod that makes an object, or raises -/
namespace Mi
open PySem PySem.Spec PyProof.Rows L2 He
variable [Tb]
section
variable {X : Cx} {W : WX} {k : Nat} {C p g : Addr} {mc : Value} {fd : FuncData} {ps ks : List Str} {pm : List Nat} {sp : Sp} {nm : Str} {o e : Expr} {es : List Expr} {kws : List Keyword} {apos pos : Pos} {ta : TE} {t : TA}
end
section
variable {X : Cx} {W : WX} {k n : Nat} {C p g : Addr} {mc : Value} {fd : FuncData} {ps ks : List Str} {pm : List Nat} {nm : Str} {o e : Expr} {es : List Expr} {kws : List Keyword} {apos pos : Pos} {m : En → Rs D} {ma : En → Rs (List D)}
end
/-! ### p = e; if t: raise ..; return cls(..) -/
section
variable {X : Cx} {C : Addr} {E : XK} {m1 mr : En → Rs D} {mt : En → Rs Bool} {mx : En → Rs Fl} {s1 s2 s3 : Stmt}
end
end Mi

set_option Elab.async false
set_option linter.all false
set_option maxRecDepth 100000
set_option maxHeartbeats 4000000
/-! Mi95: a list of anything, and the empty one -/
namespace Mi
open PySem PySem.Spec L2
variable [Tb]
section
variable {K : PySem.W.Frag}
end
end Mi

set_option Elab.async false
set_option linter.all false
set_option maxRecDepth 100000
set_option maxHeartbeats 4000000
/-! Mi96: ==, != and truth of an object of a class without __eq__, __len__, __bool__ -/
namespace Mi
section
open PySem PySem.Spec PyProof.Rows
variable [Tb]
variable {prog : Program} {w : World} {A : Around} {E : Value → Shared → Prop} {s : Shared} {K : W.Frag} {x y C D f : Addr} {ox oy : Obj} {od od2 : Option Obj}
end
end Mi

set_option Elab.async false
set_option linter.all false
set_option maxRecDepth 100000
set_option maxHeartbeats 4000000
/-! Mi97: the rules of Mi96 in a law -/
namespace Mi
open PySem PySem.Spec PyProof.Rows L2
variable [Tb]
structure Bare (K : PySem.W.Frag) (c : Str) : Prop where
  ne : PySem.W.findIn K (.ref (He.ga K c)) "__ne__" = some (some (.builtin "object.__ne__"))
  sub : PySem.W.subIn K (.ref (He.ga K c)) (.type "object") = some true
  bo : PySem.W.findIn K (.ref (He.ga K c)) "__bool__" = some none
  eq : PySem.W.findIn K (.ref (He.ga K c)) "__eq__" = some (some (.builtin "object.__eq__"))
  mro : PySem.W.mroIn K (He.ga K c) (.type "object") = some true
  le : PySem.W.findIn K (.ref (He.ga K c)) "__len__" = some none
section
variable {X : Cx} {k : Nat} {c c2 : Str} {g : Addr} {fd : FuncData} {ps : List Str} {sp : Sp}
end
/-! ### the mirrors -/
section
variable {X : Cx} {W : WX} {k i j : Nat} {c c2 : Str} {g : Addr} {fd : FuncData} {ps : List Str} {a b : Expr} {pos : Pos} {m ma mb : En → Rs D}
end
end Mi

set_option Elab.async false
set_option linter.all false
set_option maxRecDepth 100000
set_option maxHeartbeats 4000000
/-! Mi98: two lists put together, as a new list of one's own -/
namespace Mi
open PySem PySem.Spec L2
variable [Tb]
section
variable {X : Cx} {W : WX} {a b : Expr} {ma mb : En → Rs D} {pos : Pos}
end
end Mi

set_option Elab.async false
set_option linter.all false
set_option maxRecDepth 100000
set_option maxHeartbeats 4000000
/-! Mi99: an attribute of an own object as a target among others -/
namespace Mi
open PySem PySem.Spec PyProof.Rows L2
variable [Tb]
section
variable {X : Cx} {W : WX} {o : Expr} {c f : Str} {pos : Pos} {i : Nat}
end
end Mi

set_option Elab.async false
set_option linter.all false
set_option maxRecDepth 100000
set_option maxHeartbeats 4000000
/-! Mi100: try .. finally, where nothing is raised and both come to their end -/
namespace Mi
open PySem PySem.Spec PyProof.Rows L2
variable [Tb]
section
variable {X : Cx} {W : WX} {k : Nat} {body fs : List Stmt} {f0 : Stmt} {pos : Pos} {mb mf : En → Rs Fl}
end
end Mi

set_option Elab.async false
set_option linter.all false
set_option maxRecDepth 100000
set_option maxHeartbeats 4000000
/-! Mi101: a method of an own object whose last parameter, keyword-only, is left at its default None -/
namespace Mi
open PySem PySem.Spec PyProof.Rows L2
variable [Tb]
section
variable {X : Cx} {W : WX} {k n i : Nat} {c nm : Str} {C : Addr} {f : Addr} {fd : FuncData} {ps : List Str} {o e : Expr} {es : List Expr} {apos pos : Pos} {m : En → Rs D} {mq : En → Rs (List Ar)} {sp : Sp} {ta : TE} {t : TA} {dvs : List V} {ds : List Value}
theorem RAr.non {K : PySem.W.Frag} {U : Addr → Prop} {σ : L2.St} {H : Hp} : ∀ {as : List Ar} {vs : List V}, RAr K U σ H as vs → RAr K U σ H (as ++ [Sum.inl .non]) (vs ++ [V.non])
  | [], vs, h => by
    have h : vs = [] := h
    subst h
    exact ⟨V.non, [], rfl, rfl, rfl⟩
  | .inl d :: r, vs, h => by
    obtain ⟨x, t, rfl, h1, h2⟩ := h
    exact ⟨x, t ++ [V.non], rfl, h1, RAr.non h2⟩
  | .inr i :: r, vs, h => by
    obtain ⟨x, t, rfl, h1, h2⟩ := h
    exact ⟨x, t ++ [V.non], rfl, h1, RAr.non h2⟩
end
end Mi

set_option Elab.async false
set_option linter.all false
set_option maxRecDepth 100000
set_option maxHeartbeats 4000000
/-! Mi102: what the written part says of a method's keyword-only default None -/
namespace Mi
open PySem PySem.Spec PyProof.Rows L2
end Mi

set_option Elab.async false
set_option linter.all false
set_option maxRecDepth 100000
set_option maxHeartbeats 4000000
/-! Mi103: for each in [a, b]: names' own objects, by a body that stores no name -/
namespace Mi
open PySem PySem.Spec L2
variable [Tb]
section
variable {K : PySem.W.Frag} {W : WX} {U : Addr → Prop} {env env1 : En} {σ σ1 : St} {H H1 : Hp}
end
section
variable {X : Cx} {W : WX} {st : Stmt} {rest a b : List Stmt} {m n ms ns : En → Rs Fl} {c e : Expr} {t : En → Rs Bool} {me : En → Rs D} {pos : Pos}
end
/-- the addresses in some slots -/
def Adrs (σ : St) : List Nat → List V → Prop
  | [], vs => vs = []
  | i :: is, vs => ∃ p r, vs = V.ref p :: r ∧ σ[i]? = some (some (V.ref p)) ∧ Adrs σ is r
theorem Adrs.set {σ : St} {k : Nat} {v : Option V} : ∀ {is : List Nat} {vs : List V}, (∀ i ∈ is, i ≠ k) → Adrs σ is vs → Adrs (σ.set k v) is vs
  | [], _, _, h => h
  | i :: is, _, n, ⟨p, r, e, h1, h2⟩ => ⟨p, r, e, by rw [List.getElem?_set_ne (Ne.symm (n i (by simp)))]; exact h1, h2.set fun j hj => n j (by simp [hj])⟩
end Mi

set_option Elab.async false
set_option linter.all false
set_option maxRecDepth 100000
set_option maxHeartbeats 4000000
/-! Mi104: the loop over a display of names' own objects -/
namespace Mi
open PySem PySem.Spec L2
variable [Tb]
theorem Adrs.len {σ : St} : ∀ {is : List Nat} {vs : List V}, Adrs σ is vs → vs.length = is.length
  | [], _, h => by rw [show _ = [] from h]; rfl
  | i :: is, _, ⟨p, r, e, _, h⟩ => by rw [e, List.length_cons, List.length_cons, h.len]
end Mi

set_option Elab.async false
set_option linter.all false
set_option maxRecDepth 100000
set_option maxHeartbeats 4000000
/-! Mi105: a def whose last parameter, keyword-only, has the default None -/
namespace Mi
open PySem PySem.Spec PyProof.Rows L2
end Mi

set_option Elab.async false
set_option linter.all false
set_option maxRecDepth 100000
set_option maxHeartbeats 4000000
/-! Mi106: a tuple turned round by [::-1] -/
namespace HT
open PySem PyProof.Rows
section
variable {prog : Program} {w : World} {A : Around} {E : Value → Shared → Prop} {s : Shared}
end
end HT
namespace Mi
open PySem PySem.Spec PyProof.Rows L2
variable [Tb]
section
variable {X : Cx} {W : WX} {a st : Expr} {m : En → Rs D} {ms : En → Rs (Option Int)} {te : TE} {ts : TO} {pos p2 : Pos}
end
end Mi

set_option Elab.async false
set_option linter.all false
set_option maxRecDepth 100000
set_option maxHeartbeats 4000000
/-! Mi107: raise of a class with an __init__ of its own over another root than ValueError -/
namespace Mi
open PySem PySem.Spec PyProof.Rows L2
variable [Tb]
/-- what the written part says of such a class -/
structure OxR (K : PySem.W.Frag) (C : Addr) (bt : List Value) (nid : String) : Prop where
  made : PySem.W.excInitIn K C bt nid = true
  over : PySem.W.excOver K C bt = true
  dic : PySem.W.hasDictIn K C = true
  sa : PySem.W.findIn K (.ref C) "__setattr__" = some (some (.builtin "object.__setattr__"))
  exC : PySem.W.subIn K (.ref C) (.type "BaseException") = some true
  tyC : PySem.W.typeIn K (.ref C) = some (.type "type")
  kC : PySem.W.keepIn K (.ref C) = true
section
variable {X : Cx} {pins : List (Addr × Obj)} {σ : L2.St} {H : Hp} {s : Shared} {a C : Addr} {f : Str} {y : V} {u : Value} {Q : Unit → Shared → Prop} {E : Value → Shared → Prop} {A : Around} {R : Str} {bt : List Value} {B nid : String}
end
structure XiR (K : PySem.W.Frag) (c f : Str) (bt : List Value) (nid : String) : Prop where
  ox : OxR K (He.ga K c) bt nid
  no : PySem.W.findIn K (.ref (He.ga K c)) f = some none
  ini : PySem.W.findIn K (.ref (He.ga K c)) "__init__" = some (some (.ref (He.ma K (He.ga K c) "__init__")))
  ty : PySem.W.typeIn K (.ref (He.ma K (He.ga K c) "__init__")) = some (.type "function")
end Mi

set_option Elab.async false
set_option linter.all false
set_option maxRecDepth 100000
set_option maxHeartbeats 4000000
/-! Mi108: list(d.items()) of a dict that is a value -/
namespace Mi
open PySem PySem.Spec PyProof.Rows L2
variable [Tb]
section
variable {X : Cx} {W : WX} {e : Expr} {apos cpos p2 pos2 : Pos} {te : TE}
/-! ### its mirror -/
def xLIts (me : En → Rs D) : En → Rs D := fun env => (me env).bind fun d e => .of ((itemsD d).map D.lst) e
@[simp] theorem ev_xLIts (me : En → Rs D) (env : En) : xLIts me env = (me env).bind fun d e => .of ((itemsD d).map D.lst) e := id rfl
end
end Mi

set_option Elab.async false
set_option linter.all false
set_option maxRecDepth 100000
set_option maxHeartbeats 4000000
/-! Mi109: y = [.. for x in d], d a dict that is a value -/
namespace Mi
open PySem PySem.Spec L2
variable [Tb]
end Mi

set_option Elab.async false
set_option linter.all false
set_option maxRecDepth 100000
set_option maxHeartbeats 4000000
/-! Mi110: the hook of Mi64 with a quicker list of addresses (what was met stands as bits of one number) -/
namespace Mi
open PySem PySem.Spec PyProof.Rows L2 He
/-- the new ones of some addresses, the last one ahead, and the bits of all that were met -/
def newB : List Addr → Nat → List Addr → Nat × List Addr
  | [], m, r => (m, r)
  | a :: l, m, r => match Nat.beq (Nat.land (Nat.shiftRight m a) 1) 0 with
    | true => newB l (Nat.lor m (Nat.shiftLeft 1 a)) (a :: r)
    | false => newB l m r
def refsB (g : Addr → Option Obj) (a : Addr) : List Addr := match g a with
  | some o => refsD o
  | none => []
def levB (g : Addr → Option Obj) : Nat → Nat × List Addr → List Addr
  | 0, p => p.2
  | n + 1, p => p.2 ++ levB g n (newB (p.2.flatMap (refsB g)) p.1 [])
def asB (st : Bool) (n : Nat) (g : Addr → Option Obj) : List Addr := if st then PySem.cStatics :: levB g n (Nat.shiftLeft 1 mainGlobals, [mainGlobals]) else levB g n (Nat.shiftLeft 1 mainGlobals, [mainGlobals])
def obsQ (st : Bool) (n : Nat) (fa : List Fa) (fn : List DefD) (ps : List AtD) (ex : PySem.W.Frag → Bool) (g : Addr → Option Obj) : AlP := obsP fa fn ps ex (frG g (asB st n g))
def hookQ (st : Bool) (n : Nat) (fa : List Fa) (fn : List DefD) (ps : List AtD) (ex : PySem.W.Frag → Bool) : PySem.W.Hook where
  α := AlP
  obs := fun s => obsQ st n fa fn ps ex s.heap.get?
  val := fun _ => valP fn ps
  says := fun _ h => ∃ K : PySem.W.Frag, K.In h ∧ SaysP fa fn ps ex K
  of := fun _ _ e => ⟨_, frG_in, ⟨e⟩⟩
  keeps := fun _ _ _ ⟨K, hK, c⟩ k => ⟨K, PySem.W.Frag.In.keeps hK k, c⟩
theorem obsQ_eq {st : Bool} {n : Nat} {fa : List Fa} {fn : List DefD} {ps : List AtD} {ex : PySem.W.Frag → Bool} {g : Addr → Option Obj} {s : Shared} (h : ∀ a, g a = s.heap.get? a) : obsQ st n fa fn ps ex g = (hookQ st n fa fn ps ex).obs s := by
  have e : g = s.heap.get? := funext h
  rw [e] <;> rfl
end Mi

set_option Elab.async false
set_option linter.all false
set_option maxRecDepth 100000
set_option maxHeartbeats 4000000
/-! Mi111: a def that returns a new object at more than one place: if c: ..return; rest -/
namespace Mi
open PySem PySem.Spec PyProof.Rows L2
variable [T0 : Tb]
section
variable {X : Cx} {W : WX} {c : Expr} {body rest : List Stmt} {t : En → Rs Bool} {m n : En → Rs Ob} {pos : Pos}
end
end Mi

set_option Elab.async false
set_option linter.all false
set_option maxRecDepth 100000
set_option maxHeartbeats 4000000
/-! Mi112: tuple != tuple where the items are alike by their own __eq__ -/
namespace GN
open PySem PySem.SeqAt
open AutoSeq1 (wpAny_loadPart')
open MeetsSeq MeetsSeq2 MeetsSeq3 SeqRoads2 GQ
section
variable {prog : Program} {w : World} {A : Around} {R : Result → Shared → Prop}
end
section
variable {prog : Program} {w : World} {A : Around} {E : Value → Shared → Prop} {s : Shared}
end
end GN
namespace L2
open PySem PySem.Spec PyProof.Rows
section
variable {X : Cx} {n : Nat} {D : Eqv}
end
end L2
namespace Mi
open PySem PySem.Spec PyProof.Rows L2
variable [T0 : Tb]
structure SubM (X : Cx) (n : Nat) (A : Around) : Prop where
  room : Room n A
  fr : A.frames = X.A.frames
  hg : A.guards = some []
section
variable {X : Cx} {n m : Nat} {D D' : Eqv}
end
/-! ### in data trees -/
def okT : Rs D → Bool
  | .ok (.bl true) _ => true
  | _ => false
def alk0 (m : En → Rs D) (c : Str) : D → D → Bool
  | .non, .non => true
  | .bl a, .bl b => a == b
  | .int a, .int b => decide (a = b)
  | .str a, .str b => decide (a = b)
  | .obj c1 n1 v1, .obj c2 n2 v2 => decide (c1 = c) && (decide (c2 = c) && okT (m [.v (.obj c1 n1 v1), .v (.obj c2 n2 v2)]))
  | _, _ => false
def alkL (f : D → D → Bool) : List D → List D → Bool
  | [], [] => true
  | a :: l, b :: r => f a b && alkL f l r
  | _, _ => false
def alkT (f : D → D → Bool) : D → D → Bool
  | .tup ds, .tup es => alkL f ds es
  | _, _ => false
def alk (m : En → Rs D) (c : Str) : Nat → D → D → Bool
  | 0, d, e => alk0 m c d e
  | n + 1, d, e => alk m c n d e || alkT (alk m c n) d e
section
variable {K : PySem.W.Frag} {U : Addr → Prop} {H : Hp} {c : Str} {m : En → Rs D}
end
def neA (n : Nat) (c : Str) (m : En → Rs D) (d e : D) (env : En) : Rs D := match d, e with
  | .tup ds, .tup es => if alkL (alk m c n) ds es = true then .ok (.bl false) env else .bad
  | _, _ => .bad
def xNeA (n : Nat) (c : Str) (m ma mb : En → Rs D) : En → Rs D := fun env => (ma env).bind fun d e1 => (mb e1).bind fun e e2 => neA n c m d e e2
section
variable {X : Cx} {W : WX} {k j n : Nat} {c : Str} {g : Addr} {fd : FuncData} {ps : List Str} {a b : Expr} {pos : Pos} {m ma mb : En → Rs D}
@[simp] theorem ev_xNeA (n : Nat) (c : Str) (m ma mb : En → Rs D) (env : En) : xNeA n c m ma mb env = (ma env).bind fun d e1 => (mb e1).bind fun e e2 => neA n c m d e e2 := id rfl
end
end Mi

set_option Elab.async false
set_option linter.all false
set_option maxRecDepth 100000
set_option maxHeartbeats 4000000
/-! Mi113: list(d.values()) of a dict that is a value -/
namespace Mi
open PySem PySem.Spec PyProof.Rows L2
variable [Tb]
section
variable {X : Cx} {W : WX} {e : Expr} {apos cpos p2 pos2 : Pos} {te : TE}
/-! ### its mirror -/
def valsD : D → Option D
  | .dct false ks vs => some (.lst vs)
  | _ => none
def xLVals (me : En → Rs D) : En → Rs D := fun env => (me env).bind fun d e => .of (valsD d) e
@[simp] theorem ev_xLVals (me : En → Rs D) (env : En) : xLVals me env = (me env).bind fun d e => .of (valsD d) e := id rfl
end
end Mi

set_option Elab.async false
set_option linter.all false
set_option maxRecDepth 100000
set_option maxHeartbeats 4000000
/-! Mi114: a def that calls itself, so deep at most: the def that is never called -/
namespace Mi
open PySem PySem.Spec PyProof.Rows L2
variable [T0 : Tb]
end Mi

set_option Elab.async false
set_option linter.all false
set_option maxRecDepth 100000
set_option maxHeartbeats 4000000
/-! Mi115: an instance whose attributes hold dicts of its own, changed by its methods: what lies, what moves -/
namespace Mi
open PySem PySem.Spec L2
variable [Tb]
def isDct : D → Bool
  | .dct _ _ _ => true
  | _ => false
/-- the attributes: each dict is the instance's own -/
inductive Flds (K : PySem.W.Frag) (U : Addr → Prop) (H : Hp) : List D → List V → List (Option Addr) → Prop
  | nil : Flds K U H [] [] []
  | val {d : D} {v : V} {ds : List D} {vs : List V} {ws : List (Option Addr)} (hd : isDct d = false) (r : Rep K U H d v) (t : Flds K U H ds vs ws) : Flds K U H (d :: ds) (v :: vs) (none :: ws)
  | own {t : Bool} {ks : List Ky} {es : List D} {xs : List V} {b : Addr} {ds : List D} {vs : List V} {ws : List (Option Addr)} (h : DctAt H t ks xs b) (r : Reps K U H es xs) (q : Flds K U H ds vs ws) : Flds K U H (.dct t ks es :: ds) (.ref b :: vs) (some b :: ws)
def VA (a : Addr) (ws : List (Option Addr)) (x : Addr) : Prop := x = a ∨ some x ∈ ws
def VU (U : Addr → Prop) (a : Addr) (ws : List (Option Addr)) : Addr → Prop := fun x => U x ∨ VA a ws x
section
variable {K : PySem.W.Frag} {U U' : Addr → Prop} {H H' : Hp} {ds : List D} {vs : List V} {ws : List (Option Addr)}
theorem Flds.len (f : Flds K U H ds vs ws) : vs.length = ds.length ∧ ws.length = ds.length := by
  induction f with
  | nil => exact ⟨rfl, rfl⟩
  | val _ _ _ ih => simp [ih.1, ih.2]
  | own _ _ _ ih => simp [ih.1, ih.2]
theorem Flds.to (hk : ∀ a o, ¬ U a → HN H a o → HN H' a o) (hu : ∀ a o, ¬ U a → HN H a o → ¬ U' a) (f : Flds K U H ds vs ws) (ho : ∀ b o, some b ∈ ws → HN H b o → HN H' b o) : Flds K U' H' ds vs ws := by
  induction f with
  | nil => exact .nil
  | val hd r t ih => exact .val hd (Rep.to hk hu _ _ r) (ih fun b o m => ho b o (List.mem_cons_of_mem _ m))
  | own h r q ih => exact .own (h.to fun o z => ho _ o List.mem_cons_self z) (Reps.to hk hu _ _ r) (ih fun b o m => ho b o (List.mem_cons_of_mem _ m))
theorem Flds.at (f : Flds K U H ds vs ws) {b : Addr} (m : some b ∈ ws) : ∃ t ks xs, DctAt H t ks xs b := by
  induction f with
  | nil => cases m
  | val _ _ _ ih => exact ih (by simpa using m)
  | @own t ks es xs b' ds vs ws h r q ih =>
    rcases List.mem_cons.mp m with e | m
    · cases e; exact ⟨_, _, _, h⟩
    · exact ih m
end
structure VAt (K : PySem.W.Frag) (U : Addr → Prop) (H : Hp) (a : Addr) (ws : List (Option Addr)) (F : D) : Prop where
  ex : ∃ c ns ds dx xs, F = .obj c ns ds ∧ H a = some (.ins (He.ga K c) dx (ns.zip xs)) ∧ ns.length = xs.length ∧ Flds K U H ds xs ws
  nd : (ws.filterMap id).Nodup
section
variable {K : PySem.W.Frag} {U U' : Addr → Prop} {H H' : Hp} {a : Addr} {ws : List (Option Addr)} {F : D}
theorem VAt.to (hk : ∀ a o, ¬ U a → HN H a o → HN H' a o) (hu : ∀ a o, ¬ U a → HN H a o → ¬ U' a) (v : VAt K U H a ws F) (ho : ∀ b o, VA a ws b → HN H b o → HN H' b o) : VAt K U' H' a ws F := by
  obtain ⟨c, ns, ds, dx, xs, e, h, l, f⟩ := v.ex
  exact ⟨⟨c, ns, ds, dx, xs, e, (ho a _ (.inl rfl) ⟨h, nt_ins⟩).1, l, f.to hk hu fun b o m q => ho b o (.inr m) q⟩, v.nd⟩
end
/-! values made of tuples and lists alone -/
section
variable {K : PySem.W.Frag} {U U' : Addr → Prop} {H : Hp}
end
/-! ### a state with such an instance in slot i0 -/
abbrev hid (i0 : Nat) (env : En) : En := env.set i0 .un
structure VS (K : PySem.W.Frag) (U : Addr → Prop) (i0 : Nat) (a : Addr) (ws : List (Option Addr)) (env : En) (σ : St) (H : Hp) : Prop where
  sa : SA K (VU U a ws) (hid i0 env) σ H
  sl : σ[i0]? = some (some (V.ref a))
  ex : ∃ F, env[i0]? = some (.v F) ∧ VAt K (Ux (VU U a ws) (hid i0 env) σ) H a ws F
  dj : ∀ x, VA a ws x → ¬ U x
structure SteV (K : PySem.W.Frag) (U : Addr → Prop) (i0 : Nat) (a : Addr) (ws : List (Option Addr)) (env : En) (σ : St) (H : Hp) (ws' : List (Option Addr)) (env' : En) (σ' : St) (H' : Hp) : Prop where
  vs : VS K U i0 a ws' env' σ' H'
  gr : Gr (fun x => Chg (hid i0 env) σ x ∨ VA a ws x) H H'
  fr : ∀ x, (Chg (hid i0 env') σ' x ∨ VA a ws' x) → (Chg (hid i0 env) σ x ∨ VA a ws x) ∨ NoN H x
section
variable {K : PySem.W.Frag} {U : Addr → Prop} {i0 : Nat} {a : Addr} {ws ws' ws1 ws2 : List (Option Addr)} {env env' env1 env2 : En} {σ σ' σ1 σ2 : St} {H H' H1 H2 : Hp}
theorem SteV.refl (v : VS K U i0 a ws env σ H) : SteV K U i0 a ws env σ H ws env σ H := ⟨v, .refl, fun _ h => .inl h⟩
theorem hid_set {i : Nat} {s : Sl} (n : i ≠ i0) : hid i0 (env.set i s) = (hid i0 env).set i s := List.set_comm _ _ n
/-- a slot takes a value -/
theorem SteV.set {i : Nat} {d : D} {x : V} (v : VS K U i0 a ws env σ H) (n : i ≠ i0) (hi : i < env.length) (nio : ∀ o, env[i]? ≠ some (.io o)) (r : Rep K (Ux (VU U a ws) (hid i0 env) σ) H d x) :
    SteV K U i0 a ws env σ H ws (env.set i (.v d)) (σ.set i (some x)) H := by
  have st := Ste.set v.sa (i := i) (by rw [List.length_set]; exact hi) (fun o h => nio o (by rw [List.getElem?_set_ne (Ne.symm n)] at h; exact h)) r
  have st : Ste K (VU U a ws) (hid i0 env) σ H (hid i0 (env.set i (.v d))) (σ.set i (some x)) H := by rw [hid_set n]; exact st
  have sub : ∀ y, Ux (VU U a ws) (hid i0 (env.set i (.v d))) (σ.set i (some x)) y → ∀ o, HN H y o → Ux (VU U a ws) (hid i0 env) σ y := fun y q o ho => q.elim .inl fun c => (st.fr y c).elim .inr fun z => z.no ho
  obtain ⟨F, e, q⟩ := v.ex
  refine ⟨⟨st.sa, by rw [List.getElem?_set_ne n]; exact v.sl, ⟨F, by rw [List.getElem?_set_ne n]; exact e, q.to (fun _ _ _ h => h) (fun y o m h z => m (sub y z o h)) fun _ _ _ h => h⟩, v.dj⟩, .refl, fun y c => ?_⟩
  rcases c with c | c
  · exact (st.fr y c).imp .inl id
  · exact .inl (.inr c)
end
end Mi

set_option Elab.async false
set_option linter.all false
set_option maxRecDepth 100000
set_option maxHeartbeats 4000000
/-! Mi116: looking at such an instance; its statements -/
namespace Mi
open PySem PySem.Spec L2
variable [Tb]
section
variable {K : PySem.W.Frag} {W : WX} {U : Addr → Prop} {i0 : Nat} {a : Addr} {ws : List (Option Addr)} {env : En} {σ : St} {H : Hp}
end
/-! ### mirrors -/
section
variable {K : PySem.W.Frag} {U : Addr → Prop} {i0 : Nat} {a : Addr} {ws ws1 : List (Option Addr)} {env env1 : En} {σ σ1 : St} {H H1 : Hp}
end
section
variable {X : Cx} {W : WX} {i0 : Nat} {a : Addr} {st : Stmt} {rest : List Stmt} {m n : En → Rs Fl} {e c : Expr} {t : En → Rs Bool} {me : En → Rs D} {pos : Pos}
end
end Mi

set_option Elab.async false
set_option linter.all false
set_option maxRecDepth 100000
set_option maxHeartbeats 4000000
/-! Mi117: stores into the dicts of such an instance -/
namespace Mi
open PySem PySem.Spec L2
variable [Tb]
section
variable {K : PySem.W.Frag} {U : Addr → Prop} {H : Hp}
end
section
variable {K : PySem.W.Frag} {U : Addr → Prop} {i0 : Nat} {a : Addr} {ws : List (Option Addr)} {env : En} {σ : St} {H : Hp}
end
section
variable {X : Cx} {W : WX} {i0 : Nat} {a : Addr} {st : Stmt} {me mk : En → Rs D} {c f : Str}
end
end Mi

set_option Elab.async false
set_option linter.all false
set_option maxRecDepth 100000
set_option maxHeartbeats 4000000
/-! Mi118: self.f[k] op= e; self.f = a value, a new dict -/
namespace Mi
open PySem PySem.Spec L2
variable [Tb]
section
variable {X : Cx} {W : WX} {i0 : Nat} {a : Addr} {st : Stmt} {me mk : En → Rs D} {c f : Str} {o ke ve : Expr} {pos tpos : Pos} {aop : Operator} {op : Int → Int → Int} {rd : V → V → Hp → VK → Prop}
end
/-! ### attributes laid -/
section
variable {K : PySem.W.Frag} {U : Addr → Prop} {i0 : Nat} {a : Addr} {ws : List (Option Addr)} {env : En} {σ : St} {H : Hp}
end
section
variable {X : Cx} {W : WX} {i0 : Nat} {a : Addr} {me : En → Rs D} {mo : En → Rs Ob} {c f : Str} {o value : Expr} {pos pos' : Pos}
end
end Mi

set_option Elab.async false
set_option linter.all false
set_option maxRecDepth 100000
set_option maxHeartbeats 4000000
/-! Mi119: methods that change such an instance; an instance made, used, given up -/
namespace Mi
open PySem PySem.Spec L2
variable [Tb]
/-! ### the promise of a method whose first parameter is such an instance -/
section
variable {K : PySem.W.Frag} {U : Addr → Prop} {a : Addr} {ws ws' : List (Option Addr)} {args env' : En} {σ0 σ' : St} {H H' : Hp} {n : Nat}
end
/-! ### a call of such a method -/
section
variable {K : PySem.W.Frag} {U : Addr → Prop} {i0 : Nat} {a : Addr} {ws ws' : List (Option Addr)} {env args' : En} {σ : St} {H H' : Hp} {F d : D} {x : V}
end
section
variable {X : Cx} {W : WX} {k i0 : Nat} {a : Addr} {c nm : Str} {f : Addr} {fd : FuncData} {ps : List Str} {o e : Expr} {apos pos epos : Pos} {m me : En → Rs D}
end
end Mi

set_option Elab.async false
set_option linter.all false
set_option maxRecDepth 100000
set_option maxHeartbeats 4000000
/-! Mi120: a def that makes such an instance first, uses it and gives it up -/
namespace Mi
open PySem PySem.Spec L2
variable [Tb]
section
variable {X : Cx} {W : WX} {k : Nat} {c x : Str} {f : Addr} {fd : FuncData} {ps : List Str} {p pos : Pos} {e : Expr} {es : List Expr} {sp : Sp} {t : TA}
end
def noOb (env : En) : Prop := ∀ (i : Nat) (s : Sl) (o : Ob), env[i]? = some s → s.ob = some o → False
theorem noOb.set {env : En} {i : Nat} {s : Sl} (h : noOb env) (hs : s.ob = none) : noOb (env.set i s) := fun j t o h1 h2 => by
  by_cases e : i = j
  · subst e
    rw [List.getElem?_set] at h1
    split at h1
    · split at h1
      · cases h1; rw [hs] at h2; cases h2
      · cases h1
    · omega
  · rw [List.getElem?_set_ne e] at h1
    exact h j t o h1 h2
section
variable {K : PySem.W.Frag} {U : Addr → Prop} {env : En} {σ : St} {H H1 : Hp} {c : Str} {y dx : Addr} {ds : List D} {vs : List V}
end
end Mi

set_option Elab.async false
set_option linter.all false
set_option maxRecDepth 100000
set_option maxHeartbeats 4000000
/-! Mi121: range(a, b, c); the items of a dict whose keys are tuples, walked -/
namespace Mi
open PySem PySem.Spec L2 PyProof.Rows
variable [Tb]
/-! ### range(a, b, c) -/
/-! ### the items of a dict with tuple keys -/
section
variable {P : Program} {w : World} {K : PySem.W.Frag} {d : Addr} {o : Obj} {es : Array DictEntry} {ep : Nat}
end
end Mi

set_option Elab.async false
set_option linter.all false
set_option maxRecDepth 100000
set_option maxHeartbeats 4000000
/-! Mi122: comprehensions over x.f.values() and x.f.items(), x a value -/
namespace Mi
open PySem PySem.Spec L2
variable [Tb]
section
variable {K : PySem.W.Frag} {U : Addr → Prop} {d : Addr} {u : HO} {H H' : Hp}
end
/-! ### what is walked -/
section
variable {K : PySem.W.Frag} {W : WX} {j : Nat} {c f : Str} {σ : St} {H : Hp}
end
section
variable {X : Cx} {W : WX} {elt tg : Expr} {ifs elts : List Expr} {scope : Scope} {own : List (Str × Nat)} {pos p apos bpos cpos tpos : Pos} {x : Str} {j kk : Nat} {c f : Str} {is : List Nat} {mg : D → En → Option En} {mt : En → Rs Bool} {me : En → Rs D}
end
end Mi

set_option Elab.async false
set_option linter.all false
set_option maxRecDepth 100000
set_option maxHeartbeats 4000000
/-! Mi123: x = [..] beside such an instance; list(d) of an own dict whose keys are tuples -/
namespace Mi
open PySem PySem.Spec PyProof.Rows L2
variable [Tb]
section
variable {X : Cx} {W : WX} {elt tg iter : Expr} {ifs : List Expr} {scope : Scope} {own : List (Str × Nat)} {pos py spos : Pos} {y : Str} {i i0 : Nat} {a : Addr} {is : List Nat} {mi : En → Rs (List D)} {mg : D → En → Option En} {mt : En → Rs Bool} {me : En → Rs D}
end
/-! ### list(d), d an own dict with tuple keys -/
end Mi

set_option Elab.async false
set_option linter.all false
set_option maxRecDepth 100000
set_option maxHeartbeats 4000000
/-! Mi124: a tuple <= a tuple -/
namespace Mi
open PySem PySem.Spec PySem.Calls PySem.W PyProof.Rows L2
variable [Tb]
end Mi

set_option Elab.async false
set_option linter.all false
set_option maxRecDepth 100000
set_option maxHeartbeats 4000000
/-! Mi125: a list turned round, as a new list of one's own; a tuple as a key beside what is one's own -/
namespace Mi
open PySem PySem.Spec L2
variable [Tb]
section
variable {X : Cx} {W : WX} {a st : Expr} {m : En → Rs D} {ms : En → Rs (Option Int)} {pos p2 : Pos}
end
section
variable {X : Cx} {es : List Expr} {ms : En → Option (List D)} {k : Nat} {pos : Pos}
end
end Mi

set_option Elab.async false
set_option linter.all false
set_option maxRecDepth 100000
set_option maxHeartbeats 4000000
/-! Mi126: dict(list of pairs) whose keys are tuples, no two alike -/
namespace Mi
open PySem PySem.Spec PyProof.Rows L2
end Mi

set_option Elab.async false
set_option linter.all false
set_option maxRecDepth 100000
set_option maxHeartbeats 4000000
/-! Mi127: dict(list of pairs) whose keys are tuples, as a dict of one's own -/
namespace Mi
open PySem PySem.Spec PyProof.Rows L2
variable [Tb]
end Mi

set_option Elab.async false
set_option linter.all false
set_option maxRecDepth 100000
set_option maxHeartbeats 4000000
/-! Mi128: sorted(d) of a dict whose keys are tuples -/
namespace Mi
open PySem PySem.Spec PySem.Calls PySem.W PyProof.Rows L2
variable [Tb]
section
variable {X : Cx}
end
end Mi

set_option Elab.async false
set_option linter.all false
set_option maxRecDepth 100000
set_option maxHeartbeats 4000000
/-! Mi129: sorted(d), d an own dict whose keys are tuples -/
namespace Mi
open PySem PySem.Spec PyProof.Rows L2
variable [Tb]
section
variable {X : Cx} {W : WX} {i : Nat} {x : Str} {p pos : Pos} {e a : Expr}
end
end Mi

set_option Elab.async false
set_option linter.all false
set_option maxRecDepth 100000
set_option maxHeartbeats 4000000
/-! Mi130: len(set(x)), x a tuple or list of tuples of texts and whole numbers, no two alike -/
namespace Mi
open PySem PySem.Spec PySem.Calls PySem.W PyProof.Rows L2 Ts
variable [Tb]
section
variable {K : PySem.W.Frag} {U : Addr → Prop} {H : Hp}
end
section
variable {X : Cx}
variable {W : WX} {a : Expr} {m : En → Rs D} {p p2 q pos : Pos}
end
end Mi

set_option Elab.async false
set_option linter.all false
set_option maxRecDepth 100000
set_option maxHeartbeats 4000000
/-! Mi131: x in t for a tuple t whose items are of any depth -/
namespace Mi
open PySem PySem.Spec PyProof.Rows L2
variable [Tb]
section
variable {X : Cx}
end
section
variable {K : PySem.W.Frag}
end
end Mi

set_option Elab.async false
set_option linter.all false
set_option maxRecDepth 100000
set_option maxHeartbeats 4000000
/-! the defs of k08 keep their mirrors; printed by gen.py -/
namespace Lk08
open PySem PySem.Spec Mi L2
abbrev top (i : Nat) : Stmt := PySem.Challenge.pw_wishesrise_k08_whole_all_rising_lots.main.body.getD i (.Pass ⟨0, 0, 0, 0⟩)
abbrev s_law_draw : Stmt := top 24
abbrev s_law_marks : Stmt := top 26
abbrev s_is_name : Stmt := top 9
abbrev s_wrong_mark : Stmt := top 10
abbrev s_check_marks : Stmt := top 11
abbrev s_rising_lots : Stmt := top 19
abbrev s_all_rising : Stmt := top 21
abbrev s_law_one : Stmt := top 25
abbrev s_law_rows : Stmt := top 27
abbrev s_law_lot : Stmt := top 29
abbrev s_law_over : Stmt := top 28
abbrev s_law_risen : Stmt := top 30
abbrev s_is_row : Stmt := top 13
abbrev s_wrong_in_lot : Stmt := top 16
abbrev s_check_lot : Stmt := top 17
abbrev s_is_over : Stmt := top 14
abbrev s_all_rows : Stmt := top 12
abbrev s_lacking_row : Stmt := top 18
abbrev s_is_rising : Stmt := top 20
abbrev s_law_right : Stmt := top 31
abbrev s_law_bag : Stmt := top 23
abbrev s_law : Stmt := top 32
abbrev s_InvalidLot___init__ : Stmt := inClass (top 3) 0
abbrev d_InvalidLot___init__ : He.DefD := ⟨("InvalidLot", some "__init__"), "__init__", "InvalidLot.__init__", defArgs s_InvalidLot___init__, defBody s_InvalidLot___init__, defScope s_InvalidLot___init__, [], []⟩
abbrev s_InvalidMarks___init__ : Stmt := inClass (top 2) 0
abbrev d_InvalidMarks___init__ : He.DefD := ⟨("InvalidMarks", some "__init__"), "__init__", "InvalidMarks.__init__", defArgs s_InvalidMarks___init__, defBody s_InvalidMarks___init__, defScope s_InvalidMarks___init__, [], []⟩
abbrev d_law_draw : He.DefD := ⟨("_law_draw", none), "_law_draw", "_law_draw", defArgs s_law_draw, defBody s_law_draw, defScope s_law_draw, [], []⟩
abbrev d_law_marks : He.DefD := ⟨("_law_marks", none), "_law_marks", "_law_marks", defArgs s_law_marks, defBody s_law_marks, defScope s_law_marks, [], []⟩
abbrev d_is_name : He.DefD := ⟨("is_name", none), "is_name", "is_name", defArgs s_is_name, defBody s_is_name, defScope s_is_name, [], []⟩
abbrev d_wrong_mark : He.DefD := ⟨("wrong_mark", none), "wrong_mark", "wrong_mark", defArgs s_wrong_mark, defBody s_wrong_mark, defScope s_wrong_mark, [], []⟩
abbrev d_check_marks : He.DefD := ⟨("check_marks", none), "check_marks", "check_marks", defArgs s_check_marks, defBody s_check_marks, defScope s_check_marks, [], []⟩
abbrev d_rising_lots : He.DefD := ⟨("rising_lots", none), "rising_lots", "rising_lots", defArgs s_rising_lots, defBody s_rising_lots, defScope s_rising_lots, [], []⟩
abbrev d_all_rising : He.DefD := ⟨("all_rising", none), "all_rising", "all_rising", defArgs s_all_rising, defBody s_all_rising, defScope s_all_rising, [], []⟩
abbrev d_law_one : He.DefD := ⟨("_law_one", none), "_law_one", "_law_one", defArgs s_law_one, defBody s_law_one, defScope s_law_one, [], []⟩
abbrev d_law_rows : He.DefD := ⟨("_law_rows", none), "_law_rows", "_law_rows", defArgs s_law_rows, defBody s_law_rows, defScope s_law_rows, [], []⟩
abbrev d_law_lot : He.DefD := ⟨("_law_lot", none), "_law_lot", "_law_lot", defArgs s_law_lot, defBody s_law_lot, defScope s_law_lot, [], []⟩
abbrev d_law_over : He.DefD := ⟨("_law_over", none), "_law_over", "_law_over", defArgs s_law_over, defBody s_law_over, defScope s_law_over, [], []⟩
abbrev d_law_risen : He.DefD := ⟨("_law_risen", none), "_law_risen", "_law_risen", defArgs s_law_risen, defBody s_law_risen, defScope s_law_risen, [], []⟩
abbrev d_is_row : He.DefD := ⟨("is_row", none), "is_row", "is_row", defArgs s_is_row, defBody s_is_row, defScope s_is_row, [], []⟩
abbrev d_wrong_in_lot : He.DefD := ⟨("wrong_in_lot", none), "wrong_in_lot", "wrong_in_lot", defArgs s_wrong_in_lot, defBody s_wrong_in_lot, defScope s_wrong_in_lot, [], []⟩
abbrev d_check_lot : He.DefD := ⟨("check_lot", none), "check_lot", "check_lot", defArgs s_check_lot, defBody s_check_lot, defScope s_check_lot, [], []⟩
abbrev d_is_over : He.DefD := ⟨("is_over", none), "is_over", "is_over", defArgs s_is_over, defBody s_is_over, defScope s_is_over, [], []⟩
abbrev d_all_rows : He.DefD := ⟨("all_rows", none), "all_rows", "all_rows", defArgs s_all_rows, defBody s_all_rows, defScope s_all_rows, [], []⟩
abbrev d_lacking_row : He.DefD := ⟨("lacking_row", none), "lacking_row", "lacking_row", defArgs s_lacking_row, defBody s_lacking_row, defScope s_lacking_row, [], []⟩
abbrev d_is_rising : He.DefD := ⟨("is_rising", none), "is_rising", "is_rising", defArgs s_is_rising, defBody s_is_rising, defScope s_is_rising, [], []⟩
abbrev d_law_right : He.DefD := ⟨("_law_right", none), "_law_right", "_law_right", defArgs s_law_right, defBody s_law_right, defScope s_law_right, [], []⟩
abbrev d_law_bag : He.DefD := ⟨("_law_bag", none), "_law_bag", "_law_bag", defArgs s_law_bag, defBody s_law_bag, defScope s_law_bag, [], []⟩
abbrev d_law : He.DefD := ⟨("law", none), "law", "law", defArgs s_law, defBody s_law, defScope s_law, [], []⟩
abbrev fn : List He.DefD := [d_law_draw, d_law_marks, d_is_name, d_wrong_mark, d_check_marks, d_rising_lots, d_all_rising, d_law_one, d_law_rows, d_law_lot, d_law_over, d_law_risen, d_is_row, d_wrong_in_lot, d_check_lot, d_is_over, d_all_rows, d_lacking_row, d_is_rising, d_law_right, d_law_bag, d_law, d_InvalidLot___init__, d_InvalidMarks___init__]
abbrev tq : List (He.Defn × Str) := []
abbrev ps : List AtD := []
abbrev ex : PySem.W.Frag → Bool := fun K => kitsB K [] && xiB K "InvalidLot" "index" && xiB K "InvalidMarks" "index" && true
abbrev fa : List He.Fa := [.glo "_law_draw", .glo "_law_marks", .glo "is_name", .glo "wrong_mark", .glo "check_marks", .glo "rising_lots", .glo "all_rising", .glo "_law_one", .glo "_law_rows", .glo "_law_lot", .glo "_law_over", .glo "_law_risen", .glo "is_row", .glo "wrong_in_lot", .glo "check_lot", .glo "is_over", .glo "all_rows", .glo "lacking_row", .glo "is_rising", .glo "_law_right", .glo "_law_bag", .glo "law", .glo "InvalidLot", .glo "InvalidMarks", .free "abs", .free "all", .free "any", .free "enumerate", .free "int", .free "isinstance", .free "len", .free "list", .free "max", .free "min", .free "range", .free "set", .free "sorted", .free "str", .free "tuple", .free "zip", .int "MOST_MARKS" 4, .int "MOST_NAME" 8, .str "LETTERS" "abcdefghijklmnopqrstuvwxyz", .str "SIGNS" "01"]
end Lk08
set_option Elab.async false
set_option linter.all false
set_option maxRecDepth 100000
set_option maxHeartbeats 0
/-! the head of k08; printed by head.py -/
namespace Lk08
open PySem PySem.Spec PyProof.Rows Mi
abbrev R : PySem.W.OpenRow := PySem.W.OpenLaw.row PySem.Challenge.rw_wishesrise_k08_whole_all_rising_lots
abbrev hk : PySem.W.Hook := hookQ false 6 fa fn ps ex
def ob (s : PySem.W.SharedT) : AlP := obsQ false 6 fa fn ps ex (HandSHeadRun.getT s)
theorem ob_eq (s : PySem.W.SharedT) : ob s = hk.obs s.abs := letI : Mi.Tb := Mi.tb0; obsQ_eq (HandSHeadRun.getT_eq s)
def names : List PySem.Str := ([PySem.Str.ofString "ShapeError", PySem.Str.ofString "InvalidMarks", PySem.Str.ofString "InvalidLot", PySem.Str.ofString "MOST_NAME", PySem.Str.ofString "MOST_MARKS", PySem.Str.ofString "LETTERS", PySem.Str.ofString "SIGNS", PySem.Str.ofString "is_name", PySem.Str.ofString "wrong_mark", PySem.Str.ofString "check_marks", PySem.Str.ofString "all_rows", PySem.Str.ofString "is_row", PySem.Str.ofString "is_over", PySem.Str.ofString "wrong_in_lot", PySem.Str.ofString "check_lot", PySem.Str.ofString "lacking_row", PySem.Str.ofString "rising_lots", PySem.Str.ofString "is_rising", PySem.Str.ofString "all_rising", PySem.Str.ofString "_law_bag"] : List PySem.Str) ++ ([PySem.Str.ofString "_law_draw", PySem.Str.ofString "_law_one", PySem.Str.ofString "_law_marks", PySem.Str.ofString "_law_rows", PySem.Str.ofString "_law_over", PySem.Str.ofString "_law_lot", PySem.Str.ofString "_law_risen", PySem.Str.ofString "_law_right"] : List PySem.Str)
open HandSHeadRun PySem.W PySem.Calls in
theorem runA (w : World) (os : OsState) : (endF (stepQ (denQ tabQ) R.prog w) 20000 R.prog w os).map (fun s => looksF R.prog (boot_heap w.params) s.abs) = some (true) := by
  kernel_rfl
open HandSHeadRun PySem.W PySem.Calls in
theorem runB (w : World) (os : OsState) : (endF (stepQ (denQ tabQ) R.prog w) 20000 R.prog w os).map (fun s => seenQ (PySem.W.view R.prog [32]) names (importedModules R.prog.main.body) (fun s => xlAt (PySem.W.view R.prog [32]) [] s && recOk R.toRowW.records s) s.abs) = some (openGood (PySem.W.view R.prog [32]) names) := by
  kernel_rfl
open HandSHeadRun PySem.W PySem.Calls in
theorem run1a (w : World) (os : OsState) : (endF (stepQ (denQ tabQ) R.prog w) 20000 R.prog w os).map (fun s => (fa.take 22).all fun f => f.ok (He.frG (getT s) (asB false 6 (getT s)))) = some (true) := by
  kernel_rfl
open HandSHeadRun PySem.W PySem.Calls in
theorem run1b (w : World) (os : OsState) : (endF (stepQ (denQ tabQ) R.prog w) 20000 R.prog w os).map (fun s => (fa.drop 22).all fun f => f.ok (He.frG (getT s) (asB false 6 (getT s)))) = some (true) := by
  kernel_rfl
open HandSHeadRun PySem.W PySem.Calls in
theorem run1c (w : World) (os : OsState) : (endF (stepQ (denQ tabQ) R.prog w) 20000 R.prog w os).map (fun s => (fn.take 12).all fun d => d.ok (He.frG (getT s) (asB false 6 (getT s)))) = some (true) := by
  kernel_rfl
open HandSHeadRun PySem.W PySem.Calls in
theorem run1d (w : World) (os : OsState) : (endF (stepQ (denQ tabQ) R.prog w) 20000 R.prog w os).map (fun s => (fn.drop 12).all fun d => d.ok (He.frG (getT s) (asB false 6 (getT s)))) = some (true) := by
  kernel_rfl
open HandSHeadRun PySem.W PySem.Calls in
theorem run2 (w : World) (os : OsState) : (endF (stepQ (denQ tabQ) R.prog w) 20000 R.prog w os).map (fun s => (fn.take 12).map fun d => He.fnW (He.frG (getT s) (asB false 6 (getT s))) d.at_) = some ((fn.take 12).map He.DefD.val) := by
  kernel_rfl
open HandSHeadRun PySem.W PySem.Calls in
theorem run3 (w : World) (os : OsState) : (endF (stepQ (denQ tabQ) R.prog w) 20000 R.prog w os).map (fun s => (fn.drop 12).map fun d => He.fnW (He.frG (getT s) (asB false 6 (getT s))) d.at_) = some ((fn.drop 12).map He.DefD.val) := by
  kernel_rfl
open HandSHeadRun PySem.W PySem.Calls in
theorem run4 (w : World) (os : OsState) : (endF (stepQ (denQ tabQ) R.prog w) 20000 R.prog w os).map (fun s => (ps.all fun p => p.ok (He.frG (getT s) (asB false 6 (getT s)))) && ex (He.frG (getT s) (asB false 6 (getT s)))) = some (true) := by
  kernel_rfl
open HandSHeadRun PySem.W PySem.Calls in
theorem run5 (w : World) (os : OsState) : (endF (stepQ (denQ tabQ) R.prog w) 20000 R.prog w os).map (fun s => ps.map fun p => fnWA (He.frG (getT s) (asB false 6 (getT s))) (p.at_ (He.frG (getT s) (asB false 6 (getT s))))) = some (ps.map fun p => p.d.val) := by
  kernel_rfl
theorem run (w : World) : HandSHeadRun.RunEq R (PySem.W.view R.prog [32]) hk ob 20000 names w := fun os => (joinP 12 22 (runA w os) (runB w os) (run1a w os) (run1b w os) (run1c w os) (run1d w os) (run2 w os) (run3 w os) (run4 w os) (run5 w os))
end Lk08

set_option linter.all false
set_option maxRecDepth 100000
/-! Ts1: a set's table of up to 512 slots: the way of a search meets each slot. -/
namespace Ts
open PySem PySem.Spec PyProof.Rows L2
/-- the slots that so many steps meet, as bits -/
def bitsI (m : Nat) : Nat → Nat → Nat → Nat
  | 0, _, acc => acc
  | f + 1, c, acc => bitsI m f ((c * 5 + 1) % (m + 1)) (acc ||| 2 ^ c)
theorem lcgI_next (m c : Nat) : ∀ k, lcgI m ((c * 5 + 1) % (m + 1)) k = lcgI m c (k + 1)
  | 0 => rfl
  | k + 1 => by
    show (lcgI m ((c * 5 + 1) % (m + 1)) k * 5 + 1) % (m + 1) = (lcgI m c (k + 1) * 5 + 1) % (m + 1)
    rw [lcgI_next m c k]
theorem bitsI_sound (m j : Nat) : ∀ f c acc, (bitsI m f c acc).testBit j = true → acc.testBit j = true ∨ ∃ k, k < f ∧ lcgI m c k = j
  | 0, _, _, h => .inl h
  | f + 1, c, acc, h => by
    rcases bitsI_sound m j f _ _ h with h | ⟨k, hk, e⟩
    · rw [Nat.testBit_or, Nat.testBit_two_pow] at h
      simp at h
      rcases h with h | h
      · exact .inl h
      · exact .inr ⟨0, Nat.succ_pos f, h⟩
    · exact .inr ⟨k + 1, Nat.succ_lt_succ hk, by rw [← lcgI_next]; exact e⟩
theorem cover511 : bitsI 511 512 0 0 = 2 ^ 512 - 1 := by decide +kernel
theorem round511 : lcgI 511 0 512 = 0 := by decide +kernel
theorem lcgI_add (m i a : Nat) : ∀ k, lcgI m (lcgI m i a) k = lcgI m i (a + k)
  | 0 => rfl
  | k + 1 => by
    show (lcgI m (lcgI m i a) k * 5 + 1) % (m + 1) = (lcgI m i (a + k) * 5 + 1) % (m + 1)
    rw [lcgI_add m i a k]
theorem full_511 : Full 511 where
  all := fun {i j} hi hj => by
    have at0 : ∀ j, j ≤ 511 → ∃ k, k ≤ 511 ∧ lcgI 511 0 k = j := fun j hj => by
      have h : (bitsI 511 512 0 0).testBit j = true := by
        rw [cover511, Nat.testBit_two_pow_sub_one]
        exact decide_eq_true (by omega)
      rcases bitsI_sound 511 j 512 0 0 h with h | ⟨k, hk, e⟩
      · simp at h
      · exact ⟨k, by omega, e⟩
    obtain ⟨a, ha, ea⟩ := at0 i hi
    obtain ⟨b, hb, eb⟩ := at0 j hj
    rw [← ea]
    rcases Nat.lt_or_ge b a with c | c
    · refine ⟨512 - a + b, by omega, ?_⟩
      rw [lcgI_add, show a + (512 - a + b) = 512 + b by omega, ← lcgI_add, round511, eb]
    · refine ⟨b - a, by omega, ?_⟩
      rw [lcgI_add, show a + (b - a) = b by omega, eb]
  odd := rfl
  bd := Nat.le_refl _
theorem full_of {m : Nat} (h : MaskOk m) : Full m where
  all := fun hi hj => lcgI_all h hi hj
  odd := mask_odd h
  bd := by rcases h with e | e | e <;> omega
theorem way_in {m : Nat} {h : Int} {k : Nat} : way m h k ≤ m := by
  have hi : SetTable.bits h % (m + 1) ≤ m := Nat.le_of_lt_succ (Nat.mod_lt _ (Nat.succ_pos _))
  have r := runEnd_bd hi
  have q := nth_in (m := m) k (runAt m (SetTable.bits h % (m + 1)) (SetTable.bits h)) (by
    show SetTable.bits h % (m + 1) + (SetTable.runEnd m (SetTable.bits h % (m + 1)) - SetTable.bits h % (m + 1)) ≤ m
    omega)
  show (nth m (runAt m (SetTable.bits h % (m + 1)) (SetTable.bits h)) k).j ≤ m
  omega
theorem Full.meets {m : Nat} (F : Full m) (h : Int) {j : Nat} (hj : j ≤ m) : ∃ k, k < 10 * SetTable.turns m ∧ way m h k = j := by
  obtain ⟨n, hn, e⟩ := F.run h hj
  obtain ⟨k, hk, e2⟩ := run_nth m (SetTable.bits h) n
  exact ⟨k, by unfold SetTable.turns; omega, by show (nth _ _ _).j = j; rw [e2]; exact e⟩
end Ts

set_option linter.all false
set_option maxRecDepth 100000
/-! Ts2: a table in which each entry is found again from its hash; one more put in. -/
namespace Ts
open PySem PySem.Spec PyProof.Rows L2
theorem Tab.first {t : SetTable} {hs : List Int} (T : Tab t hs) (hl : hs.length ≤ t.mask) (h : Int) : ∃ K, K < 10 * SetTable.turns t.mask ∧ way t.mask h K ∉ t.place.toList ∧ ∀ k, k < K → way t.mask h k ∈ t.place.toList := by
  obtain ⟨j, hj, hn⟩ := st_missing t.place.toList (t.mask + 1) (by have := T.sz; omega)
  obtain ⟨k, hk, e⟩ := T.full.meets h (Nat.le_of_lt_succ hj)
  obtain ⟨K, h1, h2, h3⟩ := st_least (p := fun k => way t.mask h k ∉ t.place.toList) k (by show way t.mask h k ∉ _; rw [e]; exact hn)
  exact ⟨K, Nat.lt_of_le_of_lt h1 hk, h2, fun k' hk' => Classical.not_not.mp (h3 k' hk')⟩
theorem Tab.before {t : SetTable} {hs : List Int} (T : Tab t hs) {h : Int} {K i j : Nat} (hK : way t.mask h K ∉ t.place.toList) (hi : hs[i]? = some h) (hj : t.place.toList[i]? = some j) : ∃ k, k < K ∧ way t.mask h k = j := by
  obtain ⟨k, e, hb⟩ := T.reach i h j hi hj
  refine ⟨k, Classical.byContradiction fun c => ?_, e⟩
  rcases Nat.eq_or_lt_of_le (Nat.le_of_not_lt c) with c | c
  · rw [c, e] at hK
    exact hK (List.mem_of_getElem? hj)
  · exact hK (hb K c)
theorem Tab.put {t : SetTable} {hs : List Int} (T : Tab t hs) {h : Int} {K : Nat} (hK : way t.mask h K ∉ t.place.toList) (hb : ∀ k, k < K → way t.mask h k ∈ t.place.toList) {p : Nat} (hp : p = SetTable.below t.place (way t.mask h K)) :
    p ≤ hs.length ∧ Tab (t.put (way t.mask h K)).1 (hs.take p ++ h :: hs.drop p) ∧ (t.put (way t.mask h K)).1.fill = hs.length + 1 := by
  obtain ⟨j, hj⟩ : ∃ j, j = way t.mask h K := ⟨_, rfl⟩
  have hjm : j ≤ t.mask := hj ▸ way_in
  rw [← hj] at hK hp ⊢
  have pp : (t.put j).1.place.toList = t.place.toList.take p ++ j :: t.place.toList.drop p := hp ▸ put_place t j
  have c1 : p ≤ t.place.toList.length := hp ▸ (below_cut T.ris j).1
  have hl : p ≤ hs.length := T.sz ▸ c1
  have hnp : t.place[SetTable.below t.place j]? ≠ some j := fun e => hK (List.mem_of_getElem? (by rw [Array.getElem?_toList]; exact e))
  have up : ∀ {x : Nat}, x ∈ t.place.toList → x ∈ (t.put j).1.place.toList := fun {x} hx => pp ▸ mem_ins.2 (.inr hx)
  have len : (t.put j).1.place.toList.length = hs.length + 1 := by rw [pp, len_ins _ c1, T.sz]
  refine ⟨hl, { ris := ris_insert T.ris hnp, dm := put_dm T.dm j, sz := by rw [len, len_ins _ hl], full := T.full, bd := fun x hx => ?_, reach := fun i h' j' h1 h2 => ?_ }, ?_⟩
  · rw [pp] at hx
    rcases mem_ins.1 hx with rfl | z
    · exact hjm
    · exact T.bd x z
  · rw [tins_get hs hl] at h1
    rw [pp, tins_get _ c1] at h2
    show ∃ k, way t.mask h' k = j' ∧ ∀ k', k' < k → way t.mask h' k' ∈ (t.put j).1.place.toList
    have old : ∀ i, hs[i]? = some h' → t.place.toList[i]? = some j' → ∃ k, way t.mask h' k = j' ∧ ∀ k', k' < k → way t.mask h' k' ∈ (t.put j).1.place.toList := fun i h1 h2 => by
      obtain ⟨k, e, z⟩ := T.reach i h' j' h1 h2
      exact ⟨k, e, fun k' hk' => up (z k' hk')⟩
    by_cases c : i < p
    · rw [if_pos c] at h1 h2
      exact old i h1 h2
    · rw [if_neg c] at h1 h2
      by_cases d : i = p
      · rw [if_pos d] at h1 h2
        obtain rfl := Option.some.inj h1
        obtain rfl := Option.some.inj h2
        exact ⟨K, hj.symm, fun k' hk' => up (hb k' hk')⟩
      · rw [if_neg d] at h1 h2
        exact old (i - 1) h1 h2
  · show (t.put j).1.place.size + (t.put j).1.dummies.size = hs.length + 1
    rw [← Array.length_toList, len, put_dm T.dm j] <;> rfl
/-! ### laying anew -/
theorem Laid.init (m : Nat) : Laid m [] (Array.replicate (m + 1) none) where
  sz := by simp
  at_ := fun j k hj e => by
    rw [oAt_init hj] at e
    cases e
  all := fun k hk => absurd hk (Nat.not_lt_zero _)
  ps := ⟨[], rfl, fun j hj e => absurd (oAt_init hj) e⟩
theorem Laid.step {m : Nat} (F : Full m) {done : List Int} {owner : Array (Option Nat)} (W : Laid m done owner) (hl : done.length ≤ m) (h : Int) :
    ∃ j, SetTable.layClean.free m owner (SetTable.turns m) (SetTable.bits h % (m + 1)) (SetTable.bits h) = some j ∧ Laid m (done ++ [h]) (owner.setIfInBounds j (some done.length)) := by
  obtain ⟨ps, hps, hin⟩ := W.ps
  obtain ⟨j0, h0, hn0⟩ := st_missing ps (m + 1) (by omega)
  have hj0 : oAt owner j0 = none := Classical.byContradiction fun z => hn0 (hin j0 (Nat.le_of_lt_succ h0) z)
  obtain ⟨K, e1, e2, e3⟩ := F.free owner h (Nat.le_of_lt_succ h0) hj0
  obtain ⟨J, hJ⟩ : ∃ J, J = way m h K := ⟨_, rfl⟩
  have hJm : J ≤ m := hJ ▸ way_in
  rw [← hJ] at e1 e2
  have self := oAt_set_self (owner := owner) (some done.length) (j := J) (by rw [W.sz]; omega)
  have mono : ∀ {i : Nat}, oAt owner i ≠ none → oAt (owner.setIfInBounds J (some done.length)) i ≠ none := fun {i} hi => by
    by_cases c : i = J
    · rw [c, self]
      exact fun e => nomatch e
    · rw [oAt_set_ne _ c]
      exact hi
  refine ⟨J, e1, { sz := by rw [Array.size_setIfInBounds]; exact W.sz, at_ := fun j k hj e => ?_, all := fun k hk => ?_, ps := ⟨J :: ps, by simp [hps], fun j hj e => ?_⟩ }⟩
  · by_cases c : j = J
    · rw [c, self] at e
      obtain rfl := Option.some.inj e
      exact ⟨h, K, by simp, by rw [c, hJ], fun k' hk' => mono (e3 k' hk')⟩
    · rw [oAt_set_ne _ c] at e
      obtain ⟨h', K', a1, a2, a3⟩ := W.at_ j k hj e
      refine ⟨h', K', ?_, a2, fun k' hk' => mono (a3 k' hk')⟩
      rw [List.getElem?_append_left (List.getElem?_eq_some_iff.mp a1).1]
      exact a1
  · rw [List.length_append, List.length_singleton] at hk
    by_cases c : k < done.length
    · obtain ⟨j, hj, e⟩ := W.all k c
      refine ⟨j, hj, ?_⟩
      rw [oAt_set_ne _ (fun z => by rw [z, e2] at e; cases e)]
      exact e
    · obtain rfl : k = done.length := by omega
      exact ⟨J, hJm, self⟩
  · by_cases c : j = J
    · exact c ▸ List.mem_cons_self
    · rw [oAt_set_ne _ c] at e
      exact List.mem_cons_of_mem _ (hin j hj e)
theorem lay_fold {m : Nat} (F : Full m) : ∀ (rest done : List Int) (owner : Array (Option Nat)), Laid m done owner → done.length + rest.length ≤ m →
    ∃ owner', rest.foldl (stepF m) (some (owner, done.length)) = some (owner', (done ++ rest).length) ∧ Laid m (done ++ rest) owner'
  | [], done, owner, W, _ => ⟨owner, by simp, by simpa using W⟩
  | h :: rest, done, owner, W, hl => by
    rw [List.length_cons] at hl
    obtain ⟨j, e, W'⟩ := W.step F (by omega) h
    obtain ⟨owner', f, W2⟩ := lay_fold F rest (done ++ [h]) _ W' (by simp; omega)
    rw [show done ++ [h] ++ rest = done ++ h :: rest by simp] at f W2
    refine ⟨owner', ?_, W2⟩
    rw [List.foldl_cons, stepF_some e, show done.length + 1 = (done ++ [h]).length by simp]
    exact f
theorem lay_ok {m : Nat} (F : Full m) {hs : Array Int} (hn : hs.size ≤ m) : ∃ owner, SetTable.layClean m hs = some owner ∧ Laid m hs.toList owner := by
  obtain ⟨owner, f, W⟩ := lay_fold F hs.toList [] _ (Laid.init m) (by rw [Array.length_toList]; show 0 + hs.size ≤ m; omega)
  refine ⟨owner, ?_, by simpa using W⟩
  rw [layClean_eq]
  have f' : hs.toList.foldl (stepF m) (some (Array.replicate (m + 1) none, 0)) = some (owner, ([] ++ hs.toList).length) := f
  rw [f'] <;> rfl
theorem relay_tab (t : SetTable) {hs : Array Int} {wanted M : Nat} (hw : SetTable.sizeAbove wanted - 1 = M) (F : Full M) (hn : hs.size ≤ M) :
    ∃ t' order, t.relaid hs wanted = some (t', order) ∧ order.toList.Perm (List.range hs.size) ∧ Tab t' (order.toList.map fun i => hs.getD i 0) ∧ t'.mask = M ∧ t'.led = t.led ∧ t'.plain = t.plain := by
  obtain ⟨owner, e, W⟩ := lay_ok F hn
  have hr : t.relaid hs wanted = some (tabOf t M owner, ((liveOf M owner).map (·.2)).toArray) := by
    rw [relaid_eq, hw, e] <;> rfl
  have ris := ris_live (fun j => owner.getD j none) (List.range (M + 1)) (by
    unfold Ris
    first | exact List.pairwise_lt_range | exact List.pairwise_lt_range _)
  have r1 : Ris ((liveOf M owner).map (·.1)) := ris.1
  have r2 : ∀ x ∈ (liveOf M owner).map (·.1), x ∈ List.range (M + 1) := ris.2
  have hin : ∀ k, k < hs.size → k ∈ (liveOf M owner).map (·.2) := fun k hk => by
    obtain ⟨j, b1, b2⟩ := W.all k (by rw [Array.length_toList]; exact hk)
    exact List.mem_map.mpr ⟨(j, k), (mem_live W.sz).2 ⟨b1, b2⟩, rfl⟩
  have hlen : (liveOf M owner).length = hs.size := by
    obtain ⟨ps, p1, p2⟩ := W.ps
    have nd1 : ((liveOf M owner).map (·.1)).Nodup := List.Pairwise.imp (fun h => Nat.ne_of_lt h) r1
    have a := nat_nodup_len ((liveOf M owner).map (·.1)) ps nd1 fun x hx => by
      obtain ⟨⟨y, k⟩, hq, rfl⟩ := List.mem_map.mp hx
      obtain ⟨b1, b2⟩ := (mem_live W.sz).1 hq
      exact p2 y b1 (by rw [b2]; exact fun z => nomatch z)
    have b := nat_nodup_len (List.range hs.size) ((liveOf M owner).map (·.2)) List.nodup_range fun k hk => hin k (List.mem_range.mp hk)
    have hz : hs.toList.length = hs.size := rfl
    rw [List.length_map, p1] at a
    rw [List.length_map, List.length_range] at b
    omega
  refine ⟨tabOf t M owner, ((liveOf M owner).map (·.2)).toArray, hr, perm_range hs.size _ (by show ((liveOf M owner).map (·.2)).length = _; rw [List.length_map]; exact hlen) hin,
    { ris := r1, dm := rfl, sz := ?_, full := F, bd := fun x hx => Nat.le_of_lt_succ (List.mem_range.mp (r2 x hx)), reach := fun i h j h1 h2 => ?_ }, rfl, rfl, rfl⟩
  · show ((liveOf M owner).map (·.1)).length = _
    simp
  · have h1' : (((liveOf M owner).map (·.2)).map fun i => hs.getD i 0)[i]? = some h := h1
    have h2' : ((liveOf M owner).map (·.1))[i]? = some j := h2
    rw [List.getElem?_map, List.getElem?_map] at h1'
    rw [List.getElem?_map] at h2'
    cases hq : (liveOf M owner)[i]? with
    | none =>
      rw [hq] at h2'
      cases h2'
    | some q =>
      obtain ⟨y, k⟩ := q
      rw [hq] at h1' h2'
      obtain rfl : y = j := Option.some.inj h2'
      have eh : hs.getD k 0 = h := Option.some.inj h1'
      obtain ⟨b1, b2⟩ := (mem_live W.sz).1 (List.mem_of_getElem? hq)
      obtain ⟨h0, K, a1, a2, a3⟩ := W.at_ y k b1 b2
      have e0 : hs.getD k 0 = h0 := by
        rw [Array.getD_eq_getD_getElem?, ← Array.getElem?_toList, a1] <;> rfl
      obtain rfl : h0 = h := e0.symm.trans eh
      refine ⟨K, a2, fun k' hk' => ?_⟩
      show way M h0 k' ∈ (liveOf M owner).map (·.1)
      cases z : oAt owner (way M h0 k') with
      | none => exact absurd z (a3 k' hk')
      | some k2 => exact List.mem_map.mpr ⟨(way M h0 k', k2), (mem_live W.sz).2 ⟨way_in, z⟩, rfl⟩
theorem size_306 : SetTable.sizeAbove (SetTable.grown 77) = 512 := by decide +kernel
end Ts

set_option linter.all false
set_option maxRecDepth 100000
/-! Ts3: sets of tuples of texts and whole numbers: the search. -/
namespace Ts
open PySem PySem.Spec PyProof.Rows L2
section
variable {P : Program} {w : World} {A : Around} {E : Value → Shared → Prop} {s : Shared}
theorem items_mix {k : List Key} {vs : List Value} (h : ItemsAre (mixKind P w) k vs) : ∀ v ∈ vs, (∃ i t, v = Value.int i t) ∨ ∃ x t, v = Value.str x t := by
  induction h with
  | nil => intro v hv; cases hv
  | @cons k0 v' ks vs h1 _ ih =>
    intro v hv
    rcases List.mem_cons.mp hv with rfl | hv
    · rw [mixKind_is] at h1
      cases k0 with
      | inl i =>
        obtain ⟨t, rfl⟩ := Value.isInt_shape (k := i) h1
        exact .inl ⟨_, _, rfl⟩
      | inr x =>
        obtain ⟨t, rfl⟩ := Value.isStrOf_shape (x := x) h1
        exact .inr ⟨_, _, rfl⟩
    · exact ih v hv
theorem cls_mix (n : Nat) {v : Value} (h : (∃ i t, v = Value.int i t) ∨ ∃ x t, v = Value.str x t) : ofAClassStatement n v = pure false := by
  rcases h with ⟨i, t, rfl⟩ | ⟨i, t, rfl⟩ <;> cases n <;> rfl
theorem hby_mix (n : Nat) {v : Value} (h : (∃ i t, v = Value.int i t) ∨ ∃ x t, v = Value.str x t) : ∃ b, hashByValue n v = pure b := by
  rcases h with ⟨i, t, rfl⟩ | ⟨i, t, rfl⟩ <;> exact ⟨_, hashByValue_scannable n rfl⟩
theorem cls_tup {k : List Key} {b : Addr} {Q : Bool → Shared → Prop} (hk : IsX P w s.heap k b) (h : Q false s) : wpAny (model P w) A (ofAClassStatement 8 (.ref b)) Q E s := by
  have hT := hk.typeIs
  obtain ⟨o, items, n, ho, _, hd, hi⟩ := hk
  unfold ofAClassStatement
  refine wpAny_bind (wpAny_typeOf hT ?_)
  dsimp only
  have e : (("tuple" : String) == "tuple") = true := by decide
  simp only [e, if_true, Bool.not_true, Bool.false_eq_true, if_false]
  try refine wpAny_bind (wpAny_pure ?_)
  try simp only [Bool.not_true, Bool.false_eq_true, if_false]
  show wpAny _ _ (seqItems? (.ref b) >>= _) _ _ s
  refine wpAny_bind (wpAny_seqItems ho hd ?_)
  dsimp only
  refine wpAny_bind ?_
  show wpAny _ _ (forIn items _ _) _ _ s
  rw [← Array.forIn_toList]
  refine wpAny_forIn_list _ (fun rest r s' => r.1 = none ∧ s' = s ∧ ∀ v ∈ rest, (∃ i t, v = Value.int i t) ∨ ∃ x t, v = Value.str x t) _ ?_ ?_ _ _ ⟨rfl, rfl, items_mix hi⟩
  · rintro v rest r s' ⟨hr, rfl, hall⟩
    rw [cls_mix _ (hall v List.mem_cons_self)]
    refine wpAny_bind (wpAny_pure ?_)
    simp only [Bool.false_eq_true, if_false]
    exact wpAny_pure ⟨rfl, rfl, fun u hu' => hall u (List.mem_cons_of_mem _ hu')⟩
  · rintro ⟨r1, r2⟩ s' ⟨hr, rfl, _⟩
    simp only at hr
    subst hr
    exact wpAny_pure h
theorem hby_tup {k : List Key} {b : Addr} {Q : Bool → Shared → Prop} (hk : IsX P w s.heap k b) (h : ∀ y, Q y s) : wpAny (model P w) A (hashByValue 8 (.ref b)) Q E s := by
  have hT := hk.typeIs
  obtain ⟨o, items, n, ho, _, hd, hi⟩ := hk
  unfold hashByValue
  refine wpAny_bind (wpAny_specialOf hT F.slot_tuple_hash.lookup ?_)
  show wpAny _ _ (seqItems? (.ref b) >>= _) _ _ s
  refine wpAny_bind (wpAny_seqItems ho hd ?_)
  refine wpAny_bind ?_
  show wpAny _ _ (forIn items _ _) _ _ s
  rw [← Array.forIn_toList]
  refine wpAny_forIn_list _ (fun rest r s' => s' = s ∧ ∀ v ∈ rest, (∃ i t, v = Value.int i t) ∨ ∃ x t, v = Value.str x t) _ ?_ ?_ _ _ ⟨rfl, items_mix hi⟩
  · rintro v rest r s' ⟨rfl, hall⟩
    obtain ⟨y, hy⟩ := hby_mix 7 (hall v List.mem_cons_self)
    rw [hy]
    refine wpAny_bind (wpAny_pure ?_)
    cases y with
    | true =>
      simp only [Bool.not_true, Bool.false_eq_true, if_false]
      exact wpAny_pure ⟨rfl, fun u hu' => hall u (List.mem_cons_of_mem _ hu')⟩
    | false =>
      simp only [Bool.not_false, if_true]
      exact wpAny_pure (wpAny_pure (h _))
  · rintro ⟨r1, r2⟩ s' ⟨rfl, _⟩
    cases r1 with
    | none => exact wpAny_pure (h _)
    | some y => exact wpAny_pure (h _)
theorem seen_x {k : List Key} {b : Addr} {Q : Bool → Shared → Prop} (hk : IsX P w s.heap k b) {ys : List Value} (hy : ∀ y ∈ ys, ∃ k' c, y = Value.ref c ∧ IsX P w s.heap k' c) (h : Q false s) :
    wpAny (model P w) A (searchCouldBeSeen (.ref b) ys) Q E s := by
  unfold searchCouldBeSeen
  refine wpAny_bind ?_
  refine wpAny_forIn_list _ (fun rest r s' => r.1 = none ∧ s' = s ∧ ∀ y ∈ rest, ∃ k' c, y = Value.ref c ∧ IsX P w s.heap k' c) _ ?_ ?_ _ _ ⟨rfl, rfl, hy⟩
  · rintro v rest r s' ⟨hr, rfl, hall⟩
    obtain ⟨k', c, rfl, hc⟩ := hall v List.mem_cons_self
    have rest' : ∀ y ∈ rest, ∃ k' c, y = Value.ref c ∧ IsX P w s'.heap k' c := fun u hu' => hall u (List.mem_cons_of_mem _ hu')
    dsimp only
    by_cases hv : (b == c || (carriedByValue (.ref b) && carriedByValue (.ref c))) = true
    · refine wp_if_pos hv ?_
      exact wpAny_pure ⟨rfl, rfl, rest'⟩
    · refine wp_if_neg hv ?_
      refine wpAny_bind (wpAny_eqIsQuiet_tuple hk ?_)
      simp only [Bool.not_true, Bool.false_eq_true, if_false]
      refine wpAny_bind (wpAny_eqIsQuiet_tuple hc ?_)
      simp only [Bool.not_true, Bool.false_eq_true, if_false]
      refine wpAny_bind (cls_tup hk ?_)
      simp only [Bool.false_eq_true, if_false]
      refine wpAny_bind (cls_tup hc ?_)
      simp only [Bool.false_eq_true, if_false]
      exact wpAny_pure ⟨rfl, rfl, rest'⟩
  · rintro ⟨r1, r2⟩ s' ⟨hr, rfl, _⟩
    simp only at hr
    subst hr
    exact wpAny_pure h
variable {a : Addr} {L : Rw} {es : Array (Int × Value)} {ep : Nat} {t : SetTable}
theorem rows_size (h : es.toList = rowsX P w L) : es.size = L.length := by
  have h := congrArg List.length h
  unfold rowsX at h
  rw [List.length_map] at h
  exact h
theorem rows_entry (h : es.toList = rowsX P w L) {i : Nat} {p : Addr × List Key} (hi : L[i]? = some p) : es[i]? = some (xhash P w p.2, Value.ref p.1) := by
  rw [← Array.getElem?_toList, h]
  unfold rowsX
  rw [List.getElem?_map, hi] <;> rfl
theorem SetX.fits (R : SetX P w s.heap a L es ep t) : t.fits es.size = true := by
  have h1 : t.place.size = L.length := by
    have := R.tab.sz
    rw [List.length_map] at this
    exact this
  have h2 := rows_size R.rows
  have h3 := R.room
  unfold SetTable.fits SetTable.fill
  rw [R.tab.dm, Bool.and_eq_true, beq_iff_eq, decide_eq_true_eq]
  show t.place.size = es.size ∧ t.place.size + 0 ≤ t.mask
  omega
theorem SetX.gw (R : SetX P w s.heap a L es ep t) : ¬ t.gaveWay = true := by
  unfold SetTable.gaveWay
  rw [R.tab.full.odd]
  decide
/-- the state of the search at its c-th step -/
def sta (t : SetTable) (h : Int) (c : Nat) : SetTable.Probe := nth t.mask (runAt t.mask (SetTable.bits h % (t.mask + 1)) (SetTable.bits h)) c
theorem sta_j (t : SetTable) (h : Int) (c : Nat) : (sta t h c).j = way t.mask h c := rfl
theorem sta_add (t : SetTable) (h : Int) (c q : Nat) : nth t.mask (sta t h c) q = sta t h (c + q) := (nth_add t.mask c _ q).symm
theorem nth_dummy (m : Nat) : ∀ (n : Nat) (p : SetTable.Probe), p.dummy = none → (nth m p n).dummy = none
  | 0, _, h => h
  | n + 1, p, h => nth_dummy m n (adv m p) (by unfold adv; split <;> exact h)
theorem sta_dummy (t : SetTable) (h : Int) (c : Nat) : (sta t h c).dummy = none := nth_dummy _ c _ rfl
theorem search_x (R : SetX P w s.heap a L es ep t) {x : Addr} {k : List Key} (hx : IsX P w s.heap k x) (hu : A.units < cLine) {h : Int} (hh : h = xhash P w k) {K : Nat} (hKf : K < 10 * SetTable.turns t.mask)
    (hK : way t.mask h K ∉ t.place.toList) (hKb : ∀ c, c < K → way t.mask h c ∈ t.place.toList) {Q : SetFound → Shared → Prop}
    (hin : k ∈ L.map (·.2) → Q (.there none) s) (hout : k ∉ L.map (·.2) → Q (.free (way t.mask h K) false) s) :
    ∀ (f c : Nat) (stand : Option SetTable.Probe), stand.getD (t.probeStart h) = sta t h c → c ≤ K → K - c < f →
      (∀ (i : Nat) p, L[i]? = some p → p.2 = k → ∃ c', c ≤ c' ∧ c' < K ∧ t.place.toList[i]? = some (way t.mask h c')) →
      wpAny (model P w) A (setSearchFrom a (.ref x) h true f stand) Q E s
  | 0, c, stand, _, _, hf, _ => absurd hf (Nat.not_lt_zero _)
  | f + 1, c, stand, hst, hc, hf, hre => by
    obtain ⟨o, ho, hex, hd⟩ := R.ob
    rw [setSearchFrom_succ]
    refine wpAny_bind (wpAny_setState_of ho hd R.fits ?_)
    dsimp only
    refine wp_if_neg R.gw ?_
    try refine wpAny_bind (wpAny_pure ?_)
    have spec := go_spec t R.tab.ris R.tab.dm (fun i => (es[i]?.map (·.1)).getD 0) h (10 * SetTable.turns t.mask) (K - c) (sta t h c) (sta_dummy t h c) (by omega)
      (fun q hq => by rw [sta_add]; exact hKb (c + q) (by omega)) (by rw [sta_add, show c + (K - c) = K by omega]; exact hK)
    have hashAt : ∀ (i : Nat) p, L[i]? = some p → p.2 = k → (fun i => (es[i]?.map (·.1)).getD 0) i = h := fun i p hp hk => by
      show (es[i]?.map (·.1)).getD 0 = _
      rw [rows_entry R.rows hp, hh, ← hk] <;> rfl
    rcases spec with ⟨q, i, hq, hi, hhs, hno, hpr⟩ | ⟨hno, hpr⟩
    · have hpr' : t.probe (fun i => (es[i]?.map (·.1)).getD 0) h (stand.getD (t.probeStart h)) = some (.candidate (way t.mask h (c + q)) i (sta t h (c + (q + 1)))) := by
        rw [hst, ← sta_add t h c (q + 1), ← sta_j, ← sta_add t h c q]
        exact hpr
      rw [hpr']
      dsimp only
      rw [sta_add, sta_j] at hi
      have hil : i < L.length := by
        have h1 := (List.getElem?_eq_some_iff.mp hi).1
        have h2 := R.tab.sz
        rw [List.length_map] at h2
        omega
      obtain ⟨p, hp⟩ : ∃ p, L[i]? = some p := ⟨_, List.getElem?_eq_getElem hil⟩
      have hmem : p ∈ L := List.mem_of_getElem? hp
      have rest : wpAny (model P w) A (searchRest a (.ref x) h true f es t (way t.mask h (c + q)) i (sta t h (c + (q + 1)))) Q E s := by
        unfold searchRest
        rw [rows_entry R.rows hp]
        dsimp only
        refine wpAny_bind (wpAny_holding (wpAny_eqBool_tuple hu (R.tup p hmem) hx ?_))
        refine wpAny_bind (wpAny_setState_of ho hd R.fits ?_)
        dsimp only
        by_cases hkk : p.2 = k
        · refine wp_if_pos (by simp [hkk]) ?_
          exact wpAny_pure (hin (List.mem_map.mpr ⟨p, hmem, hkk⟩))
        · refine wp_if_neg (by simp [hkk]) ?_
          try refine wpAny_bind (wpAny_pure ?_)
          rw [sameMem]
          dsimp only
          have hsl : t.slot (way t.mask h (c + q)) = .live i := slot_live R.tab.ris hi
          simp only [if_true, hsl, rows_entry R.rows hp]
          refine wpAny_bind (wpAny_isSame_ref_self (wpAny_bind (wpAny_pure ?_)))
          simp only [if_true]
          refine wp_if_neg (by simp [hkk]) ?_
          refine search_x R hx hu hh hKf hK hKb hin hout f (c + (q + 1)) _ rfl (by omega) (by omega) fun i0 p0 h0 hk0 => ?_
          obtain ⟨c', a1, a2, a3⟩ := hre i0 p0 h0 hk0
          refine ⟨c', ?_, a2, a3⟩
          rcases Nat.lt_trichotomy c' (c + q) with z | z | z
          · exfalso
            exact hno (c' - c) i0 (by omega) (by rw [sta_add, sta_j, show c + (c' - c) = c' by omega]; exact a3) (hashAt i0 p0 h0 hk0)
          · exfalso
            rw [z] at a3
            have s0 := slot_live R.tab.ris a3
            rw [hsl] at s0
            injection s0 with s0
            rw [← s0, hp] at h0
            exact hkk ((congrArg Prod.snd (Option.some.inj h0)).trans hk0)
          · omega
      by_cases hl : t.led = true
      · refine wp_if_neg (by simp [hl]) ?_
        try refine wpAny_bind (wpAny_pure ?_)
        exact rest
      · refine wp_if_pos (by simp [hl]) ?_
        refine wpAny_bind (seen_x hx (fun y hy => ?_) ?_)
        · obtain ⟨e, he, ee⟩ := List.mem_map.mp hy
          have he2 : e ∈ es.toList := by
            have he1 : e ∈ es ∧ e.1 = h := by simpa using he
            simpa using he1.1
          rw [R.rows] at he2
          obtain ⟨p2, hp2, e2⟩ := List.mem_map.mp he2
          refine ⟨p2.2, p2.1, ?_, R.tup p2 hp2⟩
          rw [← ee, ← e2]
        · refine wp_if_neg (by decide) ?_
          try refine wpAny_bind (wpAny_pure ?_)
          exact rest
    · have hpr' : t.probe (fun i => (es[i]?.map (·.1)).getD 0) h (stand.getD (t.probeStart h)) = some (.empty (way t.mask h K) none) := by
        have e2 : way t.mask h K = (nth t.mask (sta t h c) (K - c)).j := by
          rw [sta_add, show c + (K - c) = K by omega] <;> rfl
        rw [hst, e2]
        exact hpr
      rw [hpr']
      dsimp only
      refine wpAny_pure (hout fun hm => ?_)
      obtain ⟨p0, h0, hk0⟩ := List.mem_map.mp hm
      obtain ⟨i0, hi0, e0⟩ := List.getElem_of_mem h0
      have h00 : L[i0]? = some p0 := by rw [List.getElem?_eq_getElem hi0, e0]
      obtain ⟨c', a1, a2, a3⟩ := hre i0 p0 h00 hk0
      exact hno (c' - c) i0 (by omega) (by rw [sta_add, sta_j, show c + (c' - c) = c' by omega]; exact a3) (hashAt i0 p0 h00 hk0)
theorem search_add (R : SetX P w s.heap a L es ep t) {x : Addr} {k : List Key} (hx : IsX P w s.heap k x) (hu : A.units < cLine) {Q : SetFound → Shared → Prop}
    (hin : k ∈ L.map (·.2) → Q (.there none) s)
    (hout : ∀ K, k ∉ L.map (·.2) → way t.mask (xhash P w k) K ∉ t.place.toList → (∀ c, c < K → way t.mask (xhash P w k) c ∈ t.place.toList) → Q (.free (way t.mask (xhash P w k) K) false) s) :
    wpAny (model P w) A (setSearch a (.ref x) (xhash P w k) true) Q E s := by
  have hroom := R.room
  obtain ⟨K, hKf, hK, hKb⟩ := R.tab.first (by rw [List.length_map]; omega) (xhash P w k)
  have hbig : K < 100000 := by
    have := R.tab.full.bd
    unfold SetTable.turns at hKf
    omega
  unfold setSearch
  refine search_x R hx hu rfl hKf hK hKb hin (fun hn => hout K hn hK hKb) 100000 0 none rfl (Nat.zero_le _) (by omega) fun i p hp hk => ?_
  have hi : (L.map fun p => xhash P w p.2)[i]? = some (xhash P w k) := by rw [List.getElem?_map, hp, ← hk] <;> rfl
  have hil : i < t.place.toList.length := by
    have h1 := (List.getElem?_eq_some_iff.mp hp).1
    have h2 := R.tab.sz
    rw [List.length_map] at h2
    omega
  have hj := List.getElem?_eq_getElem hil
  obtain ⟨c, hc, e⟩ := R.tab.before hK hi hj
  exact ⟨c, Nat.zero_le _, hc, by rw [hj, e]⟩
end
end Ts

set_option linter.all false
set_option maxRecDepth 100000
/-! Ts4: sets of tuples of texts and whole numbers: adding. -/
namespace Ts
open PySem PySem.Spec PyProof.Rows L2
section
variable {P : Program} {w : World} {A : Around} {E : Value → Shared → Prop} {s : Shared} {a : Addr} {L : Rw} {es : Array (Int × Value)} {ep : Nat} {t : SetTable}
theorem isX_same {h h' : Heap} {k : List Key} {b : Addr} {o : Obj} (hb : IsX P w h k b) (ho : h.get? a = some o) (hd : o.data = .set es ep t) (hs : Heap.SameBut a h h') : IsX P w h' k b := by
  obtain ⟨o', items, n, ho', hc, hd', hi⟩ := hb
  have hne : b ≠ a := by
    rintro rfl
    obtain rfl : o' = o := Option.some.inj (ho'.symm.trans ho)
    rw [hd] at hd'
    exact nomatch hd'
  exact ⟨o', items, n, (hs.2 b hne).trans ho', hc, hd', hi⟩
/-- some rows taken by their places -/
theorem take_rows (hr : es.toList = rowsX P w L) : ∀ l : List Nat, (∀ i ∈ l, i < L.length) → l.filterMap (fun i => es[i]?) = rowsX P w (l.filterMap fun i => L[i]?) ∧ ((l.filterMap fun i => L[i]?).map fun p => xhash P w p.2) = l.map fun i => (es.map (·.1)).getD i 0
  | [], _ => ⟨rfl, rfl⟩
  | i :: l, hl => by
    have hi := hl i List.mem_cons_self
    obtain ⟨e1, e2⟩ := take_rows hr l fun j hj => hl j (List.mem_cons_of_mem _ hj)
    have en := rows_entry hr (List.getElem?_eq_getElem hi)
    have e4 : (es.map (·.1)).getD i 0 = xhash P w (L[i]).2 := by
      have e5 : (es.map (·.1))[i]? = some (xhash P w (L[i]).2) := by rw [Array.getElem?_map, en] <;> rfl
      simp [Array.getD_eq_getD_getElem?, e5]
    rw [List.filterMap_cons_some en, List.filterMap_cons_some (List.getElem?_eq_getElem hi), e1, List.map_cons, List.map_cons, e2, e4]
    exact ⟨rfl, rfl⟩
theorem rows_order (order : Array Nat) (hr : es.toList = rowsX P w L) (hp : order.toList.Perm (List.range L.length)) :
    ∃ L2, (order.filterMap (es[·]?)).toList = rowsX P w L2 ∧ L2.Perm L ∧ (L2.map fun p => xhash P w p.2) = order.toList.map fun i => (es.map (·.1)).getD i 0 := by
  obtain ⟨e1, e2⟩ := take_rows hr order.toList fun i hi => List.mem_range.mp (hp.mem_iff.mp hi)
  refine ⟨_, by first | (rw [Array.toList_filterMap]; exact e1) | simpa using e1, ?_, e2⟩
  have h1 : (order.toList.filterMap fun i => L[i]?).Perm ((List.range L.length).filterMap fun i => L[i]?) := hp.filterMap _
  rw [List.filterMap_getElem?_range_length] at h1
  exact h1
theorem relay_x {o : Obj} (ho : s.heap.get? a = some o) (hex : o.ExactSet) (hd : o.data = .set es ep t) (hrows : es.toList = rowsX P w L) (hfits : t.fits es.size = true)
    (nd : (L.map (·.2)).Nodup) (tup : ∀ p ∈ L, IsX P w s.heap p.2 p.1) (ld : w.params.followText "set-order" = true ∨ t.led = true) (few : L.length ≤ 200) {wanted M : Nat}
    (hw : SetTable.sizeAbove wanted = M + 1) (hM : Full M) (mk : M = 7 ∨ M = 31 ∨ M = 127 ∨ M = 511) (hn : L.length * 5 < M * 3) {Q : Unit → Shared → Prop}
    (hQ : ∀ h' L' es' ep' t', Heap.SameBut a s.heap h' → SetX P w h' a L' es' ep' t' → L'.Perm L → Q () { s with heap := h' }) : wpAny (model P w) A (setRelay a wanted) Q E s := by
  have hsl := rows_size hrows
  obtain ⟨t', order, e, hp, T, em, el, _⟩ := relay_tab t (hs := es.map (·.1)) (wanted := wanted) (show SetTable.sizeAbove wanted - 1 = M by omega) hM (by rw [Array.size_map, hsl]; omega)
  rw [Array.size_map, hsl] at hp
  obtain ⟨L2, r1, r2, r3⟩ := rows_order order hrows hp
  rw [← r3] at T
  have hs2 : (order.filterMap (es[·]?)).size = L.length := by rw [rows_size r1, r2.length_eq]
  rw [setRelay_eq]
  refine wpAny_bind (wpAny_setState_of ho hd hfits ?_)
  dsimp only
  refine wp_if_neg (by rw [sizeLine_eq, hw]; have := hM.bd; omega) ?_
  try refine wpAny_bind (wpAny_pure ?_)
  rw [e]
  dsimp only
  refine wpAny_bind ?_
  refine wp_if_neg (by rw [hs2, hsl]; simp) ?_
  try refine wpAny_bind (wpAny_pure ?_)
  refine wpAny_pure ?_
  dsimp only
  refine wpAny_storeSet_of ho hd ?_ (by rw [hs2, sizeLine_eq]; omega)
  have sb : Heap.SameBut a s.heap (s.heap.update a (Obj.putSet (order.filterMap (es[·]?)) t')) := Heap.SameBut.update ..
  exact hQ _ L2 (order.filterMap (es[·]?)) (ep + 1) t' sb { ob := ⟨_, store_at ho hd, ⟨hex.1, hex.2.1, hex.2.2⟩, rfl⟩, rows := r1, tab := T, msk := by rw [em]; exact mk, nd := (r2.map (·.2)).nodup_iff.mpr nd, tup := fun p hpm => isX_same (tup p (r2.mem_iff.mp hpm)) ho hd sb, led := by rw [el]; exact ld, room := by rw [r2.length_eq, em]; exact hn, few := by rw [r2.length_eq]; exact few } r2
theorem rowsX_put (L : Rw) (p : Nat) (x : Addr) (k : List Key) : rowsX P w (L.take p ++ (x, k) :: L.drop p) = (rowsX P w L).take p ++ (xhash P w k, Value.ref x) :: (rowsX P w L).drop p := by
  unfold rowsX
  rw [List.map_append, List.map_cons, List.map_take, List.map_drop]
theorem add_x (R : SetX P w s.heap a L es ep t) {x : Addr} {k : List Key} (hx : IsX P w s.heap k x) (hu : A.units < cLine) (hfew : L.length + 1 ≤ 200) {Q : Bool → Shared → Prop}
    (hQ : ∀ b h' L' es' ep' t', Heap.SameBut a s.heap h' → SetX P w h' a L' es' ep' t' → (k ∈ L.map (·.2) → L' = L) → (k ∉ L.map (·.2) → L'.Perm ((x, k) :: L)) → Q b { s with heap := h' }) :
    wpAny (model P w) A (setAddHashed a (.ref x) (xhash P w k)) Q E s := by
  obtain ⟨o, ho, hex, hd⟩ := R.ob
  have hsl := rows_size R.rows
  have hroom := R.room
  unfold setAddHashed
  refine wpAny_holding ?_
  rw [show (100000 : Nat) = 99999 + 1 from rfl, setAddHashedIn_succ]
  refine wpAny_bind (wpAny_setState_of ho hd R.fits ?_)
  dsimp only
  refine wp_if_neg (by simp [byScan, Value.scannable]) ?_
  try refine wpAny_bind (wpAny_pure ?_)
  refine wpAny_bind (search_add R hx hu (fun hm => ?_) fun K hm hK hb => ?_)
  · dsimp only
    exact wpAny_pure (hQ false s.heap L es ep t (Heap.SameBut.refl a s.heap) R (fun _ => rfl) fun z => absurd hm z)
  · dsimp only
    refine wpAny_bind (wpAny_setState_of ho hd R.fits ?_)
    dsimp only
    obtain ⟨q2, q3, q9⟩ := R.tab.put hK hb rfl
    have q4 : (t.put (way t.mask (xhash P w k) K)).1.mask = t.mask := rfl
    have q5 : (t.put (way t.mask (xhash P w k) K)).1.led = t.led := rfl
    have q1 : (t.put (way t.mask (xhash P w k) K)).2 = SetTable.below t.place (way t.mask (xhash P w k) K) := rfl
    generalize t.put (way t.mask (xhash P w k) K) = pt at q1 q3 q4 q5 q9 ⊢
    obtain ⟨t0, p⟩ := pt
    dsimp only at q1 q3 q4 q5 q9 ⊢
    rw [← q1] at q2 q3
    have hin : (SetTable.insertAt es p (xhash P w k, Value.ref x)).toList = rowsX P w (L.take p ++ (x, k) :: L.drop p) := by
      rw [SetTable.toList_insertAt, rowsX_put, R.rows]
    have pm := put_perm L p (x, k)
    have hlen : (L.take p ++ (x, k) :: L.drop p).length = L.length + 1 := pm.length_eq
    have hhs : (L.take p ++ (x, k) :: L.drop p).map (fun p => xhash P w p.2) = (L.map fun p => xhash P w p.2).take p ++ xhash P w k :: (L.map fun p => xhash P w p.2).drop p := by
      rw [List.map_append, List.map_cons, List.map_take, List.map_drop]
    rw [← hhs] at q3
    rw [List.length_map] at q9
    have nd1 : ((L.take p ++ (x, k) :: L.drop p).map (·.2)).Nodup := by
      refine (pm.map (·.2)).nodup_iff.mpr ?_
      rw [List.map_cons]
      exact List.nodup_cons.mpr ⟨hm, R.nd⟩
    have hes := rows_size hin
    rw [hlen] at hes
    generalize SetTable.insertAt es p (xhash P w k, Value.ref x) = es1 at hin hes ⊢
    generalize L.take p ++ (x, k) :: L.drop p = L1 at pm hlen q3 nd1 hin
    -- behind the flag
    have fin : ∀ t1 : SetTable, Tab t1 (L1.map fun p => xhash P w p.2) → t1.mask = t.mask → t1.led = t.led → t1.fill = L.length + 1 → wpAny (model P w) A
        (storeSet a es1 t1 >>= fun _ => if (!false && t1.tooFull) = true then setRelay a (SetTable.grown (es.size + 1)) >>= fun _ => pure true else pure true) Q E s := fun t1 T m1 l1 f1 => by
      refine wpAny_bind (wpAny_storeSet_of ho hd ?_ (by rw [hes, sizeLine_eq]; omega))
      have sb : Heap.SameBut a s.heap (s.heap.update a (Obj.putSet es1 t1)) := Heap.SameBut.update ..
      have ho1 := store_at (es' := es1) (t' := t1) ho hd
      generalize s.heap.update a (Obj.putSet es1 t1) = h1 at sb ho1 ⊢
      have tup1 : ∀ p ∈ L1, IsX P w h1 p.2 p.1 := fun p hp => by
        rcases List.mem_cons.mp (pm.mem_iff.mp hp) with e | hp
        · rw [e]; exact isX_same hx ho hd sb
        · exact isX_same (R.tup p hp) ho hd sb
      have ld1 : w.params.followText "set-order" = true ∨ t1.led = true := by rw [l1]; exact R.led
      by_cases hf : t1.tooFull = true
      · refine wp_if_pos (by simp [hf]) (wpAny_bind ?_)
        have hfull : (L.length + 1) * 5 ≥ t1.mask * 3 := by
          have h := hf
          unfold SetTable.tooFull at h
          rw [decide_eq_true_eq, f1] at h
          exact h
        rw [m1] at hfull
        have hsz : t1.fits es1.size = true := by
          have h1 := T.sz
          rw [List.length_map, hlen] at h1
          unfold SetTable.fits
          rw [f1, hes, Bool.and_eq_true, beq_iff_eq, decide_eq_true_eq, m1]
          refine ⟨h1, ?_⟩
          rcases R.msk with e | e | e | e <;> omega
        have go : ∀ M, SetTable.sizeAbove (SetTable.grown (L.length + 1)) = M + 1 → Full M → (M = 7 ∨ M = 31 ∨ M = 127 ∨ M = 511) → (L.length + 1) * 5 < M * 3 →
            wpAny (model P w) A (setRelay a (SetTable.grown (es.size + 1))) (fun _ s' => wpAny (model P w) A (pure true) Q E s') E { s with heap := h1 } := fun M h1' h2' h3' h4' => by
          rw [hsl]
          refine relay_x (s := { s with heap := h1 }) ho1 ⟨hex.1, hex.2.1, hex.2.2⟩ rfl hin hsz nd1 tup1 ld1 (by rw [hlen]; exact hfew) h1' h2' h3' (by rw [hlen]; exact h4') ?_
          intro h2 L2 es2 ep2 t2 sb2 R2 pm2
          exact wpAny_pure (hQ true h2 L2 es2 ep2 t2 (sb.trans sb2) R2 (fun z => absurd z hm) fun _ => pm2.trans pm)
        have f := R.few
        rcases R.msk with e | e | e | e
        · have e2 : L.length = 4 := by omega
          exact go 31 (by rw [e2, size_20]) (full_of (.inr (.inl rfl))) (.inr (.inl rfl)) (by omega)
        · have e2 : L.length = 18 := by omega
          exact go 127 (by rw [e2, size_76]) (full_of (.inr (.inr rfl))) (.inr (.inr (.inl rfl))) (by omega)
        · have e2 : L.length = 76 := by omega
          exact go 511 (by rw [e2, size_306]) full_511 (.inr (.inr (.inr rfl))) (by omega)
        · exfalso
          omega
      · refine wp_if_neg (by simp [hf]) ?_
        refine wpAny_pure (hQ true h1 L1 es1 (ep + 1) t1 sb { ob := ⟨_, ho1, ⟨hex.1, hex.2.1, hex.2.2⟩, rfl⟩, rows := hin, tab := T, msk := by rw [m1]; exact R.msk, nd := nd1, tup := tup1, led := ld1, room := ?_, few := by rw [hlen]; exact hfew } (fun z => absurd z hm) fun _ => pm)
        have h := hf
        unfold SetTable.tooFull at h
        rw [decide_eq_true_eq, f1] at h
        rw [hlen]
        omega
    have fin0 := fin t0 q3 q4 q5 q9
    have fin1 := fin { t0 with plain := false } { ris := q3.ris, dm := q3.dm, sz := q3.sz, full := q3.full, bd := q3.bd, reach := q3.reach } q4 q5 q9
    by_cases hp : t0.plain = true
    · refine wp_if_pos hp (wpAny_bind (hby_tup hx fun y => ?_))
      cases y with
      | true =>
        simp only [if_true]
        exact fin0
      | false =>
        simp only [Bool.false_eq_true, if_false]
        exact fin1
    · refine wp_if_neg hp (wpAny_bind (wpAny_pure ?_))
      simp only [if_true]
      exact fin0
end
end Ts

set_option linter.all false
set_option maxRecDepth 100000
/-! Ts5: set(list of tuples of texts and whole numbers). -/
namespace Ts
open PySem PySem.Spec PyProof.Rows L2
theorem GotX.zero (ks : Rw) : GotX ks 0 [] := ⟨fun p h => (by cases h), fun p h => (by simp at h), Nat.le_refl _⟩
theorem GotX.more {ks L L' : Rw} {i : Nat} {x : Addr × List Key} (g : GotX ks i L) (h : ks[i]? = some x) (pm : L'.Perm (x :: L)) : GotX ks (i + 1) L' where
  sub := fun p hp => by
    rw [take_next h]
    rcases List.mem_cons.mp (pm.mem_iff.mp hp) with e | z
    · rw [e]; exact List.mem_append_right _ (List.mem_singleton.mpr rfl)
    · exact List.mem_append_left _ (g.sub p z)
  all := fun p hp => by
    rw [(pm.map (·.2)).mem_iff, List.map_cons]
    rw [take_next h] at hp
    rcases List.mem_append.mp hp with z | z
    · exact List.mem_cons_of_mem _ (g.all p z)
    · rw [List.mem_singleton.mp z]; exact List.mem_cons_self
  len := by
    rw [pm.length_eq, List.length_cons]
    exact Nat.succ_le_succ g.len
section
variable {P : Program} {w : World} {A : Around} {E : Value → Shared → Prop} {s : Shared}
theorem isX_keep {h h' : Heap} {k : List Key} {b : Addr} (x : IsX P w h k b) (hk : ∀ c o, h.get? c = some o → h'.get? c = some o) : IsX P w h' k b := by
  obtain ⟨o, items, n, ho, r⟩ := x
  exact ⟨o, items, n, hk b o ho, r⟩
theorem setX_fresh {h : Heap} {a : Addr} (ho : h.get? a = some { cls := .type "set", dict := none, data := .set #[] 0 (.fresh 0 0 (!w.params.followText "set-order")) }) : SetX P w h a [] #[] 0 (.fresh 0 0 (!w.params.followText "set-order")) where
  ob := ⟨_, ho, ⟨rfl, rfl, rfl⟩, rfl⟩
  rows := rfl
  tab := ⟨List.Pairwise.nil, rfl, rfl, full_of (.inl rfl), fun x hx => (by cases hx), fun i h j hi => (by simp at hi)⟩
  msk := .inl rfl
  nd := List.nodup_nil
  tup := fun p hp => (by cases hp)
  led := by
    show _ ∨ (!w.params.followText "set-order") = true
    cases w.params.followText "set-order"
    · exact .inr rfl
    · exact .inl rfl
  room := by
    show 0 * 5 < 7 * 3
    decide
  few := by
    show 0 ≤ 200
    decide
theorem update_x {I : Addr} {fp wr : List Addr} {G : Array GenState → Array GenState → Prop} {n : Nat} {Pv : Nat → Value → Prop} {St : Nat → Shared → Prop} {R : Result → Shared → Prop}
    (W : WalksS P w A.in1 I fp wr G n Pv St) (S : Addr) (hSf : S ∉ fp) (ks : Rw) (hn : n = ks.length) (hfew : ks.length ≤ 200) (hval : ∀ i v, Pv i v → ∃ p, ks[i]? = some p ∧ v = .ref p.1)
    (h0 : Heap) (hk : ∀ p ∈ ks, IsX P w h0 p.2 p.1) (hS0 : h0.get? S = none) (hw0 : ∀ b ∈ wr, h0.get? b = none) (hu : A.in1.units < cLine) :
    ∀ (k i : Nat) (s : Shared), n - i = k → i ≤ n → St i s → (∀ b o, h0.get? b = some o → s.heap.get? b = some o) → (∃ L es ep t, SetX P w s.heap S L es ep t ∧ GotX ks i L) →
      (∀ s' L es ep t, Moved (S :: wr) G s s' → SetX P w s'.heap S L es ep t → GotX ks n L → (∀ b o, h0.get? b = some o → s'.heap.get? b = some o) → R (.ok (.ret .none)) s') →
      codeAny (model P w) A (.builtin "set.update.loop" ⟨[.ref S, .ref I], []⟩) R s := by
  have hSw : S ∉ wr := fun h => hSf (W.sub _ h)
  have hsub : ∀ b ∈ wr, b ∈ S :: wr := fun b hb => List.mem_cons_of_mem _ hb
  have keepM : ∀ {s s' : Shared}, Moved wr G s s' → (∀ b o, h0.get? b = some o → s.heap.get? b = some o) → ∀ b o, h0.get? b = some o → s'.heap.get? b = some o := fun hm hkp b o e =>
    hm.heap b o (fun hb => by rw [hw0 b hb] at e; cases e) (hkp b o e)
  intro k
  induction k with
  | zero =>
    intro i s hk' hi hst hkp ⟨L, es, ep, t, hS, g⟩ hR
    obtain rfl : i = n := by omega
    refine codeAny_builtin F.entry_set_update_loop ?_
    rw [Around.under_plainId F.plain_set_update_loop _]
    show wpAny _ A.in1 (pyNext (.ref I) >>= _) _ _ s
    refine wpAny_bind (W.done s _ _ hst fun s' hm => ?_)
    show wpAny _ A.in1 (ret Value.none) _ _ s'
    have hkp' := keepM hm hkp
    exact wpAny_pure (hR s' L es ep t (hm.mono hsub) (hS.keep (fun o e => hm.heap S o hSw e) fun p hp => isX_keep (hk p (List.mem_of_mem_take (g.sub p hp))) hkp') g hkp')
  | succ k ih =>
    intro i s hk' hi hst hkp ⟨L, es, ep, t, hS, g⟩ hR
    have hlt : i < n := by omega
    refine codeAny_builtin F.entry_set_update_loop ?_
    rw [Around.under_plainId F.plain_set_update_loop _]
    show wpAny _ A.in1 (pyNext (.ref I) >>= _) _ _ s
    refine wpAny_bind (W.item i s _ _ hlt hst fun v s' hP hst' hm => ?_)
    obtain ⟨p, hp, rfl⟩ := hval i v hP
    have hkp' := keepM hm hkp
    have hS' : SetX P w s'.heap S L es ep t := hS.keep (fun o e => hm.heap S o hSw e) fun q hq => isX_keep (hk q (List.mem_of_mem_take (g.sub q hq))) hkp'
    have hx : IsX P w s'.heap p.2 p.1 := isX_keep (hk p (List.mem_of_getElem? hp)) hkp'
    show wpAny _ A.in1 (holding [Value.ref p.1] (setAdd S (.ref p.1)) >>= _) _ _ s'
    refine wpAny_bind (wpAny_holding ?_)
    unfold setAdd
    refine wpAny_holding ?_
    refine wpAny_bind (wpAny_pyHash_tuple hu hx ?_)
    refine add_x (s := { s' with toks := s'.toks + (p.2.length + 1) }) hS' hx hu (by have := g.len; omega) fun b h' L' es' ep' t' hsb hS2 c1 c2 => ?_
    have g' : GotX ks (i + 1) L' := by
      rcases Classical.em (p.2 ∈ L.map (·.2)) with c | c
      · rw [c1 c]; exact g.same hp c
      · exact g.more hp (c2 c)
    have hkp2 : ∀ b o, h0.get? b = some o → h'.get? b = some o := fun b o e => (hsb.2 b (fun z => by rw [z, hS0] at e; cases e)).trans (hkp' b o e)
    refine wpAny_pure ⟨plainId_quiet F.plain_set_update_loop _, ih (i + 1) _ (by omega) hlt (W.frame _ s' _ _ hst' (Nat.le_add_right _ _) fun b hb o e => ?_) hkp2 ⟨L', es', ep', t', hS2, g'⟩ fun s'' L2 es2 ep2 t2 hm'' hS'' g'' hkp'' => ?_⟩
    · rw [hsb.2 b (fun h : b = S => hSf (by rw [← h]; exact hb))]; exact e
    · refine hR s'' L2 es2 ep2 t2 (Moved.trans W.gtrans ((hm.mono hsub).then_heap (Nat.le_add_right _ _) fun b o hb e => ?_) hm'') hS'' g'' hkp''
      rw [hsb.2 b (fun h : b = S => hb (by rw [h]; exact List.mem_cons_self))]; exact e
end
end Ts

set_option linter.all false
set_option maxRecDepth 100000
set_option maxHeartbeats 3200000
/-! Ts6: set(list of tuples of texts and whole numbers), called. -/
namespace Ts
open PySem PySem.Spec PyProof.Rows L2
section
variable {P : Program} {w : World} {A : Around} {E : Value → Shared → Prop} {s : Shared}
/-- what the call leaves -/
def Made (P : Program) (w : World) (s : Shared) (ks : Rw) (s' : Shared) : Prop := ∃ h' tk L es ep t, s' = { s with heap := h', toks := tk } ∧ SetX P w h' s.heap.objs.size L es ep t ∧ GotX ks ks.length L ∧ ∀ b o, s.heap.get? b = some o → h'.get? b = some o
theorem none_from (h : Heap) {b : Addr} (hb : h.objs.size ≤ b) : h.get? b = none := by
  cases q : h.get? b with
  | none => rfl
  | some o => exact absurd (Nat.lt_of_lt_of_le (Heap.lt_size q) hb) (Nat.lt_irrefl _)
theorem call_set_x {l : Addr} {items : Array Value} (ks : Rw) {Q : Value → Shared → Prop} (hh : A.handled = none) (hl : s.heap.IsList l items) (hit : items.toList = ks.map fun p => Value.ref p.1)
    (hk : ∀ p ∈ ks, IsX P w s.heap p.2 p.1) (hfew : ks.length ≤ 200) (hu : A.units + 3 < cLine) (h : ∀ s', Made P w s ks s' → Q (.ref s.heap.objs.size) s') :
    wpAny (model P w) A (call (.type "set") [.ref l]) Q E s := by
  have hisz : items.size = ks.length := by
    have q := congrArg List.length hit
    rw [List.length_map] at q
    exact q
  obtain ⟨c, tl, hmro⟩ := F.called_set.mro
  have hmade := F.called_set.made
  have hsub := F.called_set.sub
  refine wpAny_call (codeAny_of_tree ?_)
  show wpAny _ _ (callAny (.type "set") _) _ _ _
  refine wpAny_pure ⟨Code.quiet_builtin _ (by decide +kernel), codeAny_builtin F.entry_type_call ?_⟩
  rw [Around.under_plain (weight_type_call_type "set" [.ref l] []) rfl]
  have h1 := F.called_set.notType
  have h2 := F.called_set.canCreate
  have hct := F.typeCall_set_1 (.ref l)
  repeat (any_goals (first | assumption | wp_step))
  refine codeAny_mono (code_set_led1 (.ref l) (E := E) (Q₁ := fun obj s₁ => obj = .ref s.heap.objs.size ∧ s₁ = { s with heap := s.heap.push (newS w) }) ⟨rfl, rfl⟩) fun r s₁ hr => ?_
  cases r with
  | error e => exact hr
  | ok fl =>
    cases fl with
    | ret obj =>
      obtain ⟨rfl, rfl⟩ := hr
      have hS : (s.heap.push (newS w)).get? s.heap.objs.size = some (newS w) := Heap.get?_push_size _ rfl
      have hT : Shared.TypeIs { s with heap := s.heap.push (newS w) } (.ref s.heap.objs.size) "set" := ⟨_, hS, rfl⟩
      have hli := F.called_set.init.lookup
      have hbi := F.called_set.init.bind (.ref s.heap.objs.size)
      repeat (any_goals (first | assumption | wp_step))
      refine codeAny_mono (codeAny_call_builtin (R := wants (fun r s₂ => r = .none ∧ Made P w s ks s₂) E) F.called_set.init.plain F.entry_set_init (check_set_init_1 hT ?_)) fun r₂ s₂ hr₂ => ?_
      · obtain ⟨⟨ocls, odict, odata, oslots⟩, hol, hcl, nl, hdl⟩ := hl
        simp only at hcl hdl
        subst hcl; subst hdl
        have hol' : (s.heap.push (newS w)).get? l = some { cls := .type "list", dict := odict, data := .seq items nl, slots := oslots } := Heap.get?_push_of_some _ hol
        have hsls := F.sub_list_set
        have hslf := F.sub_list_frozenset
        have hne : (Value.type "list" == Value.type "dict") = false := by decide
        have hl1 : (s.heap.push (newS w)).IsList l items := ⟨_, hol', rfl, nl, rfl⟩
        unfold Builtin.«set.__init__» noKeywords Builtin.Frozenset.updateFrom
        generalize hPI : pyIter = PI
        wp_walk
        subst hPI
        refine wpAny_pyIter_list hl1 ?_
        refine wpAny_bind (wpAny_runValue ?_)
        have hlS : l < s.heap.objs.size := Heap.lt_size hol
        have hh3 : A.in1.in1.in1.handled = none := by simp [hh]
        have hneI : l ≠ (s.heap.push (newS w)).objs.size := by
          rw [Heap.size_push]; exact Nat.ne_of_lt (Nat.lt_succ_of_lt hlS)
        have hSf : s.heap.objs.size ∉ [(s.heap.push (newS w)).objs.size, l] := by
          rw [Heap.size_push]; simp only [List.mem_cons, List.mem_singleton, List.not_mem_nil, or_false, not_or]
          exact ⟨Nat.ne_of_lt (Nat.lt_succ_self _), Nat.ne_of_gt hlS⟩
        have hval : ∀ (i : Nat) (v : Value), items[i]? = some v → ∃ p, ks[i]? = some p ∧ v = .ref p.1 := fun i v hv => by
          have q : items.toList[i]? = some v := by rw [Array.getElem?_toList]; exact hv
          rw [hit, List.getElem?_map] at q
          cases hq : ks[i]? with
          | none => rw [hq] at q; cases q
          | some p =>
            rw [hq] at q
            exact ⟨p, rfl, (Option.some.inj q).symm⟩
        refine update_x ((Walks.list hh3 _ l hneI items).toS) s.heap.objs.size hSf ks hisz hfew hval s.heap hk (none_from _ (Nat.le_refl _))
          (fun b hb => none_from _ (by rw [List.mem_singleton.mp hb, Heap.size_push]; exact Nat.le_succ _)) hu (items.size - 0) 0 _ (by omega) (Nat.zero_le _)
          ⟨⟨_, Heap.get?_push_size _ rfl, rfl, rfl⟩, (hl1.push _)⟩ (fun b o e => Heap.get?_push_of_some _ (Heap.get?_push_of_some _ e)) ?hS0 ?hR
        case hS0 => exact ⟨[], #[], 0, _, setX_fresh (Heap.get?_push_of_some _ hS), GotX.zero ks⟩
        case hR =>
          intro s' L es ep t hm hS' g' hkp
          obtain ⟨h', g2, d', tk', os'⟩ := s'
          have eg : g2 = s.gens := hm.gens
          have ed : d' = s.drawn := hm.drawn
          have eo : os' = s.os := hm.os
          subst eg; subst ed; subst eo
          show wpAny _ _ _ _ _ _
          refine wpAny_pure ?_
          show wpAny _ _ (ret Value.none) _ _ _
          rw [hisz] at g'
          exact wpAny_pure ⟨rfl, h', tk', L, es, ep, t, rfl, hS', g', hkp⟩
      · cases r₂ with
        | error e => exact hr₂
        | ok fl₂ =>
          cases fl₂ with
          | ret r =>
            obtain ⟨rfl, m⟩ := hr₂
            repeat (any_goals (first | assumption | wp_step))
            exact h _ m
          | _ => exact hr₂.elim
    | _ => exact hr.elim
end
end Ts

set_option linter.all false
set_option maxRecDepth 100000
set_option maxHeartbeats 3200000
/-! Ts7: set(tuple of tuples of texts and whole numbers), called. -/
namespace Ts
open PySem PySem.Spec PyProof.Rows L2
section
variable {P : Program} {w : World} {A : Around} {E : Value → Shared → Prop} {s : Shared}
theorem call_set_t {l : Addr} {items : Array Value} (ks : Rw) {Q : Value → Shared → Prop} (hh : A.handled = none) (hl : s.heap.IsTuple l items) (hit : items.toList = ks.map fun p => Value.ref p.1)
    (hk : ∀ p ∈ ks, IsX P w s.heap p.2 p.1) (hfew : ks.length ≤ 200) (hu : A.units + 3 < cLine) (h : ∀ s', Made P w s ks s' → Q (.ref s.heap.objs.size) s') :
    wpAny (model P w) A (call (.type "set") [.ref l]) Q E s := by
  have hisz : items.size = ks.length := by
    have q := congrArg List.length hit
    rw [List.length_map] at q
    exact q
  obtain ⟨c, tl, hmro⟩ := F.called_set.mro
  have hmade := F.called_set.made
  have hsub := F.called_set.sub
  refine wpAny_call (codeAny_of_tree ?_)
  show wpAny _ _ (callAny (.type "set") _) _ _ _
  refine wpAny_pure ⟨Code.quiet_builtin _ (by decide +kernel), codeAny_builtin F.entry_type_call ?_⟩
  rw [Around.under_plain (weight_type_call_type "set" [.ref l] []) rfl]
  have h1 := F.called_set.notType
  have h2 := F.called_set.canCreate
  have hct := F.typeCall_set_1 (.ref l)
  repeat (any_goals (first | assumption | wp_step))
  refine codeAny_mono (code_set_led1 (.ref l) (E := E) (Q₁ := fun obj s₁ => obj = .ref s.heap.objs.size ∧ s₁ = { s with heap := s.heap.push (newS w) }) ⟨rfl, rfl⟩) fun r s₁ hr => ?_
  cases r with
  | error e => exact hr
  | ok fl =>
    cases fl with
    | ret obj =>
      obtain ⟨rfl, rfl⟩ := hr
      have hS : (s.heap.push (newS w)).get? s.heap.objs.size = some (newS w) := Heap.get?_push_size _ rfl
      have hT : Shared.TypeIs { s with heap := s.heap.push (newS w) } (.ref s.heap.objs.size) "set" := ⟨_, hS, rfl⟩
      have hli := F.called_set.init.lookup
      have hbi := F.called_set.init.bind (.ref s.heap.objs.size)
      repeat (any_goals (first | assumption | wp_step))
      refine codeAny_mono (codeAny_call_builtin (R := wants (fun r s₂ => r = .none ∧ Made P w s ks s₂) E) F.called_set.init.plain F.entry_set_init (check_set_init_1 hT ?_)) fun r₂ s₂ hr₂ => ?_
      · obtain ⟨⟨ocls, odict, odata, oslots⟩, hol, hcl, nl, hdl⟩ := hl
        simp only at hcl hdl
        subst hcl; subst hdl
        have hol' : (s.heap.push (newS w)).get? l = some { cls := .type "tuple", dict := odict, data := .seq items nl, slots := oslots } := Heap.get?_push_of_some _ hol
        have hsls := F.sub_tuple_set
        have hslf := F.sub_tuple_frozenset
        have hne : (Value.type "tuple" == Value.type "dict") = false := by decide
        have hl1 : (s.heap.push (newS w)).IsTuple l items := ⟨_, hol', rfl, nl, rfl⟩
        unfold Builtin.«set.__init__» noKeywords Builtin.Frozenset.updateFrom
        generalize hPI : pyIter = PI
        wp_walk
        subst hPI
        refine wpAny_pyIter_tuple hl1 ?_
        refine wpAny_bind (wpAny_runValue ?_)
        have hlS : l < s.heap.objs.size := Heap.lt_size hol
        have hh3 : A.in1.in1.in1.handled = none := by simp [hh]
        have hneI : l ≠ (s.heap.push (newS w)).objs.size := by
          rw [Heap.size_push]; exact Nat.ne_of_lt (Nat.lt_succ_of_lt hlS)
        have hSf : s.heap.objs.size ∉ [(s.heap.push (newS w)).objs.size, l] := by
          rw [Heap.size_push]; simp only [List.mem_cons, List.mem_singleton, List.not_mem_nil, or_false, not_or]
          exact ⟨Nat.ne_of_lt (Nat.lt_succ_self _), Nat.ne_of_gt hlS⟩
        have hval : ∀ (i : Nat) (v : Value), items[i]? = some v → ∃ p, ks[i]? = some p ∧ v = .ref p.1 := fun i v hv => by
          have q : items.toList[i]? = some v := by rw [Array.getElem?_toList]; exact hv
          rw [hit, List.getElem?_map] at q
          cases hq : ks[i]? with
          | none => rw [hq] at q; cases q
          | some p =>
            rw [hq] at q
            exact ⟨p, rfl, (Option.some.inj q).symm⟩
        refine update_x ((Walks.tuple hh3 _ l hneI items).toS) s.heap.objs.size hSf ks hisz hfew hval s.heap hk (none_from _ (Nat.le_refl _))
          (fun b hb => none_from _ (by rw [List.mem_singleton.mp hb, Heap.size_push]; exact Nat.le_succ _)) hu (items.size - 0) 0 _ (by omega) (Nat.zero_le _)
          ⟨⟨_, Heap.get?_push_size _ rfl, rfl, rfl⟩, (hl1.push _)⟩ (fun b o e => Heap.get?_push_of_some _ (Heap.get?_push_of_some _ e)) ?hS0 ?hR
        case hS0 => exact ⟨[], #[], 0, _, setX_fresh (Heap.get?_push_of_some _ hS), GotX.zero ks⟩
        case hR =>
          intro s' L es ep t hm hS' g' hkp
          obtain ⟨h', g2, d', tk', os'⟩ := s'
          have eg : g2 = s.gens := hm.gens
          have ed : d' = s.drawn := hm.drawn
          have eo : os' = s.os := hm.os
          subst eg; subst ed; subst eo
          show wpAny _ _ _ _ _ _
          refine wpAny_pure ?_
          show wpAny _ _ (ret Value.none) _ _ _
          rw [hisz] at g'
          exact wpAny_pure ⟨rfl, h', tk', L, es, ep, t, rfl, hS', g', hkp⟩
      · cases r₂ with
        | error e => exact hr₂
        | ok fl₂ =>
          cases fl₂ with
          | ret r =>
            obtain ⟨rfl, m⟩ := hr₂
            repeat (any_goals (first | assumption | wp_step))
            exact h _ m
          | _ => exact hr₂.elim
    | _ => exact hr.elim
end
end Ts

set_option Elab.async false
set_option linter.all false
set_option maxRecDepth 100000
set_option maxHeartbeats 4000000
/-! Mi1: data trees, what they stand for in the abstract heap, environments of a mirror -/
namespace Mi
open PySem PySem.Spec L2
/-! ### what a tree stands for -/
variable [Tb]
section
variable (K : PySem.W.Frag) (U : Addr → Prop) (H : Hp)
end
section
variable {K : PySem.W.Frag} {U U' : Addr → Prop} {H H' : Hp}
end
end Mi

set_option Elab.async false
set_option linter.all false
set_option maxRecDepth 100000
set_option maxHeartbeats 4000000
/-! Mi2: environments, results, what an expression's mirror says -/
namespace Mi
open PySem PySem.Spec L2
variable [Tb]
theorem Rs.bind_assoc {α β γ : Type} (r : Rs α) (f : α → En → Rs β) (g : β → En → Rs γ) : (r.bind f).bind g = r.bind fun a e => (f a e).bind g := by cases r <;> rfl

theorem Gr.of_same {C : Addr → Prop} {H H' : Hp} (s : Same H H') : Gr C H H' := fun a o _ h => ⟨s a o h.1, h.2⟩
/-- the tables stand where nothing else is written -/
theorem _root_.LamX.Tabs.write {T : List (Addr × Str)} {H H' : Hp} {a : Addr} {u : HO} (t : LamX.Tabs T H) (ha : H a = some u) (ho : OwnO u) (k : ∀ b o, b ≠ a → H b = some o → (¬ OwnO o) → H' b = some o) : LamX.Tabs T H' := fun p hp => by
  obtain ⟨ps, h1, h2, h3⟩ := t p hp
  refine ⟨ps, k _ _ (fun e => ?_) h1 (fun z => z), h2, fun pos cv hc => ?_⟩
  · rw [e, ha] at h1; cases h1; exact ho
  obtain ⟨c, e1, e2⟩ := h3 pos cv hc
  refine ⟨c, e1, k _ _ (fun e => ?_) e2 (fun z => z)⟩
  rw [e, ha] at e2; cases e2; exact ho
section
variable {K : PySem.W.Frag} {U U' : Addr → Prop} {env env' env1 env2 : En} {σ σ' σ1 σ2 : St} {H H' H1 H2 : Hp}
theorem SA.al (sa : SA K U env σ H) (a : Addr) (h : U a) : ∃ o, H a = some o := let ⟨o, q⟩ := sa.alN a h; ⟨o, q.1.1⟩
theorem SA.alx (sa : SA K U env σ H) {a : Addr} (h : Ux U env σ a) : ∃ o, H a = some o := let ⟨o, q⟩ := sa.alxN h; ⟨o, q.1.1⟩
theorem SA.smOf (sa : SA K U env σ H) (s : Same H H') : Sm H H' := ⟨fun a o q => ⟨s a o q.1, q.2⟩, sa.tb.ext s⟩
theorem SA.fresh (sa : SA K U env σ H) {p : Addr} (h : H p = none) : ¬ Ux U env σ p := fun q => by
  obtain ⟨o, e⟩ := sa.alx q
  rw [h] at e
  cases e
/-- new objects beside what stood -/
theorem SA.sm (sa : SA K U env σ H) (s : Sm H H') : SA K U env σ H' where
  len := sa.len
  tb := s.tb
  alN := fun a h => by
    obtain ⟨o, e⟩ := sa.alN a h
    exact ⟨o, s.keep a o e.1, e.2⟩
  nu := sa.nu
  inj := sa.inj
  val := fun i d h => by
    obtain ⟨v, e, r⟩ := sa.val i d h
    exact ⟨v, e, Rep.to (fun a o _ q => s.keep a o q) (fun a o n _ => n) d v r⟩
  ob := fun i s' o h1 h2 => by
    obtain ⟨a, e, r⟩ := sa.ob i s' o h1 h2
    exact ⟨a, e, RepO.to (fun a o _ q => s.keep a o q) (fun a o n _ => n) (fun o q => s.keep a o q) r⟩
theorem SA.same (sa : SA K U env σ H) (s : Same H H') : SA K U env σ H' := sa.sm (sa.smOf s)
theorem Ste.trans (a : Ste K U env σ H env1 σ1 H1) (b : Ste K U env1 σ1 H1 env2 σ2 H2) : Ste K U env σ H env2 σ2 H2 where
  sa := b.sa
  gr := fun x o n h => b.gr x o (fun c => (a.fr x c).elim n fun z => z.no h) (a.gr x o n h)
  fr := fun x c => by
    rcases b.fr x c with q | q
    · exact a.fr x q
    · by_cases n : Chg env σ x
      · exact .inl n
      · exact .inr fun o h => q o (a.gr x o n h)
  io := fun i o h => by
    obtain ⟨o1, h1, e1⟩ := a.io i o h
    obtain ⟨o2, h2, e2⟩ := b.io i o1 h1
    exact ⟨o2, h2, e2.trans e1⟩
theorem Ste.sm (a : Ste K U env σ H env1 σ1 H1) (s : Sm H1 H2) : Ste K U env σ H env1 σ1 H2 :=
  a.trans ⟨a.sa.sm s, fun x o _ h => s.keep x o h, fun _ c => .inl c, fun _ o h => ⟨o, h, rfl⟩⟩
theorem Ste.same (a : Ste K U env σ H env1 σ1 H1) (s : Same H1 H2) : Ste K U env σ H env1 σ1 H2 := a.sm (a.sa.smOf s)
/-- what was a value of ours before is one behind it -/
theorem Ste.rep (a : Ste K U env σ H env1 σ1 H1) (sa : SA K U env σ H) {d : D} {v : V} (r : Rep K (Ux U env σ) H d v) : Rep K (Ux U env1 σ1) H1 d v :=
  Rep.to (fun x o n h => a.gr x o (fun c => n (.inr c)) h) (fun x o n h q => q.elim (fun z => n (.inl z)) fun c => (a.fr x c).elim (fun z => n (.inr z)) fun z => z.no h) d v r
theorem Ste.reps (a : Ste K U env σ H env1 σ1 H1) (sa : SA K U env σ H) {d : List D} {v : List V} (r : Reps K (Ux U env σ) H d v) : Reps K (Ux U env1 σ1) H1 d v :=
  Reps.to (fun x o n h => a.gr x o (fun c => n (.inr c)) h) (fun x o n h q => q.elim (fun z => n (.inl z)) fun c => (a.fr x c).elim (fun z => n (.inr z)) fun z => z.no h) d v r
end
section
variable {α β γ δ : Type} {R1 : (Addr → Prop) → St → Hp → α → β → Prop} {R2 : (Addr → Prop) → St → Hp → γ → δ → Prop} {K : PySem.W.Frag} {W : WX} {U : Addr → Prop} {env env1 : En} {σ : St} {H H1 : Hp}
theorem Po.shift {r : Rs γ} {Q : δ → Hp → Prop} (a : Ste K U env σ H env1 σ H1) (h : Po R2 K W U env σ H r Q) : Po R2 K W U env1 σ H1 r Q := by
  cases r with
  | ok d e => exact fun v H' b q => h v H' (a.trans b) q
  | er x e => exact fun c d H' b q => h c d H' (a.trans b) q
  | bad => exact h
/-- a first part, then the rest -/
theorem Po.step {r : Rs α} {f : α → En → Rs γ} {Q : δ → Hp → Prop} {Q1 : β → Hp → Prop} (h : Po R2 K W U env σ H (r.bind f) Q)
    (k : ∀ v H1 d env1, Ste K U env σ H env1 σ H1 → R1 (Ux U env1 σ) σ H1 d v → Po R2 K W U env1 σ H1 (f d env1) Q → Q1 v H1) : Po R1 K W U env σ H r Q1 := by
  cases r with
  | ok d e => exact fun v H' a q => k v H' d e a q (Po.shift a h)
  | er x e => exact h
  | bad => exact h
theorem Po.of_ok {a : γ} {Q : δ → Hp → Prop} (h : Po R2 K W U env σ H (.ok a env) Q) (sa : SA K U env σ H) {v : δ} {H' : Hp} (s : Same H H') (r : R2 (Ux U env σ) σ H' a v) : Q v H' := h v H' ((Ste.refl sa).same s) r
end
/-! ### judgements -/
def RD (K : PySem.W.Frag) : (Addr → Prop) → St → Hp → D → V → Prop := fun U _ H d v => Rep K U H d v
def RB : (Addr → Prop) → St → Hp → Bool → Bool → Prop := fun _ _ _ b c => c = b
abbrev tE (K : PySem.W.Frag) (W : WX) (m : En → Rs D) : TE := tM (RD K) K W m
abbrev tT (K : PySem.W.Frag) (W : WX) (m : En → Rs Bool) : TT := tM RB K W m
/-- the expression e of the context X has the mirror m -/
abbrev Ev (X : Cx) (W : WX) (e : Expr) (m : En → Rs D) : Prop := PE X e (tE X.K W m)
abbrev EvT (X : Cx) (W : WX) (e : Expr) (m : En → Rs Bool) : Prop := PT X e (tT X.K W m)
theorem PE_imp {X : Cx} {e : Expr} {t t' : TE} (h : PE X e t) (k : ∀ σ H Q, t' σ H Q → t σ H Q) : PE X e t' := ⟨fun pins s σ H Q I q => h.run pins s σ H Q I (k σ H Q q)⟩
theorem PT_imp {X : Cx} {e : Expr} {t t' : TT} (h : PT X e t) (k : ∀ σ H Q, t' σ H Q → t σ H Q) : PT X e t' := ⟨fun pins s σ H Q I q => h.run pins s σ H Q I (k σ H Q q)⟩
theorem PW_imp {X : Cx} {e : Expr} {t t' : TT} (h : PW X e t) (k : ∀ σ H Q, t' σ H Q → t σ H Q) : PW X e t' := ⟨fun w pins s σ H Q I q => h.run w pins s σ H Q I (k σ H Q q)⟩
theorem PA_imp {X : Cx} {e : List Expr} {t t' : TA} (h : PA X e t) (k : ∀ σ H Q, t' σ H Q → t σ H Q) : PA X e t' := ⟨fun pos pins s σ H Q I q => h.run pos pins s σ H Q I (k σ H Q q)⟩
theorem PS_imp {X : Cx} {e : Stmt} {t t' : TS} (h : PS X e t) (k : ∀ D σ H, t' D σ H → t D σ H) : PS X e t' := ⟨fun pins s σ H D I q => h.run pins s σ H D I (k D σ H q)⟩
theorem PSs_imp {X : Cx} {e : List Stmt} {t t' : TS} (h : PSs X e t) (k : ∀ D σ H, t' D σ H → t D σ H) : PSs X e t' := ⟨fun pins s σ H D I q => h.run pins s σ H D I (k D σ H q)⟩
end Mi

set_option Elab.async false
set_option linter.all false
set_option maxRecDepth 100000
set_option maxHeartbeats 4000000
/-! Mi3: defs, their promises, calls -/
namespace Mi
open PySem PySem.Spec L2
variable [Tb]
/-! ### a def that is walked where no repr is under way -/
theorem FnG.mono {P : Program} {w : World} {K : PySem.W.Frag} {mg : Str → Option Value} {base : Heap} {j k : Nat} {f : Addr} {fd : FuncData} {ps : List Str} {sp : Sp} (F : FnG P w K mg base j f fd ps sp) (h : j ≤ k) : FnG P w K mg base k f fd ps sp :=
  ⟨F.len, fun A outer s H args us vs Q E hr hg e0 hb r q => F.run A outer s H args us vs Q E (hr.mono h) hg e0 hb r q⟩
theorem Co.mono {X : Cx} {j k : Nat} (c : Co X k) (h : j ≤ k) : Co X j := ⟨c.hr.mono h, c.hg, c.calm⟩
theorem fnG_of {P : Program} {w : World} {K : PySem.W.Frag} {mg : Str → Option Value} {base : Heap} {x qual : Str} {st : Stmt} {f : Addr} {fd : FuncData} {N ps : List Str} {k : Nat} {sp : Sp} (F : Fun K x qual st f fd) (S : FnScope N ps (defScope st))
    (len : ∀ vs H Q E, sp vs H Q E → vs.length = ps.length)
    (hbody : ∀ (cdv : Value) (A : Around) (outer : List PySem.Env) (s : Shared) (H : Hp) (vs : List V) (Q : VK) (E : XK), Co (cxOf (L2.CX P w) P w K mg base N qual (defScope st) f cdv A outer s H E) k → sp vs H Q E →
      ∃ t, PSs (cxOf (L2.CX P w) P w K mg base N qual (defScope st) f cdv A outer s H E) (defBody st) t ∧ t { nx := fun _ H' => Q .non H', rt := Q } (start N vs) H) : FnG P w K mg base (k + 1) f fd ps sp := by
  obtain ⟨oc, od, kV, doc, pm, an, cdv, ct, osl, rfl, lk, hcd⟩ := F.ex
  refine ⟨len, fun A outer s H args us vs Q E hr hgd e0 hb r hsp => ?_⟩
  have hl := len _ _ _ _ hsp
  have KX : K.In s.heap := e0.mod.kin.keeps fun b o e => (e0.bs b o e).1
  have lim : s.heap.NoLimit := e0.mod.nolimit.keeps fun b o e => (e0.bs b o e).1
  refine codeAny_call_function hr.depth (KX _ _ lk) rfl S.co S.gen rfl (PySem.W.codeRec_of KX hcd) (hb _ _ _ _ ?_)
  refine wpAny_newFunctionEnv_cells S.kind (fun ⟨n, v⟩ hy => ?_) fun env he s1 x => ?_
  · rcases S.par n (List.of_mem_zip hy).1 with q | q
    · exact .inl q
    · exact .inr ⟨q, PySem.W.cellsFrom_some _ _ _ (.inl q)⟩
  subst he
  refine ⟨lim.keeps x.toInCall.keep, codeAny_func ?_⟩
  have co : Co (cxOf (L2.CX P w) P w K mg base N qual (defScope st) f cdv A outer s H E) k := ⟨hr.deeper _, hgd, rfl⟩
  obtain ⟨t, ht, hq⟩ := hbody cdv A outer s H vs Q E co hsp
  refine wpAny_mono (ht.run [] s1 (start N vs) H _ (inv_start S hr.hd e0 hl r x) hq) (fun fl s' hs => ?_) fun e s' hs => hs
  cases fl with
  | ret u =>
    obtain ⟨v, σ', H', J, rv, q⟩ := hs
    exact ⟨v, H', J.os, J.bare, J.base, J.hok, rv, q⟩
  | next =>
    obtain ⟨σ', H', J, q⟩ := hs
    exact ⟨V.non, H', J.os, J.bare, J.base, J.hok, rfl, q⟩
  | brk => exact hs.elim fun _ h => h.elim fun _ h => h.2.elim
  | cont => exact hs.elim fun _ h => h.elim fun _ h => h.2.elim
/-- the call of a def by its address -/
theorem runG {X : Cx} {W : WX} {k : Nat} {f : Addr} {fd : FuncData} {ps : List Str} {sp : Sp} {dvs : List V} {ds : List Value} {pins : List (Addr × Obj)} {σ : St} {H : Hp} {s : Shared} {Q : VK} {us : List Value} {vs : List V}
    (F : FnG X.prog X.w X.K X.mg X.base k f fd ps sp) (c : Co X k) (hb : Binds X.K fd ps ds) (hd : Vals dvs ds) (tk : Takes X W) (I : Inv X pins σ H s) (r : Vals vs us)
    (h : sp (vs ++ dvs) H Q fun cls d H' => W cls d σ H') : wpAny (model X.prog X.w) X.A (call (.ref f) us) (EP X pins σ Q) X.xe s := by
  have r2 : Vals (vs ++ dvs) (us ++ ds) := r.append hd
  have hl : (us ++ ds).length = ps.length := r2.length.symm.trans (F.len _ _ _ _ h)
  refine wpAny_call (codeAny_mono (F.run X.A X.stack s H ⟨us, []⟩ _ _ Q _ c.hr c.hg I.env0 (hb s us I.kIn hl) r2 h) fun r s' hq => ?_)
  cases r with
  | error e => exact tk e s' (XE.of_call I (fun _ _ _ z => z) hq)
  | ok fl =>
    cases fl with
    | ret u => exact I.after hq
    | next => exact False.elim hq
    | brk => exact False.elim hq
    | cont => exact False.elim hq
def tCG (sp : Sp) (dvs : List V) (W : WX) (t : TA) : TE := fun σ H Q => t σ H fun vs H1 => sp (vs ++ dvs) H1 Q fun cls d H' => W cls d σ H'
section
variable {X : Cx} {W : WX} {k : Nat} {f : Addr} {fd : FuncData} {ps : List Str} {sp : Sp} {dvs : List V} {ds : List Value} {x : Str} {p pos : Pos} {e : Expr} {es : List Expr} {t : TA}
theorem pe_cg (F : FnG X.prog X.w X.K X.mg X.base k f fd ps sp) (c : Co X k) (tk : Takes X W) (hm : X.mg x = some (.ref f)) (hk : PySem.W.keepIn X.K (.ref f) = true) (hb : Binds X.K fd ps ds) (hd : Vals dvs ds)
    (ha : PA X (e :: es) t) (hg : Gl X x) (hdb : (x == ("__debug__" : Str)) = false) (he : starEach (e :: es) X.env = (false, eval e X.env) :: starEach es X.env) (hpl : (backTo pos (starEach es X.env)).any (·.1) = false) :
    PE X (.Call (.Name x p) (e :: es) [] pos) (tCG sp dvs W t) := by
  refine ⟨fun pins s σ H Q I h => ?_⟩
  refine wpAny_Call_Name_kw (ld_glob I hg hm ?_ hdb)
  refine PySem.W.callWith_K (h₀ := X.base) I.ok.mod.kin hk (thn (ha.run pos pins s σ H _ I h) fun us s1 ⟨vs, H1, I1, r, q⟩ => ⟨I1.kIn, ?_⟩) he hpl
  exact runG F c hb hd tk I1 r q
end
end Mi

set_option Elab.async false
set_option linter.all false
set_option maxRecDepth 100000
set_option maxHeartbeats 4000000
/-! Mi4: statements' mirrors; the promise of a mirror; a def keeps it; its calls -/
namespace Mi
open PySem PySem.Spec L2
variable [Tb]
abbrev EvS (X : Cx) (W : WX) (s : Stmt) (m : En → Rs Fl) : Prop := PS X s (tS X.K W m)
section
variable {K : PySem.W.Frag} {W : WX} {U : Addr → Prop} {env env1 : En} {σ σ1 : St} {H H1 : Hp}
theorem PoS.shift {r : Rs Fl} {Dn : Ends} (a : Ste K U env σ H env1 σ1 H1) (h : PoS K W U env σ H r Dn) : PoS K W U env1 σ1 H1 r Dn := by
  cases r with
  | ok d e => exact fun s' H' b => h s' H' (a.trans b)
  | er x e => exact fun c d s' H' b q => h c d s' H' (a.trans b) q
  | bad => exact h
/-- an expression, then the statement's rest -/
theorem PoS.step {α β : Type} {R1 : (Addr → Prop) → St → Hp → α → β → Prop} {r : Rs α} {f : α → En → Rs Fl} {Dn : Ends} {Q1 : β → Hp → Prop} (h : PoS K W U env σ H (r.bind f) Dn)
    (k : ∀ v H1 d env1, Ste K U env σ H env1 σ H1 → R1 (Ux U env1 σ) σ H1 d v → PoS K W U env1 σ H1 (f d env1) Dn → Q1 v H1) : Po R1 K W U env σ H r Q1 := by
  cases r with
  | ok d e => exact fun v H' a q => k v H' d e a q (PoS.shift a h)
  | er x e => exact fun c d H' a q => h c d σ H' a q
  | bad => exact h
end
def mSeq (m n : En → Rs Fl) : En → Rs Fl := fun env => (m env).bind fun fl env1 => match fl with
  | .nx => n env1
  | fl => .ok fl env1
def mNx : En → Rs Fl := fun env => .ok .nx env
section
variable {X : Cx} {W : WX} {st : Stmt} {rest : List Stmt} {m n : En → Rs Fl}
theorem es_nil : EvSs X W [] mNx := PSs_imp pss_nil fun Dn σ H ⟨U, env, sa, po⟩ => po σ H (.refl sa)
theorem es_one (h : EvS X W st m) : EvSs X W [st] m := pss_one h
theorem es_cons (h1 : EvS X W st m) (h2 : EvSs X W rest n) : EvSs X W (st :: rest) (mSeq m n) := by
  refine PSs_imp (pss_cons h1 h2) fun Dn σ H ⟨U, env, sa, po⟩ => ⟨U, env, sa, ?_⟩
  unfold mSeq at po
  cases hm : m env with
  | bad => rw [hm] at po; exact po
  | er x e => rw [hm] at po; exact po
  | ok fl e =>
    rw [hm] at po
    cases fl with
    | nx => exact fun σ' H' a => ⟨U, e, a.sa, PoS.shift a po⟩
    | bk => exact po
    | ct => exact po
    | rt d => exact po
end
/-! ### the promise -/
def Sl.arg : Sl → Bool
  | .v _ => true
  | .io _ => true
  | _ => false
def spM (K : PySem.W.Frag) (n : Nat) (m : En → Rs D) : Sp := fun vs H Q E => ∃ U args, vs.length = n ∧ SA K U args (vs.map some) H ∧ (∀ s ∈ args, s.arg = true) ∧ Po (RD K) K (fun c d _ H' => E c d H') U args (vs.map some) H (m args) Q
def mergeA : En → En → En
  | .io _ :: r, .io o :: t => .io o :: mergeA r t
  | a :: r, _ :: t => a :: mergeA r t
  | r, [] => r
  | [], _ => []
theorem mergeA_nil (a : En) : mergeA a [] = a := by
  cases a with
  | nil => rfl
  | cons s r => cases s <;> rfl
def mDef (n N : Nat) (mb : En → Rs Fl) : En → Rs D := fun args => match mb (args ++ List.replicate (N - n) .un) with
  | .ok (.rt d) env => .ok d (mergeA args env)
  | .ok .nx env => .ok .non (mergeA args env)
  | .ok _ _ => .bad
  | .er x env => .er x (mergeA args env)
  | .bad => .bad
section
variable {K : PySem.W.Frag} {U : Addr → Prop} {args env' : En} {σ0 σ' : St} {H H' : Hp} {n : Nat}
theorem get_pad {α : Type} {l : List α} {x y : α} {n i : Nat} (h : (l ++ List.replicate n x)[i]? = some y) : l[i]? = some y ∨ (y = x ∧ l.length ≤ i) := by
  by_cases hi : i < l.length
  · rw [List.getElem?_append_left hi] at h
    exact .inl h
  · rw [List.getElem?_append_right (Nat.le_of_not_lt hi)] at h
    exact .inr ⟨(List.mem_replicate.mp (List.mem_of_getElem? h)).2, Nat.le_of_not_lt hi⟩
theorem get_padr {α : Type} {l : List α} {x y : α} {n i : Nat} (h : l[i]? = some y) : (l ++ List.replicate n x)[i]? = some y := by
  have hi := (List.getElem?_eq_some_iff.mp h).1
  rw [List.getElem?_append_left hi]
  exact h
theorem chg_pad (hl : args.length = σ0.length) (a : Addr) : Chg (args ++ List.replicate n .un) (σ0 ++ List.replicate n none) a ↔ Chg args σ0 a := by
  constructor
  · rintro ⟨i, s, o, h1, h2, h3⟩
    rcases get_pad h1 with h1 | ⟨e, _⟩
    · rcases get_pad h3 with h3 | ⟨e, _⟩
      · exact ⟨i, s, o, h1, h2, h3⟩
      · cases e
    · subst e
      cases h2
  · rintro ⟨i, s, o, h1, h2, h3⟩
    exact ⟨i, s, o, get_padr h1, h2, get_padr h3⟩
theorem ux_pad (hl : args.length = σ0.length) (a : Addr) : Ux U (args ++ List.replicate n .un) (σ0 ++ List.replicate n none) a ↔ Ux U args σ0 a := or_congr_right (chg_pad hl a)
theorem SA.pad (sa : SA K U args σ0 H) : SA K U (args ++ List.replicate n .un) (σ0 ++ List.replicate n none) H where
  len := by rw [List.length_append, List.length_append, sa.len, List.length_replicate, List.length_replicate]
  tb := sa.tb
  alN := sa.alN
  nu := fun a c => sa.nu a ((chg_pad sa.len a).mp c)
  inj := fun i j s t o p a h1 h2 h3 h4 h5 h6 => by
    rcases get_pad h1 with h1 | ⟨e, _⟩
    · rcases get_pad h3 with h3 | ⟨e, _⟩
      · rcases get_pad h5 with h5 | ⟨e, _⟩
        · rcases get_pad h6 with h6 | ⟨e, _⟩
          · exact sa.inj i j s t o p a h1 h2 h3 h4 h5 h6
          · cases e
        · cases e
      · subst e; cases h4
    · subst e; cases h2
  val := fun i d h => by
    rcases get_pad h with h | ⟨e, _⟩
    · obtain ⟨v, e, r⟩ := sa.val i d h
      exact ⟨v, get_padr e, Rep.to (fun a o _ q => q) (fun a o nn _ q => nn ((ux_pad sa.len a).mp q)) d v r⟩
    · cases e
  ob := fun i s o h1 h2 => by
    rcases get_pad h1 with h1 | ⟨e, _⟩
    · obtain ⟨a, e, r⟩ := sa.ob i s o h1 h2
      exact ⟨a, get_padr e, RepO.to (fun a o _ q => q) (fun a o nn _ q => nn ((ux_pad sa.len a).mp q)) (fun _ q => q) r⟩
    · subst e; cases h2
theorem pad_len {N : List Str} {vs : List V} : start N vs = vs.map some ++ List.replicate (N.length - vs.length) none := rfl
/-- what the caller sees behind a def -/
theorem Ste.leave (sa : SA K U args σ0 H) (har : ∀ s ∈ args, s.arg = true) (a : Ste K U (args ++ List.replicate n .un) (σ0 ++ List.replicate n none) H env' σ' H') :
    Ste K U args σ0 H (mergeA args env') σ0 H' ∧ ∀ x, Ux U (mergeA args env') σ0 x → Ux U env' σ' x := by
  -- each parameter that the caller sees is still in its slot
  have io : ∀ (i : Nat) (o : Ob), args[i]? = some (.io o) → ∃ o' : Ob, env'[i]? = some (.io o') ∧ σ'[i]? = σ0[i]? := fun i o h => by
    obtain ⟨o', h1, h2⟩ := a.io i o (get_padr h)
    refine ⟨o', h1, h2.trans ?_⟩
    have hi : i < σ0.length := by rw [← sa.len]; exact (List.getElem?_eq_some_iff.mp h).1
    rw [List.getElem?_append_left hi]
  have mg : ∀ (i : Nat) (s : Sl), (mergeA args env')[i]? = some s → (∃ o o' : Ob, s = .io o' ∧ args[i]? = some (.io o) ∧ env'[i]? = some (.io o')) ∨ (∃ d, s = .v d ∧ args[i]? = some (.v d)) := by
    have core : ∀ (a e : En) (hio : ∀ (i : Nat) (o : Ob), a[i]? = some (.io o) → ∃ o' : Ob, e[i]? = some (.io o')) (hv : ∀ s ∈ a, s.arg = true) (i : Nat) (s : Sl), (mergeA a e)[i]? = some s →
        (∃ o o' : Ob, s = .io o' ∧ a[i]? = some (.io o) ∧ e[i]? = some (.io o')) ∨ (∃ d, s = .v d ∧ a[i]? = some (.v d)) := by
      intro a
      induction a with
      | nil => intro e _ _ i s h; cases e <;> simp [mergeA] at h
      | cons x r ih =>
        intro e hio hv i s h
        cases e with
        | nil =>
          rw [mergeA_nil] at h
          cases s with
          | io o => obtain ⟨o', q⟩ := hio i o h; simp at q
          | v d => exact .inr ⟨d, rfl, h⟩
          | un => exact absurd (hv _ (List.mem_of_getElem? h)) (by simp [Sl.arg])
          | ow o => exact absurd (hv _ (List.mem_of_getElem? h)) (by simp [Sl.arg])
        | cons t e =>
          cases i with
          | succ i =>
            have q := ih e (fun i o h => hio (i + 1) o h) (fun s hs => hv s (List.mem_cons_of_mem _ hs)) i s (by cases x <;> cases t <;> simpa [mergeA] using h)
            exact q
          | zero =>
            cases x with
            | io o =>
              obtain ⟨o', q⟩ := hio 0 o rfl
              obtain rfl : t = .io o' := by simpa using q
              left
              refine ⟨o, o', ?_, rfl, rfl⟩
              simpa [mergeA] using h.symm
            | v d =>
              right
              refine ⟨d, ?_, rfl⟩
              cases t <;> simpa [mergeA] using h.symm
            | un => exact absurd (hv _ List.mem_cons_self) (by simp [Sl.arg])
            | ow o => exact absurd (hv _ List.mem_cons_self) (by simp [Sl.arg])
    exact core args env' (fun i o h => let ⟨o', h1, _⟩ := io i o h; ⟨o', h1⟩) har
  have rm : ∀ (i : Nat) (s : Sl), args[i]? = some s → ∃ s', (mergeA args env')[i]? = some s' := by
    have core : ∀ (a e : En) (i : Nat) (s : Sl), a[i]? = some s → ∃ s', (mergeA a e)[i]? = some s' := by
      intro a
      induction a with
      | nil => intro e i s h; simp at h
      | cons x r ih =>
        intro e i s h
        cases e with
        | nil => rw [mergeA_nil]; exact ⟨s, h⟩
        | cons t e =>
          cases i with
          | zero => cases x <;> cases t <;> exact ⟨_, rfl⟩
          | succ i =>
            obtain ⟨s', q⟩ := ih e i s h
            exact ⟨s', by cases x <;> cases t <;> simpa [mergeA] using q⟩
    exact core args env'
  have lenM : (mergeA args env').length = args.length := by
    have core : ∀ (a e : En), (mergeA a e).length = a.length := by
      intro a
      induction a with
      | nil => intro e; cases e <;> rfl
      | cons x r ih => intro e; cases e with
        | nil => rw [mergeA_nil]
        | cons t e => cases x <;> cases t <;> simp [mergeA, ih]
    exact core args env'
  have ch1 : ∀ x, Chg (mergeA args env') σ0 x → Chg env' σ' x ∧ Chg args σ0 x := by
    rintro x ⟨i, s, o, h1, h2, h3⟩
    rcases mg i s h1 with ⟨o1, o', rfl, e1, e2⟩ | ⟨d, rfl, _⟩
    · obtain ⟨o2, e3, e4⟩ := io i o1 e1
      exact ⟨⟨i, _, o', e2, rfl, e4.trans h3⟩, ⟨i, _, o1, e1, rfl, h3⟩⟩
    · cases h2
  have ch2 : ∀ x, Chg args σ0 x → Chg (mergeA args env') σ0 x := by
    rintro x ⟨i, s, o, h1, h2, h3⟩
    cases s with
    | un => cases h2
    | v d => cases h2
    | ow o => exact absurd (har _ (List.mem_of_getElem? h1)) (by simp [Sl.arg])
    | io o1 =>
      obtain ⟨s', q⟩ := rm i _ h1
      rcases mg i s' q with ⟨o2, o', rfl, _, _⟩ | ⟨d, rfl, e⟩
      · exact ⟨i, _, o', q, rfl, h3⟩
      · rw [h1] at e; cases e
  have sub : ∀ x, Ux U (mergeA args env') σ0 x → Ux U env' σ' x := fun x h => h.imp id fun c => (ch1 x c).1
  have grA : Gr (Chg args σ0) H H' := fun x o nn h => a.gr x o (fun c => nn ((chg_pad sa.len x).mp c)) h
  refine ⟨⟨⟨lenM.trans sa.len, a.sa.tb, a.sa.alN, fun x c => sa.nu x (ch1 x c).2, fun i j s t o p x h1 h2 h3 h4 h5 h6 => ?_, fun i d h => ?_, fun i s o h1 h2 => ?_⟩, grA, fun x c => .inl (ch1 x c).2, fun i o h => ?_⟩, sub⟩
  · rcases mg i s h1 with ⟨o1, o', rfl, e1, e2⟩ | ⟨d, rfl, _⟩
    · rcases mg j t h3 with ⟨o3, o4, rfl, e3, e4⟩ | ⟨d, rfl, _⟩
      · exact sa.inj i j _ _ _ _ x e1 rfl e3 rfl h5 h6
      · cases h4
    · cases h2
  · rcases mg i _ h with ⟨o1, o', q, _, _⟩ | ⟨d', q, e⟩
    · cases q
    · cases q
      obtain ⟨v, e1, r⟩ := sa.val i d e
      exact ⟨v, e1, Rep.to (fun x o nn h => grA x o (fun c => nn (.inr c)) h) (fun x o nn _ q => nn (q.imp id fun c => (ch1 x c).2)) d v r⟩
  · rcases mg i s h1 with ⟨o1, o', rfl, e1, e2⟩ | ⟨d, rfl, _⟩
    · cases h2
      obtain ⟨x, e3, r⟩ := a.sa.ob i _ _ e2 rfl
      obtain ⟨o2, e4, e5⟩ := io i o1 e1
      exact ⟨x, e5.symm.trans e3, RepO.to (fun _ _ _ q => q) (fun y o nn _ q => nn (sub y q)) (fun _ q => q) r⟩
    · cases h2
  · obtain ⟨s', q⟩ := rm i _ h
    rcases mg i s' q with ⟨o1, o', rfl, _, _⟩ | ⟨d, rfl, e⟩
    · exact ⟨o', q, rfl⟩
    · rw [h] at e; cases e
end
/-- THE RULE of a def: its body's mirror -/
theorem okM {P : Program} {w : World} {K : PySem.W.Frag} {mg : Str → Option Value} {base : Heap} {x qual : Str} {st : Stmt} {f : Addr} {fd : FuncData} {N ps : List Str} {k : Nat} {mb : En → Rs Fl} (F : Fun K x qual st f fd) (S : FnScope N ps (defScope st))
    (hbody : ∀ (cdv : Value) (A : Around) (outer : List PySem.Env) (s : Shared) (H : Hp) (E : XK) (W : WX), Co (cxOf (L2.CX P w) P w K mg base N qual (defScope st) f cdv A outer s H E) k → Takes (cxOf (L2.CX P w) P w K mg base N qual (defScope st) f cdv A outer s H E) W →
      EvSs (cxOf (L2.CX P w) P w K mg base N qual (defScope st) f cdv A outer s H E) W (defBody st) mb) : FnG P w K mg base (k + 1) f fd ps (spM K ps.length (mDef ps.length N.length mb)) := by
  refine fnG_of F S (fun vs H Q E h => ?_) fun cdv A outer s H vs Q E co h => ⟨tS K (fun c d _ H' => E c d H') mb, hbody cdv A outer s H E _ co (takes_of rfl rfl rfl rfl), ?_⟩
  · obtain ⟨U, args, hl, _⟩ := h
    exact hl
  obtain ⟨U, args, hl, sa, har, po⟩ := h
  rw [pad_len]
  have hl2 : N.length - vs.length = N.length - ps.length := by rw [hl]
  rw [hl2]
  refine ⟨U, args ++ List.replicate (N.length - ps.length) .un, sa.pad, ?_⟩
  unfold mDef at po
  cases hm : mb (args ++ List.replicate (N.length - ps.length) .un) with
  | bad => rw [hm] at po; exact po
  | er y e =>
    rw [hm] at po
    intro cls dd σ' H' a ex
    obtain ⟨a', sub⟩ := a.leave sa har
    refine po cls dd H' a' ?_
    exact ExR.sub (fun y q => (sub y q)) ex
  | ok fl e =>
    rw [hm] at po
    intro σ' H' a
    obtain ⟨a', sub⟩ := a.leave sa har
    cases fl with
    | nx => exact po .non H' a' rfl
    | rt d => exact fun v r => po v H' a' (Rep.to (fun _ _ _ q => q) (fun y o nn _ q => nn (sub y q)) d v r)
    | bk => exact po.elim
    | ct => exact po.elim
end Mi

set_option Elab.async false
set_option linter.all false
set_option maxRecDepth 100000
set_option maxHeartbeats 4000000
/-! Mi5: a call's arguments; what a callee leaves in the caller's slots -/
namespace Mi
open PySem PySem.Spec L2
variable [Tb]
def argOf (env : En) : Ar → Option Sl
  | .inl d => some (.v d)
  | .inr i => (env[i]?).bind fun s => s.ob.map .io
def mkArgs (env : En) : List Ar → Option En
  | [] => some []
  | a :: r => (argOf env a).bind fun s => (mkArgs env r).map fun t => s :: t
def inrs : List Ar → List Nat
  | [] => []
  | .inl _ :: r => inrs r
  | .inr i :: r => i :: inrs r
def lookIo : List Ar → En → Nat → Option Ob
  | .inr k :: as, .io o :: r, i => if k = i then some o else lookIo as r i
  | _ :: as, _ :: r, i => lookIo as r i
  | _, _, _ => none
def Sl.put : Sl → Ob → Sl
  | .ow _, o => .ow o
  | .io _, o => .io o
  | s, _ => s
def putBack (env : En) (as : List Ar) (args' : En) : En := env.mapIdx fun i s => match lookIo as args' i with
  | some o => s.put o
  | none => s
def xCall (m : En → Rs D) (ma : En → Rs (List Ar)) : En → Rs D := fun env => (ma env).bind fun as env1 =>
  if (inrs as).Nodup then (match mkArgs env1 as with
    | none => .bad
    | some args => match m args with
      | .ok d args' => .ok d (putBack env1 as args')
      | .er x args' => .er x (putBack env1 as args')
      | .bad => .bad) else .bad
theorem mem_inrs : ∀ {as : List Ar} {j i : Nat}, as[j]? = some (.inr i) → i ∈ inrs as
  | [], _, _, h => by simp at h
  | .inl _ :: r, 0, i, h => by simp at h
  | .inr k :: r, 0, i, h => by simp at h; subst h; exact List.mem_cons_self
  | .inl _ :: r, j + 1, i, h => mem_inrs (as := r) (j := j) (by simpa using h)
  | .inr k :: r, j + 1, i, h => List.mem_cons_of_mem _ (mem_inrs (as := r) (j := j) (by simpa using h))
theorem inr_uniq : ∀ {as : List Ar} {j j' i : Nat}, (inrs as).Nodup → as[j]? = some (.inr i) → as[j']? = some (.inr i) → j = j'
  | [], _, _, _, _, h, _ => by simp at h
  | .inl _ :: r, 0, _, _, _, h, _ => by simp at h
  | .inl _ :: r, _ + 1, 0, _, _, _, h => by simp at h
  | .inl _ :: r, j + 1, j' + 1, i, n, h, h' => congrArg (· + 1) (inr_uniq (as := r) (j := j) (j' := j') (i := i) n (by simpa using h) (by simpa using h'))
  | .inr k :: r, 0, 0, _, _, _, _ => rfl
  | .inr k :: r, 0, j' + 1, i, n, h, h' => by
    simp at h; subst h
    exact absurd (mem_inrs (as := r) (j := j') (by simpa using h')) (List.nodup_cons.mp n).1
  | .inr k :: r, j + 1, 0, i, n, h, h' => by
    simp at h'; subst h'
    exact absurd (mem_inrs (as := r) (j := j) (by simpa using h)) (List.nodup_cons.mp n).1
  | .inr k :: r, j + 1, j' + 1, i, n, h, h' => congrArg (· + 1) (inr_uniq (as := r) (j := j) (j' := j') (i := i) (List.nodup_cons.mp n).2 (by simpa using h) (by simpa using h'))
theorem lookIo_spec : ∀ {as : List Ar} {args : En} {i : Nat} {o : Ob}, lookIo as args i = some o → ∃ j : Nat, as[j]? = some (Sum.inr i) ∧ args[j]? = some (Sl.io o)
  | [], _, _, _, h => by simp [lookIo] at h
  | .inl _ :: as, [], _, _, h => by simp [lookIo] at h
  | .inr _ :: as, [], _, _, h => by simp [lookIo] at h
  | .inl _ :: as, s :: r, i, o, h => by
    obtain ⟨j, q⟩ := lookIo_spec (as := as) (args := r) (i := i) (o := o) (by cases s <;> simpa [lookIo] using h)
    exact ⟨j + 1, q⟩
  | .inr k :: as, s :: r, i, o, h => by
    by_cases hk : (∃ o', s = .io o') ∧ k = i
    · obtain ⟨⟨o', rfl⟩, rfl⟩ := hk
      simp [lookIo] at h
      subst h
      exact ⟨0, rfl, rfl⟩
    · obtain ⟨j, q⟩ := lookIo_spec (as := as) (args := r) (i := i) (o := o) (by
        cases s with
        | io o' => simpa [lookIo, show ¬ k = i from fun e => hk ⟨⟨o', rfl⟩, e⟩] using h
        | _ => simpa [lookIo] using h)
      exact ⟨j + 1, q⟩
theorem lookIo_of : ∀ {as : List Ar} {args : En} {i j : Nat} {o : Ob}, (inrs as).Nodup → as[j]? = some (.inr i) → args[j]? = some (.io o) → lookIo as args i = some o
  | [], _, _, _, _, _, h, _ => by simp at h
  | a :: as, [], _, _, _, _, _, h => by simp at h
  | a :: as, s :: r, i, 0, o, n, h, h' => by
    simp at h h'; subst h; subst h'
    simp [lookIo]
  | .inl _ :: as, s :: r, i, j + 1, o, n, h, h' => by
    have q := lookIo_of (as := as) (args := r) (i := i) (j := j) (o := o) n (by simpa using h) (by simpa using h')
    cases s <;> simpa [lookIo] using q
  | .inr k :: as, s :: r, i, j + 1, o, n, h, h' => by
    have q := lookIo_of (as := as) (args := r) (i := i) (j := j) (o := o) (List.nodup_cons.mp n).2 (by simpa using h) (by simpa using h')
    have nk : ¬ k = i := fun e => (List.nodup_cons.mp n).1 (by rw [e]; exact mem_inrs (as := as) (j := j) (by simpa using h))
    cases s <;> simpa [lookIo, nk] using q
theorem mkArgs_of : ∀ {env : En} {as : List Ar} {args : En}, mkArgs env as = some args → ∀ (j : Nat) (s : Sl), args[j]? = some s → ∃ a, as[j]? = some a ∧ argOf env a = some s
  | env, [], args, h, j, s, q => by
    simp [mkArgs] at h
    subst h
    simp at q
  | env, a :: r, args, h, j, s, q => by
    simp only [mkArgs] at h
    cases ha : argOf env a with
    | none => rw [ha] at h; simp at h
    | some s' =>
      cases hr : mkArgs env r with
      | none => rw [ha, hr] at h; simp at h
      | some t =>
        rw [ha, hr] at h
        simp at h
        subst h
        cases j with
        | zero => simp at q; subst q; exact ⟨a, rfl, ha⟩
        | succ j =>
          obtain ⟨a', h1, h2⟩ := mkArgs_of hr j s (by simpa using q)
          exact ⟨a', by simpa using h1, h2⟩
theorem mkArgs_to : ∀ {env : En} {as : List Ar} {args : En}, mkArgs env as = some args → args.length = as.length ∧ ∀ (j : Nat) (a : Ar), as[j]? = some a → ∃ s, args[j]? = some s ∧ argOf env a = some s
  | env, [], args, h => by
    simp [mkArgs] at h
    subst h
    exact ⟨rfl, fun j a q => by simp at q⟩
  | env, a :: r, args, h => by
    simp only [mkArgs] at h
    cases ha : argOf env a with
    | none => rw [ha] at h; simp at h
    | some s' =>
      cases hr : mkArgs env r with
      | none => rw [ha, hr] at h; simp at h
      | some t =>
        rw [ha, hr] at h
        simp at h
        subst h
        obtain ⟨hl, hg⟩ := mkArgs_to hr
        refine ⟨by simp [hl], fun j a' q => ?_⟩
        cases j with
        | zero => simp at q; subst q; exact ⟨s', rfl, ha⟩
        | succ j =>
          obtain ⟨s, h1, h2⟩ := hg j a' (by simpa using q)
          exact ⟨s, by simpa using h1, h2⟩
section
variable {K : PySem.W.Frag} {U U' : Addr → Prop} {env : En} {σ : St} {H : Hp} {as : List Ar} {vs : List V}
theorem call_bridge {args : En} (sa : SA K U env σ H) (ra : RAr K (Ux U env σ) σ H as vs) (nd : (inrs as).Nodup) (mk : mkArgs env as = some args) :
    ∃ U', SA K U' args (vs.map some) H ∧ (∀ s ∈ args, s.arg = true) ∧ ∀ args' H', Ste K U' args (vs.map some) H args' (vs.map some) H' →
      Ste K U env σ H (putBack env as args') σ H' ∧ ∀ x, Ux U (putBack env as args') σ x → Ux U' args' (vs.map some) x := by
  obtain ⟨hl, hto⟩ := mkArgs_to mk
  have hof := mkArgs_of mk
  have vget : ∀ {j : Nat} {v : V}, (vs.map some)[j]? = some (some v) → vs[j]? = some v := fun {j v} h => by
    rw [List.getElem?_map] at h
    cases e : vs[j]? with
    | none => rw [e] at h; cases h
    | some w => rw [e] at h; cases h; rfl
  have vput : ∀ {j : Nat} {v : V}, vs[j]? = some v → (vs.map some)[j]? = some (some v) := fun {j v} h => by rw [List.getElem?_map, h]; rfl
  -- the arguments, one by one
  have ioOf : ∀ {j : Nat} {s : Sl} {o : Ob}, args[j]? = some s → s.ob = some o → ∃ i t, as[j]? = some (.inr i) ∧ env[i]? = some t ∧ t.ob = some o ∧ s = .io o := fun {j s o} h1 h2 => by
    obtain ⟨a, h3, h4⟩ := hof j s h1
    cases a with
    | inl d => simp [argOf] at h4; subst h4; cases h2
    | inr i =>
      simp only [argOf] at h4
      cases e : env[i]? with
      | none => rw [e] at h4; cases h4
      | some t =>
        rw [e] at h4
        cases e2 : t.ob with
        | none => simp [e2] at h4
        | some o' =>
          simp [e2] at h4
          subst h4
          cases h2
          exact ⟨i, t, h3, e, e2, rfl⟩
  have vOf : ∀ {j : Nat} {d : D}, args[j]? = some (.v d) → as[j]? = some (.inl d) := fun {j d} h1 => by
    obtain ⟨a, h3, h4⟩ := hof j _ h1
    cases a with
    | inl d' => simp [argOf] at h4; subst h4; exact h3
    | inr i =>
      simp only [argOf] at h4
      cases e : env[i]? with
      | none => rw [e] at h4; cases h4
      | some t =>
        rw [e] at h4
        cases e2 : t.ob with
        | none => simp [e2] at h4
        | some o' => simp [e2] at h4
  let Pa : Addr → Prop := fun a => ∃ (j i : Nat), as[j]? = some (.inr i) ∧ σ[i]? = some (some (V.ref a))
  have ownAt : ∀ {j i : Nat}, as[j]? = some (.inr i) → ∃ t o a, env[i]? = some t ∧ t.ob = some o ∧ args[j]? = some (.io o) ∧ σ[i]? = some (some (V.ref a)) ∧ vs[j]? = some (V.ref a) ∧ RepO K (Ux U env σ) H o a := fun {j i} h => by
    obtain ⟨s, h1, h2⟩ := hto j _ h
    simp only [argOf] at h2
    cases e : env[i]? with
    | none => rw [e] at h2; cases h2
    | some t =>
      rw [e] at h2
      cases e2 : t.ob with
      | none => simp [e2] at h2
      | some o =>
        simp [e2] at h2
        subst h2
        obtain ⟨a, h3, r⟩ := sa.ob i t o e e2
        obtain ⟨v, h4, h5⟩ := ra.at j _ h
        have h5 : σ[i]? = some (some v) := h5
        rw [h3] at h5
        cases h5
        exact ⟨t, o, a, rfl, e2, h1, h3, h4, r⟩
  have paChg : ∀ {a : Addr}, Pa a → Chg env σ a := fun {a} ⟨j, i, h1, h2⟩ => by
    obtain ⟨t, o, b, e1, e2, _, e3, _, _⟩ := ownAt h1
    exact ⟨i, t, o, e1, e2, h2⟩
  have chgPa : ∀ {a : Addr}, Chg args (vs.map some) a → Pa a := fun {a} ⟨j, s, o, h1, h2, h3⟩ => by
    obtain ⟨i, t, q1, q2, q3, _⟩ := ioOf h1 h2
    obtain ⟨t', o', b, e1, e2, _, e3, e4, _⟩ := ownAt q1
    have h4 := vget h3
    rw [e4] at h4
    cases h4
    exact ⟨j, i, q1, e3⟩
  have paArgs : ∀ {a : Addr}, Pa a → Chg args (vs.map some) a := fun {a} ⟨j, i, h1, h2⟩ => by
    obtain ⟨t, o, b, e1, e2, e5, e3, e4, _⟩ := ownAt h1
    rw [h2] at e3
    cases e3
    exact ⟨j, _, o, e5, rfl, vput e4⟩
  let U' : Addr → Prop := fun a => U a ∨ (Chg env σ a ∧ ¬ Pa a)
  have uxI : ∀ x, Ux U env σ x → Ux U' args (vs.map some) x := fun x h => by
    by_cases p : Pa x
    · exact .inr (paArgs p)
    · exact .inl (h.elim .inl fun c => .inr ⟨c, p⟩)
  have uxO : ∀ x, Ux U' args (vs.map some) x → Ux U env σ x := fun x h => h.elim (fun h => h.elim .inl fun c => .inr c.1) fun c => .inr (paChg (chgPa c))
  have sa' : SA K U' args (vs.map some) H := by
    refine ⟨by rw [List.length_map, hl, ra.len], sa.tb, fun a h => h.elim (sa.alN a) fun c => sa.alxN (.inr c.1), fun a c h => ?_, fun i j s t o p a h1 h2 h3 h4 h5 h6 => ?_, fun i d h => ?_, fun i s o h1 h2 => ?_⟩
    · have p := chgPa c
      exact h.elim (sa.nu a (paChg p)) fun q => q.2 p
    · obtain ⟨i1, t1, q1, q2, q3, _⟩ := ioOf h1 h2
      obtain ⟨i2, t2, q4, q5, q6, _⟩ := ioOf h3 h4
      obtain ⟨_, _, b, _, _, _, e3, e4, _⟩ := ownAt q1
      obtain ⟨_, _, b', _, _, _, e5, e6, _⟩ := ownAt q4
      have z1 := vget h5
      have z2 := vget h6
      rw [e4] at z1
      rw [e6] at z2
      cases z1
      cases z2
      have e := sa.inj i1 i2 t1 t2 o p a q2 q3 q5 q6 e3 e5
      subst e
      exact inr_uniq nd q1 q4
    · obtain ⟨v, e1, r⟩ := ra.at i _ (vOf h)
      exact ⟨v, vput e1, Rep.to (fun _ _ _ q => q) (fun x o n _ q => n (uxO x q)) d v r⟩
    · obtain ⟨k, t, q1, q2, q3, q4⟩ := ioOf h1 h2
      obtain ⟨t', o', b, e1, e2, e5, e3, e4, r⟩ := ownAt q1
      rw [q2] at e1
      cases e1
      rw [q3] at e2
      cases e2
      exact ⟨b, vput e4, RepO.to (fun _ _ _ q => q) (fun x o n _ q => n (uxO x q)) (fun _ q => q) r⟩
  refine ⟨U', sa', fun s hs => ?_, fun args' H' a => ?_⟩
  · obtain ⟨j, hj⟩ := List.mem_iff_getElem?.mp hs
    obtain ⟨x, h1, h2⟩ := hof j s hj
    cases x with
    | inl d => simp [argOf] at h2; subst h2; rfl
    | inr i =>
      obtain ⟨_, o, _, _, _, e, _⟩ := ownAt h1
      rw [hj] at e
      cases e
      rfl
  have pget : ∀ (i : Nat), (putBack env as args')[i]? = (env[i]?).map fun s => match lookIo as args' i with
      | some o => s.put o
      | none => s := fun i => by unfold putBack; rw [List.getElem?_mapIdx]
  have putOb : ∀ {s : Sl} {o o' : Ob}, s.ob = some o → (s.put o').ob = some o' := fun {s o o'} h => by cases s <;> first | rfl | cases h
  have putNone : ∀ {s : Sl} {o' : Ob}, s.ob = none → s.put o' = s := fun {s o'} h => by cases s <;> first | rfl | cases h
  have passIo : ∀ {j i : Nat}, as[j]? = some (.inr i) → ∃ o', args'[j]? = some (.io o') ∧ lookIo as args' i = some o' := fun {j i} h => by
    obtain ⟨_, o, b, _, _, e, _⟩ := ownAt h
    obtain ⟨o', h1, _⟩ := a.io j o e
    exact ⟨o', h1, lookIo_of nd h h1⟩
  have chgB : ∀ x, Chg (putBack env as args') σ x ↔ Chg env σ x := fun x => by
    constructor
    · rintro ⟨i, s, o, h1, h2, h3⟩
      rw [pget] at h1
      cases e : env[i]? with
      | none => rw [e] at h1; cases h1
      | some t =>
        rw [e] at h1
        cases e2 : t.ob with
        | none =>
          have : s = t := by
            cases e3 : lookIo as args' i with
            | none => simp [e3] at h1; exact h1.symm
            | some o' => simp [e3, putNone e2] at h1; exact h1.symm
          rw [this, e2] at h2
          cases h2
        | some o' => exact ⟨i, t, o', e, e2, h3⟩
    · rintro ⟨i, s, o, h1, h2, h3⟩
      cases e3 : lookIo as args' i with
      | none => exact ⟨i, s, o, by rw [pget, h1, e3]; rfl, h2, h3⟩
      | some o' => exact ⟨i, s.put o', o', by rw [pget, h1, e3]; rfl, putOb h2, h3⟩
  have sub : ∀ x, Ux U (putBack env as args') σ x → Ux U' args' (vs.map some) x := fun x h => by
    by_cases p : Pa x
    · obtain ⟨j, i, h1, h2⟩ := p
      obtain ⟨_, o, b, _, _, _, e3, e4, _⟩ := ownAt h1
      obtain ⟨o', h3, _⟩ := passIo h1
      rw [h2] at e3
      cases e3
      exact .inr ⟨j, _, o', h3, rfl, vput e4⟩
    · exact .inl (h.elim .inl fun c => .inr ⟨(chgB x).mp c, p⟩)
  have kept : ∀ x o, ¬ Pa x → HN H x o → HN H' x o := fun x o n h => a.gr x o (fun c => n (chgPa c)) h
  refine ⟨⟨⟨?_, a.sa.tb, fun x h => a.sa.alN x (.inl h), fun x c => sa.nu x ((chgB x).mp c), fun i j s t o p x h1 h2 h3 h4 h5 h6 => ?_, fun i d h => ?_, fun i s o h1 h2 => ?_⟩, fun x o n h => kept x o (fun p => n (paChg p)) h, fun x c => .inl ((chgB x).mp c), fun i o h => ?_⟩, sub⟩
  · unfold putBack
    rw [List.length_mapIdx]
    exact sa.len
  · obtain ⟨i1, s1, o1, q1, q2, q3⟩ := (chgB x).mp ⟨i, s, o, h1, h2, h5⟩
    have g : ∀ {i : Nat} {s : Sl} {o : Ob}, (putBack env as args')[i]? = some s → s.ob = some o → ∃ t o', env[i]? = some t ∧ t.ob = some o' := fun {i s o} h1 h2 => by
      rw [pget] at h1
      cases e : env[i]? with
      | none => rw [e] at h1; cases h1
      | some t =>
        rw [e] at h1
        cases e2 : t.ob with
        | none =>
          have : s = t := by
            cases e3 : lookIo as args' i with
            | none => simp [e3] at h1; exact h1.symm
            | some o' => simp [e3, putNone e2] at h1; exact h1.symm
          rw [this, e2] at h2
          cases h2
        | some o' => exact ⟨t, o', rfl, e2⟩
    obtain ⟨t1, p1, e1, e2⟩ := g h1 h2
    obtain ⟨t2, p2, e3, e4⟩ := g h3 h4
    exact sa.inj i j t1 t2 p1 p2 x e1 e2 e3 e4 h5 h6
  · rw [pget] at h
    cases e : env[i]? with
    | none => rw [e] at h; cases h
    | some t =>
      rw [e] at h
      have et : t = .v d := by
        cases e3 : lookIo as args' i with
        | none => simp [e3] at h; exact h
        | some o' =>
          simp [e3] at h
          cases t <;> simp [Sl.put] at h
          exact congrArg _ h
      subst et
      obtain ⟨v, e1, r⟩ := sa.val i d e
      exact ⟨v, e1, Rep.to (fun x o n h => kept x o (fun p => n (.inr (paChg p))) h) (fun x o n _ q => n (q.imp id fun c => (chgB x).mp c)) d v r⟩
  · rw [pget] at h1
    cases e : env[i]? with
    | none => rw [e] at h1; cases h1
    | some t =>
      rw [e] at h1
      cases e3 : lookIo as args' i with
      | none =>
        simp [e3] at h1
        subst h1
        obtain ⟨x, e1, r⟩ := sa.ob i t o e h2
        refine ⟨x, e1, RepO.to (fun x o n h => kept x o (fun p => n (.inr (paChg p))) h) (fun x o n _ q => n (q.imp id fun c => (chgB x).mp c)) (fun u h => kept x u (fun p => ?_) h) r⟩
        obtain ⟨j, k, p1, p2⟩ := p
        obtain ⟨t', o', b, z1, z2, _, z3, _, _⟩ := ownAt p1
        rw [p2] at z3
        cases z3
        have ek := sa.inj i k t t' o o' x e h2 z1 z2 e1 p2
        subst ek
        obtain ⟨o2, _, y⟩ := passIo p1
        rw [e3] at y
        cases y
      | some o' =>
        simp [e3] at h1
        obtain ⟨j, p1, p2⟩ := lookIo_spec e3
        obtain ⟨t', o1, b, z1, z2, _, z3, z4, _⟩ := ownAt p1
        rw [e] at z1
        cases z1
        subst h1
        rw [putOb z2] at h2
        cases h2
        obtain ⟨x, e1, r⟩ := a.sa.ob j _ _ p2 rfl
        have e2 := vget e1
        rw [z4] at e2
        cases e2
        exact ⟨_, z3, RepO.to (fun _ _ _ q => q) (fun x o n _ q => n (sub x q)) (fun _ q => q) r⟩
  · cases e3 : lookIo as args' i with
    | none => exact ⟨o, by rw [pget, h, e3]; rfl, rfl⟩
    | some o' => exact ⟨o', by rw [pget, h, e3]; rfl, rfl⟩
end
/-- the bridge, for a promise of a mirror -/
theorem spM_call {K : PySem.W.Frag} {W : WX} {U : Addr → Prop} {env : En} {σ : St} {H : Hp} {m : En → Rs D} {ma : En → Rs (List Ar)} {n : Nat} {Q : VK} (sa : SA K U env σ H) (po : Po (RD K) K W U env σ H (xCall m ma env) Q)
    (hn : ∀ as e, ma env = .ok as e → as.length = n) : tM (RAr K) K W ma σ H fun vs H1 => spM K n m vs H1 Q fun cls d H' => W cls d σ H' := by
  refine ⟨U, env, sa, ?_⟩
  cases hm : ma env with
  | bad => unfold xCall at po; rw [hm] at po; exact po
  | er x e => unfold xCall at po; rw [hm] at po; exact po
  | ok as e =>
    intro vs H1 a ra
    have ra : RAr K (Ux U e σ) σ H1 as vs := ra
    have po := Po.shift (R2 := RD K) a po
    unfold xCall at po
    rw [hm] at po
    simp only [Rs.bind_ok] at po
    by_cases nd : (inrs as).Nodup
    · rw [if_pos nd] at po
      cases mk : mkArgs e as with
      | none => rw [mk] at po; exact po.elim
      | some args =>
        rw [mk] at po
        obtain ⟨U', sa', har, back⟩ := call_bridge a.sa ra nd mk
        refine ⟨U', args, by rw [ra.len, hn as e hm], sa', har, ?_⟩
        cases hr : m args with
        | bad => simp only [hr] at po; exact po
        | ok d args' =>
          simp only [hr] at po
          intro v H' b r
          obtain ⟨b', sub⟩ := back args' H' b
          exact po v H' b' (Rep.to (fun _ _ _ q => q) (fun x o n _ q => n (sub x q)) d v r)
        | er x args' =>
          simp only [hr] at po
          intro cls dd H' b ex
          obtain ⟨b', sub⟩ := back args' H' b
          refine po cls dd H' b' ?_
          exact ExR.sub (fun y q => (sub y q)) ex
    · rw [if_neg nd] at po
      exact po.elim
end Mi

set_option Elab.async false
set_option linter.all false
set_option maxRecDepth 100000
set_option maxHeartbeats 4000000
/-! MiT: tuples made with their label -/
namespace Mi
open PySem PySem.Spec PyProof.Rows L2
/-- a new tuple's label -/
def labT (o : Obj) (xs : List V) : HO := if mkV xs = true then .frz o (.tup xs) else .tup xs
theorem labT_at {H : Hp} {p : Addr} {o : Obj} {xs : List V} (ho : o.dict = none) : TupAt (upd H p (labT o xs)) p xs := by
  unfold labT TupAt
  rw [upd_same]
  by_cases h : mkV xs = true
  · rw [if_pos h]; exact .inr ⟨h, o, rfl, ho⟩
  · rw [if_neg h]; exact .inl ⟨by simpa using h, rfl⟩
/-- a new tuple, wished for -/
def NewT (H : Hp) (xs : List V) (Q : VK) : Prop := ∀ (p : Addr) (o : Obj), o.dict = none → H p = none → Q (.ref p) (upd H p (labT o xs))
section
variable {X : Cx} {pins : List (Addr × Obj)} {σ : L2.St} {H : Hp} {s : Shared}
theorem inv_tup {its : List Value} {xs : List V} (I : Inv X pins σ H s) (r : Vals xs its) (hz : xs.length ≤ sizeLine) :
    Inv X pins σ (upd H s.heap.objs.size (labT { cls := .type "tuple", data := .seq its.toArray } xs)) { s with heap := s.heap.push { cls := .type "tuple", data := .seq its.toArray } } := by
  refine I.laid (t' := s.toks) (fun b ob q => Heap.get?_push_of_some _ q) (Nat.le_refl _) ?_
  have x : ∀ H', ObjOk X.prog X.w H' (s.heap.push { cls := .type "tuple", data := .seq its.toArray }) s.heap.objs.size (.tup xs) := fun H' => ⟨hz, its, r, IsTup.new _ _⟩
  unfold labT
  split
  · exact ⟨Heap.get?_push_size _ rfl, x _⟩
  · exact x _
theorem newT_end {its : List Value} {xs : List V} {Q : VK} (I : Inv X pins σ H s) (r : Vals xs its) (hz : xs.length ≤ sizeLine) (q : NewT H xs Q) :
    EP X pins σ Q (.ref s.heap.objs.size) { s with heap := s.heap.push { cls := .type "tuple", data := .seq its.toArray } } :=
  ⟨.ref s.heap.objs.size, _, inv_tup I r hz, rfl, q _ _ rfl (I.hok.fresh (Nat.le_refl _))⟩
end
section
variable {X : Cx}
def tTupU (t : TA) : TE := fun σ H Q => t σ H fun xs H1 => xs.length ≤ sizeLine ∧ NewT H1 xs Q
theorem pe_tupU {es : List Expr} {t : TA} {n : Nat} {pos : Pos} (h : PA X es t) : PE X (.Tuple es n pos) (tTupU t) := by
  refine ⟨fun pins s σ H Q I hq => ?_⟩
  refine wpAny_Tuple_spliced (thn (h.run pos pins s σ H _ I hq) fun us s1 ⟨xs, H1, I1, r, z, q⟩ => ⟨by rw [← r.length]; exact z, ?_⟩)
  exact newT_end I1 r z q
theorem call_tuple_ofU : CallR X (.type "tuple") (fun xs H Q => ∃ p ys, xs = [.ref p] ∧ ((SqL X.K H p ys ∧ NewT H ys Q) ∨ (SqT X.K H p ys ∧ Q (.ref p) H))) := by
  intro pins s σ H xs us Q I r h
  obtain ⟨p, ys, rfl, h⟩ := h
  obtain ⟨u, rfl, rx⟩ := vals1 r
  cases rx
  rcases h with ⟨hq, q⟩ | ⟨hq, q⟩
  · obtain ⟨its, r', pl, hz⟩ := I.list hq
    have hlen := r'.length
    refine call_tuple_list pl.isList (fun h' kp => ?_) (by simp only [List.size_toArray] <;> omega)
    have I1 : Inv X pins σ H { s with heap := h' } := I.kept (t' := s.toks) kp
    exact newT_end I1 r' hz q
  · obtain ⟨its, r', pl, hz⟩ := I.tuple hq
    exact call_tuple_same pl ⟨.ref p, H, I, rfl, q⟩
def rCatU (K : PySem.W.Frag) : R2 := fun x y H Q => ∃ a b xs ys, x = .ref a ∧ y = .ref b ∧ SqT K H a xs ∧ SqT K H b ys ∧ xs.length + ys.length ≤ sizeLine ∧ (xs = [] → Q (.ref b) H) ∧ (ys = [] → Q (.ref a) H) ∧ NewT H (xs ++ ys) Q
theorem op_catU : OpR X (binaryOp .Add) (rCatU X.K) := by
  intro pins s σ H x y v u Q I rx ry h
  obtain ⟨a, b, xs, ys, rfl, rfl, ha, hb, hz, q0, q1, q2⟩ := h
  cases rx
  cases ry
  obtain ⟨its, r1, p1, _⟩ := I.tuple ha
  obtain ⟨its2, r2, p2, _⟩ := I.tuple hb
  by_cases hx : xs = []
  · subst hx
    cases r1
    exact cat_tup0 p1 p2 ⟨.ref b, H, I, rfl, q0 rfl⟩
  · refine HT.cat_tup p1 p2 (fun z => hx (r1.nil_iff.mp z)) (fun z => ⟨.ref a, H, I, rfl, q1 (r2.nil_iff.mp z)⟩) (fun z => ?_) (by rw [← r1.length, ← r2.length]; exact hz)
    exact newT_end I (r1.append r2) (by rw [List.length_append]; exact hz) q2
def rSlU (K : PySem.W.Frag) : V → Option Int → Option Int → Hp → VK → Prop := fun x lo hi H Q => ∃ a xs, x = .ref a ∧ SqT K H a xs ∧
  (HT.sIx xs.length 0 lo = 0 ∧ HT.sIx xs.length xs.length hi = xs.length → Q (.ref a) H) ∧ (¬ (HT.sIx xs.length 0 lo = 0 ∧ HT.sIx xs.length xs.length hi = xs.length) → NewT H (cutV xs lo hi) Q)
theorem sl_tupU : SlR X (rSlU X.K) := by
  intro pins s σ H x v vl vu lo hi sl Q I rx hs pl pu h
  obtain ⟨a, xs, rfl, hx, q1, q2⟩ := h
  cases rx
  obtain ⟨its, r, ht, hz⟩ := I.tuple hx
  have hlen : its.toArray.size = xs.length := by rw [List.size_toArray]; exact r.length.symm
  refine ⟨"tuple", _, PyProof.Rows.slot_tuple_getitem.lookup, ht.typeIs, ?_⟩
  by_cases hw : HT.sIx xs.length 0 lo = 0 ∧ HT.sIx xs.length xs.length hi = xs.length
  · exact getItem_tuple_whole ht hs pl pu (by rw [hlen]; exact hw) ⟨.ref a, H, I, rfl, q1 hw⟩
  · refine HT.getItem_tuple_cut ht hs pl pu (by rw [hlen]; exact hw) ?_ (by rw [hlen]; exact hz)
    rw [hlen]
    exact newT_end I ((r.drop (HT.sIx xs.length 0 lo)).take (HT.sIx xs.length xs.length hi - HT.sIx xs.length 0 lo)) (Nat.le_trans (cutV_length xs lo hi) hz) (q2 hw)
end
end Mi

set_option Elab.async false
set_option linter.all false
set_option maxRecDepth 100000
set_option maxHeartbeats 4000000
/-! Mi6: expressions' mirrors -/
namespace Mi
open PySem PySem.Spec L2
variable [Tb]
/-! ### names, constants, arguments -/
def xVar (i : Nat) : En → Rs D := fun env => match env[i]? with
  | some (.v d) => .ok d env
  | some (.ow o) => .ok o.val (env.set i (.v o.val))
  | _ => .bad
def xC (d : D) : En → Rs D := fun env => .ok d env
def flatD : D → Option V
  | .non => some .non
  | .bl b => some (.bl b)
  | .int i => some (.int i)
  | .str x => some (.str x)
  | _ => none
theorem flat_rep {K : PySem.W.Frag} {U : Addr → Prop} {H : Hp} {d : D} {v : V} (h : flatD d = some v) : Rep K U H d v := by
  cases d <;> simp [flatD] at h <;> subst h <;> rfl
section
variable {K : PySem.W.Frag} {W : WX} {U : Addr → Prop} {env : En} {σ : St} {H : Hp}
end
section
variable {X : Cx} {W : WX} {e : Expr} {es : List Expr} {m : En → Rs D} {pos : Pos}
theorem ev_var {i : Nat} (h : PE X e (tVar i)) : Ev X W e (xVar i) := by
  refine PE_imp h fun σ H Q ⟨U, env, sa, po⟩ => ?_
  unfold xVar at po
  cases hi : env[i]? with
  | none => rw [hi] at po; exact po.elim
  | some s =>
    rw [hi] at po
    cases s with
    | un => exact po.elim
    | io o => exact po.elim
    | v d =>
      obtain ⟨v, e1, r⟩ := sa.val i d hi
      exact ⟨v, e1, po v H (.refl sa) r⟩
    | ow o =>
      obtain ⟨a, e1, _⟩ := sa.ob i _ o hi rfl
      obtain ⟨a1, r⟩ := Ste.free sa hi e1
      exact ⟨_, e1, po _ H a1 r⟩
theorem ev_c {d : D} {v : V} (h : PE X e (tC v)) (hd : flatD d = some v) : Ev X W e (xC d) :=
  PE_imp h fun σ H Q ⟨U, env, sa, po⟩ => po v H (.refl sa) (flat_rep hd)
end
def xNil : En → Rs (List D) := fun env => .ok [] env
def xCons (m : En → Rs D) (ma : En → Rs (List D)) : En → Rs (List D) := fun env => (m env).bind fun d e1 => (ma e1).bind fun ds e2 => .ok (d :: ds) e2
def qNil : En → Rs (List Ar) := fun env => .ok [] env
def qVal (m : En → Rs D) (ma : En → Rs (List Ar)) : En → Rs (List Ar) := fun env => (m env).bind fun d e1 => (ma e1).bind fun ds e2 => .ok (.inl d :: ds) e2
/-- the object of slot i, handed on -/
def qIo (i : Nat) (ma : En → Rs (List Ar)) : En → Rs (List Ar) := fun env => match (env[i]?).bind Sl.ob with
  | some _ => (ma env).bind fun ds e2 => .ok (.inr i :: ds) e2
  | none => .bad
section
variable {X : Cx} {W : WX} {e : Expr} {es : List Expr} {m : En → Rs D} {ma : En → Rs (List D)} {mq : En → Rs (List Ar)} {n : Nat}
theorem Rs.bind_eq_ok {α β : Type} {r : Rs α} {f : α → En → Rs β} {b : β} {e : En} (h : r.bind f = .ok b e) : ∃ a e1, r = .ok a e1 ∧ f a e1 = .ok b e := by
  cases r with
  | ok a e1 => exact ⟨a, e1, rfl, h⟩
  | er x e1 => cases h
  | bad => cases h
theorem en_nil : EvN X W [] 0 xNil := ⟨PA_imp pa_nil fun σ H Q ⟨U, env, sa, po⟩ => po [] H (.refl sa) rfl, fun env ds e h => by cases h; rfl⟩
theorem en_cons (h1 : Ev X W e m) (h2 : EvN X W es n ma) (hs : starEach (e :: es) X.env = (false, eval e X.env) :: starEach es X.env := by rfl) : EvN X W (e :: es) (n + 1) (xCons m ma) := by
  refine ⟨PA_imp (pa_cons h1 h2.pa hs) fun σ H Q ⟨U, env, sa, po⟩ => ⟨U, env, sa, Po.step po fun v H1 d e1 a r po1 => ⟨U, e1, a.sa, Po.step po1 fun vs H2 ds e2 a2 r2 po2 => ?_⟩⟩, fun env ds e h => ?_⟩
  · exact po2 _ _ (.refl a2.sa) ⟨v, vs, rfl, a2.rep a.sa r, r2⟩
  · obtain ⟨d, e1, _, h⟩ := Rs.bind_eq_ok h
    obtain ⟨ds', e2, h3, h⟩ := Rs.bind_eq_ok h
    cases h
    rw [List.length_cons, h2.len _ _ _ h3]
theorem eq_nil : EvQ X W [] 0 qNil := ⟨PA_imp pa_nil fun σ H Q ⟨U, env, sa, po⟩ => po [] H (.refl sa) rfl, fun env ds e h => by cases h; rfl⟩
theorem eq_val (h1 : Ev X W e m) (h2 : EvQ X W es n mq) (hs : starEach (e :: es) X.env = (false, eval e X.env) :: starEach es X.env := by rfl) : EvQ X W (e :: es) (n + 1) (qVal m mq) := by
  refine ⟨PA_imp (pa_cons h1 h2.pa hs) fun σ H Q ⟨U, env, sa, po⟩ => ⟨U, env, sa, Po.step po fun v H1 d e1 a r po1 => ⟨U, e1, a.sa, Po.step po1 fun vs H2 ds e2 a2 r2 po2 => ?_⟩⟩, fun env ds e h => ?_⟩
  · exact po2 _ _ (.refl a2.sa) ⟨v, vs, rfl, a2.rep a.sa r, r2⟩
  · obtain ⟨d, e1, _, h⟩ := Rs.bind_eq_ok h
    obtain ⟨ds', e2, h3, h⟩ := Rs.bind_eq_ok h
    cases h
    rw [List.length_cons, h2.len _ _ _ h3]
theorem eq_io {i : Nat} (h1 : PE X e (tVar i)) (h2 : EvQ X W es n mq) (hs : starEach (e :: es) X.env = (false, eval e X.env) :: starEach es X.env := by rfl) : EvQ X W (e :: es) (n + 1) (qIo i mq) := by
  refine ⟨PA_imp (pa_cons h1 h2.pa hs) fun σ H Q ⟨U, env, sa, po⟩ => ?_, fun env ds e h => ?_⟩
  · unfold qIo at po
    cases hb : (env[i]?).bind Sl.ob with
    | none => rw [hb] at po; exact po.elim
    | some o =>
      rw [hb] at po
      obtain ⟨s, h3, h4⟩ := Option.bind_eq_some_iff.mp hb
      obtain ⟨a, e1, _⟩ := sa.ob i s o h3 h4
      refine ⟨_, e1, U, env, sa, Po.step po fun vs H2 ds e2 a2 r2 po2 => ?_⟩
      exact po2 _ _ (.refl a2.sa) ⟨_, vs, rfl, e1, r2⟩
  · unfold qIo at h
    cases hb : (env[i]?).bind Sl.ob with
    | none => rw [hb] at h; cases h
    | some o =>
      rw [hb] at h
      obtain ⟨ds', e2, h3, h⟩ := Rs.bind_eq_ok h
      cases h
      rw [List.length_cons, h2.len _ _ _ h3]
end
/-! ### calls of defs -/
section
variable {X : Cx} {W : WX} {k n : Nat} {f : Addr} {fd : FuncData} {ps : List Str} {x : Str} {p pos : Pos} {e : Expr} {es : List Expr} {m : En → Rs D} {mq : En → Rs (List Ar)}
theorem ev_call (F : FnG X.prog X.w X.K X.mg X.base k f fd ps (spM X.K (n + 1) m)) (c : Co X k) (tk : Takes X W) (hm : X.mg x = some (.ref f)) (hk : PySem.W.keepIn X.K (.ref f) = true) (hb : Binds X.K fd ps [])
    (ha : EvQ X W (e :: es) (n + 1) mq) (hg : Gl X x := by rfl) (hdb : (x == ("__debug__" : Str)) = false := by decide) (he : starEach (e :: es) X.env = (false, eval e X.env) :: starEach es X.env := by rfl)
    (hpl : (backTo pos (starEach es X.env)).any (·.1) = false := by rfl) : Ev X W (.Call (.Name x p) (e :: es) [] pos) (xCall m mq) := by
  refine PE_imp (pe_cg F c tk hm hk hb .nil ha.pa hg hdb he hpl) fun σ H Q ⟨U, env, sa, po⟩ => ?_
  have q := spM_call sa po (n := n + 1) fun as e1 h => ha.len _ _ _ h
  show tM _ _ _ _ _ _ _
  simp only [List.append_nil]
  exact q
end
/-! ### values' operations -/
def Al (U : Addr → Prop) (H : Hp) : Prop := ∀ a, U a → ∃ o, H a = some o
theorem Al.new {U : Addr → Prop} {H : Hp} {p : Addr} (al : Al U H) (hp : H p = none) : ¬ U p := fun q => by
  obtain ⟨o, e⟩ := al p q
  rw [hp] at e
  cases e
theorem same_new {H : Hp} {p : Addr} {o : HO} (hp : H p = none) : Same H (upd H p o) := fun b u e => by rw [upd_ne (ne_of_none e hp)]; exact e
theorem Reps.same {K : PySem.W.Frag} {U : Addr → Prop} {H H' : Hp} (s : Same H H') {ds : List D} {xs : List V} (r : Reps K U H ds xs) : Reps K U H' ds xs := Reps.to (fun a o _ h => ⟨s a o h.1, h.2⟩) (fun _ _ n _ => n) ds xs r
theorem Rep.same {K : PySem.W.Frag} {U : Addr → Prop} {H H' : Hp} (s : Same H H') {d : D} {x : V} (r : Rep K U H d x) : Rep K U H' d x := Rep.to (fun a o _ h => ⟨s a o h.1, h.2⟩) (fun _ _ n _ => n) d x r
section
variable {K : PySem.W.Frag} {U : Addr → Prop} {H : Hp} {ds : List D} {xs : List V} {p : Addr}
theorem rep_tup_new {o : Obj} (al : Al U H) (ho : o.dict = none) (hp : H p = none) (r : Reps K U H ds xs) : Rep K U (upd H p (labT o xs)) (.tup ds) (.ref p) := ⟨p, xs, rfl, ⟨labT_at ho, al.new hp⟩, r.same (same_new hp)⟩
/-- a tuple that is none of names -/
theorem rep_tup_raw (al : Al U H) (hm : mkV xs = false) (hp : H p = none) (r : Reps K U H ds xs) : Rep K U (upd H p (.tup xs)) (.tup ds) (.ref p) := ⟨p, xs, rfl, ⟨.inl ⟨hm, upd_same⟩, al.new hp⟩, r.same (same_new hp)⟩
theorem rep_lst_new (al : Al U H) (hp : H p = none) (r : Reps K U H ds xs) : Rep K U (upd H p (.lst xs)) (.lst ds) (.ref p) := ⟨p, xs, rfl, ⟨upd_same, al.new hp⟩, r.same (same_new hp)⟩
theorem Reps.append : ∀ {ds es : List D} {xs ys : List V}, Reps K U H ds xs → Reps K U H es ys → Reps K U H (ds ++ es) (xs ++ ys)
  | [], _, _, _, h, q => by rw [show _ = _ from h]; exact q
  | _ :: _, _, _, _, ⟨x, r, e, h1, h2⟩, q => ⟨x, r ++ _, by rw [e]; rfl, h1, Reps.append h2 q⟩
theorem mk_rep1 {d : D} {v : V} (r : Rep K U H d v) : mkV1 v = mkD1 d := by
  cases d with
  | non => rw [show v = _ from r]; rfl
  | bl b => rw [show v = _ from r]; rfl
  | int i => rw [show v = _ from r]; rfl
  | str x => rw [show v = _ from r]; rfl
  | tup ds => obtain ⟨a, xs, rfl, _⟩ := r; rfl
  | lst ds => obtain ⟨a, xs, rfl, _⟩ := r; rfl
  | dct t ks ds => obtain ⟨a, xs, rfl, _⟩ := r; rfl
  | obj c ns ds => obtain ⟨a, dx, xs, rfl, _⟩ := r; rfl
  | fz ds => obtain ⟨a, xs, rfl, _⟩ := r; rfl
  | exn p c ns ds => obtain ⟨a, cls, dd, xs, rfl, _⟩ := r; rfl
theorem mk_all : ∀ {ds : List D} {xs : List V}, Reps K U H ds xs → xs.all mkV1 = ds.all mkD1
  | [], _, h => by rw [show _ = _ from h]; rfl
  | _ :: _, _, ⟨x, r, e, h1, h2⟩ => by rw [e, List.all_cons, List.all_cons, mk_rep1 h1, mk_all h2]
theorem mk_rep (r : Reps K U H ds xs) : mkV xs = mkD ds := by
  unfold mkV mkD
  rw [mk_all r]
  cases ds with
  | nil => rw [show xs = _ from r]; rfl
  | cons d ds => obtain ⟨x, t, e, _⟩ := r; rw [e]; rfl
/-- a tuple that is none of names stands plain -/
theorem Rep.tup_raw {v : V} (r : Rep K U H (.tup ds) v) (hm : mkD ds = false) : ∃ a xs, v = .ref a ∧ H a = some (.tup xs) ∧ ¬ U a ∧ Reps K U H ds xs := by
  obtain ⟨a, xs, e, ⟨h, n⟩, q⟩ := r
  rcases h with ⟨_, h⟩ | ⟨m, _⟩
  · exact ⟨a, xs, e, h, n, q⟩
  · rw [mk_rep q, hm] at m; cases m
end
def Snd2 (K : PySem.W.Frag) (g : D → D → Option D) (r : R2) : Prop := ∀ (U : Addr → Prop) (H : Hp) (x y : V) (d e z : D) (Q : VK), Al U H → Rep K U H d x → Rep K U H e y → g d e = some z → (∀ v H', Same H H' → Rep K U H' z v → Q v H') → r x y H Q
def SndN (K : PySem.W.Frag) (g : List D → Option D) (r : List V → Hp → VK → Prop) : Prop := ∀ (U : Addr → Prop) (H : Hp) (xs : List V) (ds : List D) (z : D) (Q : VK), Al U H → Reps K U H ds xs → g ds = some z → (∀ v H', Same H H' → Rep K U H' z v → Q v H') → r xs H Q
def x1 (g : D → Option D) (m : En → Rs D) : En → Rs D := fun env => (m env).bind fun d e => .of (g d) e
def x2 (g : D → D → Option D) (m n : En → Rs D) : En → Rs D := fun env => (m env).bind fun d e1 => (n e1).bind fun d2 e2 => .of (g d d2) e2
def xN (g : List D → Option D) (ma : En → Rs (List D)) : En → Rs D := fun env => (ma env).bind fun ds e => .of (g ds) e
section
variable {X : Cx} {W : WX} {K : PySem.W.Frag} {U : Addr → Prop} {env : En} {σ : St} {H : Hp}
theorem Po.of_some {z : Option D} {Q : VK} (sa : SA K U env σ H) (h : Po (RD K) K W U env σ H (.of z env) Q) : ∃ d, z = some d ∧ ∀ v H', Same H H' → Rep K (Ux U env σ) H' d v → Q v H' := by
  cases z with
  | none => exact h.elim
  | some d => exact ⟨d, rfl, fun v H' s r => Po.of_ok (R2 := RD K) h sa s r⟩
theorem SA.alU (sa : SA K U env σ H) : Al (Ux U env σ) H := fun _ h => sa.alx h
variable {a b e : Expr} {es : List Expr} {m n : En → Rs D} {ma : En → Rs (List D)} {k : Nat} {pos : Pos}
theorem ev_op {op : Operator} {g : D → D → Option D} {r : R2} (ho : OpR X (binaryOp op) r) (hs : Snd2 X.K g r) (ha : Ev X W a m) (hb : Ev X W b n) : Ev X W (.BinOp a op b pos) (x2 g m n) :=
  PE_imp (pe_op ho ha hb) fun σ H Q ⟨U, env, sa, po⟩ => ⟨U, env, sa, Po.step po fun v H1 d e1 a r po1 => ⟨U, e1, a.sa, Po.step po1 fun v2 H2 d2 e2 a2 r2 po2 => by
    obtain ⟨z, hz, q⟩ := Po.of_some a2.sa po2
    exact hs _ _ _ _ _ _ _ _ a2.sa.alU (a2.rep a.sa r) r2 hz q⟩⟩
theorem ev_cmp {op : CmpOp} {g : D → D → Option D} {r : R2} (ho : OpR X (compareOp op) r) (hs : Snd2 X.K g r) (ha : Ev X W a m) (hb : Ev X W b n) (hm : behindInMarks op b = false) : Ev X W (.Compare a [op] [b] pos) (x2 g m n) :=
  PE_imp (pe_cmpR ho ha hb hm) fun σ H Q ⟨U, env, sa, po⟩ => ⟨U, env, sa, Po.step po fun v H1 d e1 a r po1 => ⟨U, e1, a.sa, Po.step po1 fun v2 H2 d2 e2 a2 r2 po2 => by
    obtain ⟨z, hz, q⟩ := Po.of_some a2.sa po2
    exact hs _ _ _ _ _ _ _ _ a2.sa.alU (a2.rep a.sa r) r2 hz q⟩⟩
/-- a truth -/
def isBl : D → Option Bool
  | .bl b => some b
  | _ => none
def tB1 (m : En → Rs D) : En → Rs Bool := fun env => (m env).bind fun d e => .of (isBl d) e
theorem isBl_rep {d : D} {b : Bool} {x : V} (h : isBl d = some b) (r : Rep K U H d x) : x = .bl b := by
  cases d <;> simp [isBl] at h
  subst h
  exact r
theorem Po.isBl {d : D} {Q : Bool → Hp → Prop} {x : V} (sa : SA K U env σ H) (r : Rep K (Ux U env σ) H d x) (h : Po RB K W U env σ H (.of (isBl d) env) Q) : ∃ b, x = .bl b ∧ Q b H := by
  cases e : Mi.isBl d with
  | none => rw [e] at h; exact h.elim
  | some b => rw [e] at h; exact ⟨b, isBl_rep e r, h b H (.refl sa) rfl⟩
theorem et_cmp {op : CmpOp} {g : D → D → Option D} {r : R2} (ho : OpR X (compareOp op) r) (hs : Snd2 X.K g r) (ha : Ev X W a m) (hb : Ev X W b n) (hm : behindInMarks op b = false) : EvT X W (.Compare a [op] [b] pos) (tB1 (x2 g m n)) := by
  refine PT_imp (pt_cmpR ho ha hb hm) fun σ H Q ⟨U, env, sa, po⟩ => ⟨U, env, sa, ?_⟩
  unfold tB1 x2 at po
  rw [Rs.bind_assoc] at po
  refine Po.step po fun v H1 d e1 a r po1 => ⟨U, e1, a.sa, ?_⟩
  rw [Rs.bind_assoc] at po1
  refine Po.step po1 fun v2 H2 d2 e2 a2 r2 po2 => ?_
  cases hz : g d d2 with
  | none => rw [hz] at po2; exact po2.elim
  | some z =>
    rw [hz] at po2
    refine hs _ _ _ _ _ _ _ _ a2.sa.alU (a2.rep a.sa r) r2 hz fun x H' s q => ?_
    have a3 := (Ste.refl a2.sa).same s
    obtain ⟨b, e, h⟩ := Po.isBl a3.sa q (Po.shift (R2 := RB) a3 po2)
    exact ⟨b, e, h⟩
theorem ev_n {t : TA → TE} {g : List D → Option D} {r : List V → Hp → VK → Prop} (hs : SndN X.K g r) (ha : EvN X W es k ma) (h : PE X e (tCB r (tA X.K W ma))) : Ev X W e (xN g ma) :=
  PE_imp h fun σ H Q ⟨U, env, sa, po⟩ => ⟨U, env, sa, Po.step po fun v H1 d e1 a r po1 => by
    obtain ⟨z, hz, q⟩ := Po.of_some a.sa po1
    exact hs _ _ _ _ _ _ a.sa.alU r hz q⟩
end
end Mi

set_option Elab.async false
set_option linter.all false
set_option maxRecDepth 100000
set_option maxHeartbeats 4000000
/-! Mi7: the operations on trees, each with its rule -/
namespace Mi
open PySem PySem.Spec L2
variable [Tb]
section
variable {K : PySem.W.Frag} {U : Addr → Prop} {H : Hp}
/-! ### arithmetic -/
def gAdd : D → D → Option D
  | .int i, .int j => some (.int (i + j))
  | .str x, .str y => if x.length + y.length ≤ sizeLine then some (.str (x ++ y)) else none
  | .lst a, .lst b => if a.length + b.length ≤ sizeLine then some (.lst (a ++ b)) else none
  | .tup a, .tup b => if a.length + b.length ≤ sizeLine then some (.tup (a ++ b)) else none
  | _, _ => none
def rAddM (K : PySem.W.Frag) : R2 := fun x y H Q => ((∃ i j, x = .int i ∧ y = .int j ∧ Q (.int (i + j)) H) ∨ (∃ i j, x = .str i ∧ y = .str j ∧ i.length + j.length ≤ sizeLine ∧ Q (.str (i ++ j)) H)) ∨ (rCat x y H Q ∨ rCatU K x y H Q)
theorem op_addM {X : Cx} : OpR X (binaryOp .Add) (rAddM X.K) := OpR.or (OpR.or op_add op_add_str) (OpR.or op_cat op_catU)
theorem s_add : Snd2 K gAdd (rAddM K) := by
  intro U H x y d e z Q al rx ry hz q
  cases d <;> cases e <;> simp [gAdd] at hz
  · subst hz; exact .inl (.inl ⟨_, _, rx, ry, q _ H (Same.refl H) rfl⟩)
  · obtain ⟨h, rfl⟩ := hz; exact .inl (.inr ⟨_, _, rx, ry, h, q _ H (Same.refl H) rfl⟩)
  · obtain ⟨h, rfl⟩ := hz
    obtain ⟨a, xs, rfl, h1, n1, r1⟩ := rx.tup_sq
    obtain ⟨b, ys, rfl, h2, n2, r2⟩ := ry.tup_sq
    refine .inr (.inr ⟨a, b, xs, ys, rfl, rfl, h1.sq, h2.sq, by rw [r1.len, r2.len]; exact h, fun e => ?_, fun e => ?_, fun p o ho hp => ?_⟩)
    · subst e
      have : (_ : List D).length = 0 := r1.len.symm
      obtain rfl := List.length_eq_zero_iff.mp this
      exact q _ H (Same.refl H) ry
    · subst e
      have : (_ : List D).length = 0 := r2.len.symm
      obtain rfl := List.length_eq_zero_iff.mp this
      rw [List.append_nil] at q
      exact q _ H (Same.refl H) rx
    · exact q _ _ (same_new hp) (rep_tup_new al ho hp (r1.append r2))
  · obtain ⟨h, rfl⟩ := hz
    obtain ⟨a, xs, rfl, h1, n1, r1⟩ := rx.lst_sq
    obtain ⟨b, ys, rfl, h2, n2, r2⟩ := ry.lst_sq
    exact .inr (.inl ⟨a, b, xs, ys, rfl, rfl, h1, h2, by rw [r1.len, r2.len]; exact h, fun p hp => q _ _ (same_new hp) (rep_lst_new al hp (r1.append r2))⟩)
def gSub : D → D → Option D
  | .int i, .int j => some (.int (i - j))
  | _, _ => none
theorem s_sub : Snd2 K gSub (rI0 fun i j => .int (i - j)) := by
  intro U H x y d e z Q al rx ry hz q
  cases d <;> cases e <;> simp [gSub] at hz
  subst hz; exact ⟨_, _, rx, ry, q _ H (Same.refl H) rfl⟩
theorem Reps.rep {ds : List D} {xs : List V} (r : Reps K U H ds xs) : ∀ n : Nat, Reps K U H (List.replicate n ds).flatten (List.replicate n xs).flatten
  | 0 => rfl
  | n + 1 => by
    rw [List.replicate_succ, List.replicate_succ, List.flatten_cons, List.flatten_cons]
    exact r.append (Reps.rep r n)
def gMul : D → D → Option D
  | .int i, .int j => if i.natAbs.log2 + j.natAbs.log2 < 1000000 ∨ j.natAbs.log2 < 60 then some (.int (i * j)) else none
  | .lst a, .int k => if k.natAbs ≤ 1000000 ∧ a.length * k.toNat ≤ sizeLine then some (.lst (List.replicate k.toNat a).flatten) else none
  | .tup a, .int k => if a ≠ [] ∧ 2 ≤ k ∧ k ≤ 1000 ∧ a.length ≤ 1000 ∧ mkD (List.replicate k.toNat a).flatten = false then some (.tup (List.replicate k.toNat a).flatten) else none
  | _, _ => none
def rMulM (K : PySem.W.Frag) : R2 := fun x y H Q => (rI CMulW (fun i j => .int (i * j)) x y H Q ∨ rI CMul (fun i j => .int (i * j)) x y H Q) ∨ (rRep x y H Q ∨ rRepT K x y H Q)
theorem op_mulM {X : Cx} : OpR X (binaryOp .Mult) (rMulM X.K) := OpR.or (OpR.or op_mulW op_mul) (OpR.or op_rep op_repT)
theorem s_mul : Snd2 K gMul (rMulM K) := by
  intro U H x y d e z Q al rx ry hz q
  cases d <;> cases e <;> simp only [gMul, Option.ite_none_right_eq_some, reduceCtorEq] at hz
  · obtain ⟨h, e⟩ := hz
    cases e
    rcases h with h | h
    · exact .inl (.inl ⟨_, _, rx, ry, h, q _ H (Same.refl H) rfl⟩)
    · have h2 := PySem.lt_two_pow_of_log2_lt h
      exact .inl (.inr ⟨_, _, rx, ry, .inr (by omega), q _ H (Same.refl H) rfl⟩)
  · obtain ⟨⟨h1, h2, h3, h4, h6⟩, e⟩ := hz
    cases e
    obtain ⟨a, xs, rfl, h5, n1, r1⟩ := rx.tup_sq
    refine .inr (.inr ⟨a, _, xs, rfl, ry, h5.sq, fun e => h1 ?_, h2, h3, by rw [r1.len]; exact h4, fun p hp => q _ _ (same_new hp) (rep_tup_raw al (by rw [mk_rep (r1.rep _)]; exact h6) hp (r1.rep _))⟩)
    subst e
    exact List.length_eq_zero_iff.mp r1.len.symm
  · obtain ⟨⟨h1, h3⟩, e⟩ := hz
    cases e
    obtain ⟨a, xs, rfl, h5, n1, r1⟩ := rx.lst_sq
    exact .inr (.inl ⟨a, _, xs, rfl, ry, h5, by omega, by omega, by rw [r1.len]; exact h3, fun p hp => q _ _ (same_new hp) (rep_lst_new al hp (r1.rep _))⟩)
def gFdiv : D → D → Option D
  | .int i, .int j => if 0 < j ∧ j.natAbs.log2 < 9000 then some (.int (i / j)) else none
  | _, _ => none
theorem s_fdiv : Snd2 K gFdiv (rI CDivW fun i j => .int (i / j)) := by
  intro U H x y d e z Q al rx ry hz q
  cases d <;> cases e <;> simp only [gFdiv, Option.ite_none_right_eq_some, reduceCtorEq] at hz
  obtain ⟨h, e⟩ := hz
  cases e
  exact ⟨_, _, rx, ry, h, q _ H (Same.refl H) rfl⟩
def gMod : D → D → Option D
  | .int i, .int j => if 0 < j then some (.int (i % j)) else none
  | _, _ => none
theorem s_mod : Snd2 K gMod (rI (fun _ j => 0 < j) fun i j => .int (i % j)) := by
  intro U H x y d e z Q al rx ry hz q
  cases d <;> cases e <;> simp only [gMod, Option.ite_none_right_eq_some, reduceCtorEq] at hz
  obtain ⟨h, e⟩ := hz
  cases e
  exact ⟨_, _, rx, ry, h, q _ H (Same.refl H) rfl⟩
def gPow : D → D → Option D
  | .int i, .int j => if 0 ≤ j ∧ j ≤ 1000000 ∧ i.natAbs < 2 ^ 64 then some (.int (i ^ j.toNat)) else none
  | _, _ => none
theorem s_pow : Snd2 K gPow (rI CPow fun i j => .int (i ^ j.toNat)) := by
  intro U H x y d e z Q al rx ry hz q
  cases d <;> cases e <;> simp only [gPow, Option.ite_none_right_eq_some, reduceCtorEq] at hz
  obtain ⟨h, e⟩ := hz
  cases e
  exact ⟨_, _, rx, ry, h, q _ H (Same.refl H) rfl⟩
/-! ### comparisons -/
def eqD (d e : D) : Option Bool := match d, e with
  | .str x, .str y => some (decide (x = y))
  | d, e => match d.py, e.py with
    | some p, some q => if SeqAt.shaped p = true ∧ SeqAt.shaped q = true then some (PyData.eqv p q) else none
    | _, _ => none
def gEq (d e : D) : Option D := (eqD d e).map .bl
def gNe (d e : D) : Option D := (eqD d e).map fun b => .bl (!b)
def rEqM (K : PySem.W.Frag) : R2 := fun x y H Q => rEqD K x y H Q ∨ rEq x y H Q
def rNeM (K : PySem.W.Frag) : R2 := fun x y H Q => rNeD K x y H Q ∨ rNe x y H Q
theorem op_eqM {X : Cx} (hu : X.A.units + 64 < cLine) : OpR X (compareOp .Eq) (rEqM X.K) := OpR.or (op_eqD hu) op_eq
theorem op_neM {X : Cx} (hu : X.A.units + 64 < cLine) : OpR X (compareOp .NotEq) (rNeM X.K) := OpR.or (op_neD hu) op_ne
theorem eqD_or {d e : D} {b : Bool} (h : eqD d e = some b) : (∃ x y, d = .str x ∧ e = .str y ∧ b = decide (x = y)) ∨ ∃ p q, d.py = some p ∧ e.py = some q ∧ SeqAt.shaped p = true ∧ SeqAt.shaped q = true ∧ b = PyData.eqv p q := by
  unfold eqD at h
  split at h
  · exact .inl ⟨_, _, rfl, rfl, (Option.some.inj h).symm⟩
  · cases h1 : d.py with
    | none => rw [h1] at h; cases h
    | some p =>
      cases h2 : e.py with
      | none => rw [h1, h2] at h; cases h
      | some p2 =>
        rw [h1, h2] at h
        simp only [Option.ite_none_right_eq_some] at h
        exact .inr ⟨p, p2, rfl, rfl, h.1.1, h.1.2, (Option.some.inj h.2).symm⟩
theorem dec_str (x y : Str) : decide (V.str x = V.str y) = decide (x = y) := by
  by_cases e : x = y
  · subst e; simp
  · simp [e]
theorem s_eq : Snd2 K gEq (rEqM K) := by
  intro U H x y d e z Q al rx ry hz q
  obtain ⟨b, hb, rfl⟩ := Option.map_eq_some_iff.mp hz
  rcases eqD_or hb with ⟨a, c, rfl, rfl, rfl⟩ | ⟨p, p2, h1, h2, s1, s2, rfl⟩
  · refine .inr ⟨by rw [show x = _ from rx, show y = _ from ry]; rfl, ?_⟩
    rw [show x = _ from rx, show y = _ from ry, dec_str]
    exact q _ H (Same.refl H) rfl
  · exact .inl ⟨p, p2, Rep.dp _ _ _ rx h1, Rep.dp _ _ _ ry h2, s1, s2, q _ H (Same.refl H) rfl⟩
theorem s_ne : Snd2 K gNe (rNeM K) := by
  intro U H x y d e z Q al rx ry hz q
  obtain ⟨b, hb, rfl⟩ := Option.map_eq_some_iff.mp hz
  rcases eqD_or hb with ⟨a, c, rfl, rfl, rfl⟩ | ⟨p, p2, h1, h2, s1, s2, rfl⟩
  · refine .inr ⟨by rw [show x = _ from rx, show y = _ from ry]; rfl, ?_⟩
    rw [show x = _ from rx, show y = _ from ry, dec_str]
    exact q _ H (Same.refl H) rfl
  · exact .inl ⟨p, p2, Rep.dp _ _ _ rx h1, Rep.dp _ _ _ ry h2, s1, s2, q _ H (Same.refl H) rfl⟩
def sLt (x y : Str) : Bool := decide (x.cps.toList < y.cps.toList)
def gOrd (f : Int → Int → Bool) (g : Str → Str → Bool) : D → D → Option D
  | .int i, .int j => some (.bl (f i j))
  | .str x, .str y => some (.bl (g x y))
  | _, _ => none
abbrev gLt : D → D → Option D := gOrd (fun i j => decide (i < j)) fun x y => sLt x y
abbrev gLe : D → D → Option D := gOrd (fun i j => decide (i ≤ j)) fun x y => !sLt y x
abbrev gGt : D → D → Option D := gOrd (fun i j => decide (j < i)) fun x y => sLt y x
abbrev gGe : D → D → Option D := gOrd (fun i j => decide (j ≤ i)) fun x y => !sLt x y
def rOrd (f : Int → Int → Bool) (g : Str → Str → Bool) : R2 := fun x y H Q => (∃ i j, x = .int i ∧ y = .int j ∧ Q (.bl (f i j)) H) ∨ (∃ i j, x = .str i ∧ y = .str j ∧ Q (.bl (g i j)) H)
theorem s_ord {f : Int → Int → Bool} {g : Str → Str → Bool} : Snd2 K (gOrd f g) (rOrd f g) := by
  intro U H x y d e z Q al rx ry hz q
  cases d <;> cases e <;> simp [gOrd] at hz
  · subst hz; exact .inl ⟨_, _, rx, ry, q _ H (Same.refl H) rfl⟩
  · subst hz; exact .inr ⟨_, _, rx, ry, q _ H (Same.refl H) rfl⟩
theorem op_ltM {X : Cx} : OpR X (compareOp .Lt) (rOrd (fun i j => decide (i < j)) fun x y => sLt x y) := OpR.or op_lt op_lt_str
theorem op_leM {X : Cx} : OpR X (compareOp .LtE) (rOrd (fun i j => decide (i ≤ j)) fun x y => !sLt y x) := OpR.or op_le op_le_str
theorem op_gtM {X : Cx} : OpR X (compareOp .Gt) (rOrd (fun i j => decide (j < i)) fun x y => sLt y x) := OpR.or op_gt op_gt_str
theorem op_geM {X : Cx} : OpR X (compareOp .GtE) (rOrd (fun i j => decide (j ≤ i)) fun x y => !sLt x y) := OpR.or op_ge op_ge_str
def isNon : D → Bool
  | .non => true
  | _ => false
def gIsN : D → D → Option D
  | d, .non => some (.bl (isNon d))
  | _, _ => none
theorem Rep.non_iff {d : D} {x : V} (r : Rep K U H d x) : decide (x = .non) = isNon d := by
  have fin : ∀ v : V, x = v → decide (v = V.non) = isNon d → decide (x = .non) = isNon d := fun v e h => by rw [e]; exact h
  cases d with
  | non => exact fin _ r rfl
  | bl b => exact fin _ r rfl
  | int b => exact fin _ r rfl
  | str b => exact fin _ r rfl
  | tup b => obtain ⟨a, xs, rfl, _⟩ := r; rfl
  | lst b => obtain ⟨a, xs, rfl, _⟩ := r; rfl
  | dct t k b => obtain ⟨a, xs, rfl, _⟩ := r; rfl
  | obj t k b => obtain ⟨a, dx, xs, rfl, _⟩ := r; rfl
  | fz b => obtain ⟨a, xs, rfl, _⟩ := r; rfl
  | exn p c ns ds => obtain ⟨a, cls, dd, xs, rfl, _⟩ := r; rfl
theorem s_isN : Snd2 K gIsN (fun x y H Q => y = .non ∧ Q (.bl (decide (x = .non))) H) := by
  intro U H x y d e z Q al rx ry hz q
  cases e <;> simp [gIsN] at hz
  subst hz
  refine ⟨ry, ?_⟩
  rw [rx.non_iff]
  exact q _ H (Same.refl H) rfl
def gNotN : D → D → Option D
  | d, .non => some (.bl (!isNon d))
  | _, _ => none
theorem s_notN : Snd2 K gNotN (fun x y H Q => y = .non ∧ Q (.bl (!decide (x = .non))) H) := by
  intro U H x y d e z Q al rx ry hz q
  cases e <;> simp [gNotN] at hz
  subst hz
  refine ⟨ry, ?_⟩
  rw [rx.non_iff]
  exact q _ H (Same.refl H) rfl
/-- in: a flat thing in a list or tuple of such, a text in a text, a key in a dict -/
def isFlat : D → Bool
  | .non => true
  | .bl _ => true
  | .int _ => true
  | .str _ => true
  | _ => false
def eqF : D → D → Bool
  | .non, .non => true
  | .bl a, .bl b => a == b
  | .bl a, .int b => (if a then 1 else 0) == b
  | .int a, .bl b => a == (if b then 1 else 0)
  | .int a, .int b => a == b
  | .str a, .str b => a == b
  | _, _ => false
theorem flat_v {d : D} {x : V} (h : isFlat d = true) (r : Rep K U H d x) : flatV x = true := by
  cases d <;> simp [isFlat] at h <;> rw [show x = _ from r] <;> rfl
theorem eqF_v {d e : D} {x y : V} (h1 : isFlat d = true) (h2 : isFlat e = true) (r1 : Rep K U H d x) (r2 : Rep K U H e y) : eqV x y = eqF d e := by
  cases d <;> simp [isFlat] at h1 <;> rw [show x = _ from r1] <;> cases e <;> simp [isFlat] at h2 <;> rw [show y = _ from r2] <;> rfl
theorem flats_v : ∀ {ds : List D} {xs : List V}, ds.all isFlat = true → Reps K U H ds xs → xs.all flatV = true
  | [], _, _, r => by rw [show _ = _ from r]; rfl
  | d :: ds, _, h, ⟨x, t, e, r1, r2⟩ => by
    rw [List.all_cons, Bool.and_eq_true] at h
    rw [e, List.all_cons, flat_v h.1 r1, flats_v h.2 r2]; rfl
def inF (d : D) (ds : List D) : Bool := ds.any fun e => eqF e d
theorem inF_v {d : D} {x : V} (h1 : isFlat d = true) (r1 : Rep K U H d x) : ∀ {ds : List D} {xs : List V}, ds.all isFlat = true → Reps K U H ds xs → inV x xs = inF d ds
  | [], _, _, r => by rw [show _ = _ from r]; rfl
  | e :: ds, _, h, ⟨y, t, q, r2, r3⟩ => by
    rw [List.all_cons, Bool.and_eq_true] at h
    have ih := inF_v h1 r1 h.2 r3
    rw [q]
    show (eqV y x || inV x t) = (eqF e d || inF d ds)
    rw [ih, eqF_v h.1 h1 r2 r1]
/-- a key of a dict -/
def keyOf : D → Option Key
  | .int i => some (.inl i)
  | .str x => some (.inr x)
  | _ => none
def keysOf : List D → Option (List Key)
  | [] => some []
  | d :: ds => match keyOf d, keysOf ds with
    | some k, some r => some (k :: r)
    | _, _ => none
def kyOf : Key → Ky
  | .inl i => .int i
  | .inr x => .str x
def findK (k : Ky) : List Ky → List D → Option D
  | l :: ks, v :: vs => if l = k then some v else findK k ks vs
  | _, _ => none
/-- what d[k] gives; none outside: no such key -/
def getK : D → D → Option (Option D)
  | .dct false ks vs, k => (keyOf k).map fun k => findK (kyOf k) ks vs
  | .dct true ks vs, .tup xs => if mkD xs = false then (keysOf xs).map fun k => findK (.tup k) ks vs else none
  | _, _ => none
theorem keyOf_v {d : D} {k : Key} {x : V} (h : keyOf d = some k) (r : Rep K U H d x) : x = kV k := by
  cases d <;> simp [keyOf] at h <;> subst h <;> exact r
theorem keysOf_v : ∀ {ds : List D} {k : List Key} {xs : List V}, keysOf ds = some k → Reps K U H ds xs → xs = k.map kV
  | [], k, xs, h, r => by simp [keysOf] at h; subst h; exact r
  | d :: ds, k, xs, h, ⟨x, t, e, r1, r2⟩ => by
    simp only [keysOf] at h
    cases h1 : keyOf d with
    | none => simp [h1] at h
    | some a =>
      cases h2 : keysOf ds with
      | none => simp [h1, h2] at h
      | some b =>
        simp [h1, h2] at h
        subst h
        rw [e, keyOf_v h1 r1, keysOf_v h2 r2]
        rfl
def RepOp (K : PySem.W.Frag) (U : Addr → Prop) (H : Hp) : Option D → Option V → Prop
  | some z, some v => Rep K U H z v
  | none, none => True
  | _, _ => False
theorem findK_valV {κ : Type} [DecidableEq κ] (f : Ky → Option κ) (g : κ → Ky) (fg : ∀ k, f (g k) = some k) (gf : ∀ l k, f l = some k → l = g k) (k : κ) : ∀ (ks : List Ky) (vs : List D) (kvs : List (κ × V)), ks.map f = kvs.map (fun p => some p.1) →
    Reps K U H vs (kvs.map (·.2)) → RepOp K U H (findK (g k) ks vs) (valV kvs k)
  | [], vs, kvs, h, r => by
    cases kvs with
    | nil => cases vs <;> trivial
    | cons p kvs => simp at h
  | l :: ks, vs, [], h, r => by simp at h
  | l :: ks, [], p :: kvs, h, r => by
    have r := Reps.len r
    simp at r
  | l :: ks, v :: vs, p :: kvs, h, ⟨x, t, e, r1, r2⟩ => by
    simp only [List.map_cons, List.cons.injEq] at h e
    obtain ⟨h1, h2⟩ := h
    obtain ⟨rfl, rfl⟩ := e
    have hl : l = g p.1 := gf _ _ h1
    by_cases hk : p.1 = k
    · have e1 : findK (g k) (l :: ks) (v :: vs) = some v := by unfold findK; rw [if_pos (by rw [hl, hk])]
      have e2 : valV (p :: kvs) k = some p.2 := by unfold valV; rw [List.find?_cons_of_pos (by simpa using hk)]; rfl
      rw [e1, e2]
      exact r1
    · have e1 : findK (g k) (l :: ks) (v :: vs) = findK (g k) ks vs := by
        rw [findK, if_neg]
        rintro q
        apply hk
        have := fg p.1
        rw [← hl, q, fg] at this
        exact (Option.some.inj this).symm
      have e2 : valV (p :: kvs) k = valV kvs k := by unfold valV; rw [List.find?_cons_of_neg (by simpa using hk)]
      rw [e1, e2]
      exact findK_valV f g fg gf k ks vs kvs h2 r2
theorem getK_get {d k : D} {r : Option D} {x y : V} (rx : Rep K U H d x) (ry : Rep K U H k y) (h : getK d k = some r) : ∃ a r', x = .ref a ∧ DGet H a y r' ∧ RepOp K U H r r' := by
  cases d with
  | dct t ks vs =>
    obtain ⟨a, xs, rfl, _, dc, q⟩ := rx
    cases t with
    | false =>
      obtain ⟨kvs, h1, h2, h3⟩ := dc
      simp only [getK, Option.map_eq_some_iff] at h
      obtain ⟨c, h4, rfl⟩ := h
      obtain rfl := keyOf_v h4 ry
      subst h3
      refine ⟨a, _, rfl, .inl ⟨kvs, _, h1, rfl, rfl⟩, findK_valV kyK kyOf (fun k => by cases k <;> rfl) (fun l k e => ?_) c ks vs kvs h2 q⟩
      cases l <;> simp [kyK] at e <;> subst e <;> rfl
    | true =>
      obtain ⟨kvs, h1, h2, h3⟩ := dc
      cases k <;> simp only [getK, reduceCtorEq] at h
      simp only [Option.ite_none_right_eq_some, Option.map_eq_some_iff] at h
      obtain ⟨hm, c, h4, rfl⟩ := h
      obtain ⟨b, ys, rfl, h5, _, r5⟩ := ry.tup_raw hm
      obtain rfl := keysOf_v h4 r5
      subst h3
      refine ⟨a, _, rfl, .inr ⟨kvs, _, _, h1, rfl, h5, rfl⟩, findK_valV kyT Ky.tup (fun k => rfl) (fun l k e => ?_) c ks vs kvs h2 q⟩
      cases l <;> simp [kyT] at e
      subst e
      rfl
  | _ => simp [getK] at h
end
end Mi

set_option Elab.async false
set_option linter.all false
set_option maxRecDepth 100000
set_option maxHeartbeats 4000000
/-! Mi8: truth, and, or, conditions, displays, subscripts, slices, in -/
namespace Mi
open PySem PySem.Spec L2
variable [Tb]
/-! ### truth -/
def D.truth : D → Option Bool
  | .non => some false
  | .bl b => some b
  | .int i => some (i != 0)
  | .str x => if x.length ≤ sizeLine then some ((x.length : Int) != 0) else none
  | .tup xs => some (!xs.isEmpty)
  | .lst xs => some (!xs.isEmpty)
  | _ => none
section
variable {K : PySem.W.Frag} {U : Addr → Prop} {H : Hp}
theorem truth_v {d : D} {x : V} {b : Bool} (r : Rep K U H d x) (h : d.truth = some b) : TruV K x H b := by
  cases d with
  | non => simp [D.truth] at h; rw [show x = _ from r]; exact h
  | bl c => simp [D.truth] at h; rw [show x = _ from r]; exact h.symm
  | int i => simp [D.truth] at h; rw [show x = _ from r]; exact h.symm
  | str y =>
    simp only [D.truth, Option.ite_none_right_eq_some] at h
    rw [show x = _ from r]
    exact ⟨h.1, (Option.some.inj h.2).symm⟩
  | tup ds =>
    obtain ⟨a, xs, rfl, h1, _, r⟩ := r.tup_sq
    exact .inr (.inl ⟨xs, h1.sq, by rw [r.empty]; exact (Option.some.inj h).symm⟩)
  | lst ds =>
    obtain ⟨a, xs, rfl, h1, _, r⟩ := r.lst_sq
    exact .inl ⟨xs, .of h1, by rw [r.empty]; exact (Option.some.inj h).symm⟩
  | dct t ks vs => simp [D.truth] at h
  | obj c ns vs => simp [D.truth] at h
  | fz vs => simp [D.truth] at h
  | exn p c ns vs => simp [D.truth] at h
end
def ttTru (m : En → Rs D) : En → Rs Bool := fun env => (m env).bind fun d e => .of d.truth e
def ttNot (m : En → Rs Bool) : En → Rs Bool := fun env => (m env).bind fun b e => .ok (!b) e
def ttAnd (m n : En → Rs Bool) : En → Rs Bool := fun env => (m env).bind fun b e => match b with
  | true => n e
  | false => .ok false e
def ttOr (m n : En → Rs Bool) : En → Rs Bool := fun env => (m env).bind fun b e => match b with
  | true => .ok true e
  | false => n e
def xAnd (m n : En → Rs D) : En → Rs D := fun env => (m env).bind fun d e => match d with
  | .bl true => n e
  | .bl false => .ok (.bl false) e
  | _ => .bad
def xOr (m n : En → Rs D) : En → Rs D := fun env => (m env).bind fun d e => match d with
  | .bl true => .ok (.bl true) e
  | .bl false => n e
  | _ => .bad
def xNot (m : En → Rs D) : En → Rs D := fun env => (m env).bind fun d e => .of (d.truth.map fun b => .bl (!b)) e
def xIf (t : En → Rs Bool) (m n : En → Rs D) : En → Rs D := fun env => (t env).bind fun b e => match b with
  | true => m e
  | false => n e
def xChain (g g' : D → D → Option D) (ma mb mc : En → Rs D) : En → Rs D := fun env => (ma env).bind fun d1 e1 => (mb e1).bind fun d2 e2 => match g d1 d2 with
  | some (.bl true) => (mc e2).bind fun d3 e3 => .of (g' d2 d3) e3
  | some (.bl false) => .ok (.bl false) e2
  | _ => .bad
section
variable {X : Cx} {W : WX} {a b c e : Expr} {rest : List Expr} {m n o : En → Rs D} {tm tn : En → Rs Bool} {pos : Pos}
theorem et_tru (ha : Ev X W a m) (he : ∀ whole, isTrue a X.env whole = (do let v ← whole; standAt a.pos; holding [v] (truthy v)) := by intro _; rfl) : EvT X W a (ttTru m) :=
  PT_imp (pt_truth ha he) fun σ H Q ⟨U, env, sa, po⟩ => ⟨U, env, sa, Po.step po fun v H1 d e1 a r po1 => by
    cases hd : d.truth with
    | none => rw [hd] at po1; exact po1.elim
    | some k => rw [hd] at po1; exact ⟨k, truth_v r hd, po1 k H1 (.refl a.sa) rfl⟩⟩
theorem et_not (ha : EvT X W a tm) : EvT X W (.UnaryOp .Not a pos) (ttNot tm) :=
  PT_imp (pt_not ha) fun σ H Q ⟨U, env, sa, po⟩ => ⟨U, env, sa, Po.step po fun v H1 d e1 a r po1 => by
    obtain rfl : v = d := r
    exact po1 (!v) H1 (.refl a.sa) rfl⟩
abbrev EvW (X : Cx) (W : WX) (e : Expr) (m : En → Rs Bool) : Prop := PW X e (tT X.K W m)
theorem ew_and1 (ha : EvT X W a tm) : EvW X W (.BoolOp .And [a] pos) tm := pw_and1 ha
theorem ew_or1 (ha : EvT X W a tm) : EvW X W (.BoolOp .Or [a] pos) tm := pw_or1 ha
theorem ew_and (ha : EvT X W a tm) (hb : EvW X W (.BoolOp .And (b :: rest) pos) tn) : EvW X W (.BoolOp .And (a :: b :: rest) pos) (ttAnd tm tn) :=
  PW_imp (pw_and ha hb) fun σ H Q ⟨U, env, sa, po⟩ => ⟨U, env, sa, Po.step po fun v H1 d e1 a r po1 => by
    obtain rfl : v = d := r
    cases v with
    | true => exact iteT ⟨U, e1, a.sa, po1⟩
    | false => exact iteF (po1 false H1 (.refl a.sa) rfl)⟩
theorem ew_or (ha : EvT X W a tm) (hb : EvW X W (.BoolOp .Or (b :: rest) pos) tn) : EvW X W (.BoolOp .Or (a :: b :: rest) pos) (ttOr tm tn) :=
  PW_imp (pw_or ha hb) fun σ H Q ⟨U, env, sa, po⟩ => ⟨U, env, sa, Po.step po fun v H1 d e1 a r po1 => by
    obtain rfl : v = d := r
    cases v with
    | true => exact iteT (po1 true H1 (.refl a.sa) rfl)
    | false => exact iteF ⟨U, e1, a.sa, po1⟩⟩
theorem et_w (h : EvW X W a tm) : EvT X W a tm := PW.pt h
theorem ev_and (ha : Ev X W a m) (hb : Ev X W (.BoolOp .And (b :: rest) pos) n) : Ev X W (.BoolOp .And (a :: b :: rest) pos) (xAnd m n) :=
  PE_imp (pe_and ha hb) fun σ H Q ⟨U, env, sa, po⟩ => ⟨U, env, sa, Po.step po fun v H1 d e1 a r po1 => by
    cases d with
    | bl k =>
      cases k with
      | true => exact ⟨true, r, iteT ⟨U, e1, a.sa, po1⟩⟩
      | false => exact ⟨false, r, iteF (po1 _ H1 (.refl a.sa) rfl)⟩
    | _ => exact po1.elim⟩
theorem ev_last {op : BoolOp} (ha : Ev X W a m) : Ev X W (.BoolOp op [a] pos) m := pe_one ha
theorem ev_if (hc : EvT X W c tm) (ha : Ev X W a m) (hb : Ev X W b n) : Ev X W (.IfExp c a b pos) (xIf tm m n) :=
  PE_imp (pe_ifExp hc ha hb) fun σ H Q ⟨U, env, sa, po⟩ => ⟨U, env, sa, Po.step po fun v H1 d e1 a r po1 => by
    obtain rfl : v = d := r
    cases v with
    | true => exact iteT ⟨U, e1, a.sa, po1⟩
    | false => exact iteF ⟨U, e1, a.sa, po1⟩⟩
theorem chain_ok {g g' : D → D → Option D} {r r' : R2} {K : PySem.W.Frag} (hs : Snd2 K g r) (hs' : Snd2 K g' r') {U : Addr → Prop} {env : En} {σ : St} {H : Hp} {Q : VK} (sa : SA K U env σ H) (po : Po (RD K) K W U env σ H (xChain g g' m n o env) Q) :
    tChain r r' (tE K W m) (tE K W n) (tE K W o) σ H Q := ⟨U, env, sa, Po.step po fun v H1 d e1 a r1 po1 => ⟨U, e1, a.sa, Po.step po1 fun v2 H2 d2 e2 a2 r2 po2 => by
    have key : ∀ k, g d d2 = some (.bl k) → (∀ v' H', Same H2 H' → Rep K (Ux U e2 σ) H' (.bl k) v' → ∃ k', v' = .bl k' ∧ (if k' = true then tE K W o σ H' (fun w' H4 => r' v2 w' H4 Q) else Q (.bl false) H')) → r v v2 H2 fun z H3 => ∃ k', z = .bl k' ∧ (if k' = true then tE K W o σ H3 (fun w' H4 => r' v2 w' H4 Q) else Q (.bl false) H3) :=
      fun k e h => hs _ _ _ _ _ _ _ _ a2.sa.alU (a2.rep a.sa r1) r2 e h
    cases hg : g d d2 with
    | none => simp only [hg] at po2; exact po2.elim
    | some z =>
      cases z with
      | bl k =>
        refine key k hg fun v' H' s q => ⟨k, q, ?_⟩
        have a3 := (Ste.refl a2.sa).same s
        simp only [hg] at po2
        cases k with
        | true => exact iteT ⟨U, e2, a3.sa, Po.step (Po.shift (R2 := RD K) a3 po2) fun v3 H3 d3 e3 a4 r3 po3 => by
            obtain ⟨z, hz, q⟩ := Po.of_some a4.sa po3
            exact hs' _ _ _ _ _ _ _ _ a4.sa.alU (a4.rep a3.sa (a3.rep a2.sa r2)) r3 hz q⟩
        | false => exact iteF (po2 _ H' a3 rfl)
      | _ => simp only [hg] at po2; exact po2.elim⟩⟩
theorem et_chain {op op' : CmpOp} {g g' : D → D → Option D} {r r' : R2} (ho : OpR X (compareOp op) r) (ho' : OpR X (compareOp op') r') (hs : Snd2 X.K g r) (hs' : Snd2 X.K g' r') (ha : Ev X W a m) (hb : Ev X W b n) (hc : Ev X W c o)
    (hm : lastMarks [op, op'] [b, c] = false := by with_unfolding_all rfl) : EvT X W (.Compare a [op, op'] [b, c] pos) (tB1 (xChain g g' m n o)) := by
  refine PT_imp (pt_chain ho ho' ha hb hc hm) fun σ H Q ⟨U, env, sa, po⟩ => chain_ok hs hs' sa ?_
  unfold tB1 at po
  generalize xChain g g' m n o env = R at po
  cases R with
  | bad => exact po
  | er x e => exact po
  | ok d e =>
    intro v H' a r
    obtain ⟨b, e, h⟩ := Po.isBl a.sa r (Po.shift (R2 := RB) a po)
    exact ⟨b, e, h⟩
end
/-! ### displays -/
def xTup (ma : En → Rs (List D)) : En → Rs D := fun env => (ma env).bind fun ds e => .ok (.tup ds) e
def xLst (ma : En → Rs (List D)) : En → Rs D := fun env => (ma env).bind fun ds e => .ok (.lst ds) e
section
variable {X : Cx} {W : WX} {es : List Expr} {ma : En → Rs (List D)} {n k : Nat} {pos : Pos}
theorem ev_tup (h : EvN X W es n ma) (hn : n ≤ sizeLine := by decide) : Ev X W (.Tuple es k pos) (xTup ma) :=
  PE_imp (pe_tupU h.pa) fun σ H Q ⟨U, env, sa, po⟩ => ⟨U, env, sa, by
    unfold xTup at po
    cases hm : ma env with
    | bad => rw [hm] at po; exact po
    | er x e => rw [hm] at po; exact po
    | ok ds e =>
      rw [hm] at po
      intro v H1 a r
      refine ⟨by rw [Reps.len r, h.len _ _ _ hm]; exact hn, fun p o ho hp => ?_⟩
      exact po _ _ (a.same (same_new hp)) (rep_tup_new a.sa.alU ho hp r)⟩
theorem ev_lst (h : EvN X W es n ma) (hn : n ≤ sizeLine := by decide) : Ev X W (.List es pos) (xLst ma) :=
  PE_imp (pe_lst h.pa) fun σ H Q ⟨U, env, sa, po⟩ => ⟨U, env, sa, by
    unfold xLst at po
    cases hm : ma env with
    | bad => rw [hm] at po; exact po
    | er x e => rw [hm] at po; exact po
    | ok ds e =>
      rw [hm] at po
      intro v H1 a r
      refine ⟨by rw [Reps.len r, h.len _ _ _ hm]; exact hn, fun p hp => ?_⟩
      exact po _ _ (a.same (same_new hp)) (rep_lst_new a.sa.alU hp r)⟩
end
/-! ### subscripts -/
section
variable {X : Cx} {K : PySem.W.Frag}
def rIxD : R2 := fun x y H Q => ∃ a v, x = .ref a ∧ DGet H a y (some v) ∧ Q v H
theorem ix_dict (hu : X.A.units + 1 < cLine) : IxR X rIxD := by
  intro value slice pins s σ H x y v u Q I rx ry h hs
  obtain ⟨a, z, rfl, g, q⟩ := h
  obtain rfl : v = Value.ref a := rx
  have hT := dict_typeIs I g
  have core : wpAny (model X.prog X.w) X.A (subscripted slice false (.ref a) u) (fun r s₃ => wpAny (model X.prog X.w) X.A (letTemporaryGo value (.ref a) r >>= fun _ => pure r) (EP X pins σ Q) X.xe s₃) X.xe s := by
    rw [hs]
    exact wpAny_operating (wpAny_mono (d_getItem hu I g ry fun w' s3 I3 rw' => (⟨z, H, I3, rw', q⟩ : EP X pins σ Q w' s3)) (fun r s₃ h₃ => wpAny_bind (wpAny_letTemporaryGo (wpAny_pure h₃))) fun _ _ x => x)
  unfold PyProof.Rows.subscriptTail
  refine wpAny_bind ?_
  rw [getitemInPython_of_ne hT.not_modules]
  refine wpAny_bind (wpAny_specialOf hT PySem.F.slot_dict_getitem.lookup ?_)
  first
    | exact wpAny_pure (wpAny_bind core)
    | exact wpAny_bind (wpAny_pure (wpAny_bind core))
    | exact wpAny_bind core
def gIx : D → D → Option D
  | .fz ds, .int i => atI ds i
  | .lst ds, .int i => atI ds i
  | .tup ds, .int i => atI ds i
  | .str z, .int i => if z.length ≤ sizeLine then (atI z.cps.toList i).map fun c => .str ⟨#[c]⟩ else none
  | .dct t ks vs, k => (getK (.dct t ks vs) k).bind id
  | _, _ => none
def rIxM (K : PySem.W.Frag) : R2 := fun x y H Q => rIx K x y H Q ∨ rIxD x y H Q
theorem ix_m (hu : X.A.units + 1 < cLine) : IxR X (rIxM X.K) := IxR.or ix_seq (ix_dict hu)
theorem s_ix : Snd2 K gIx (rIxM K) := by
  intro U H x y d e z Q al rx ry hz q
  cases d with
  | lst ds =>
    cases e <;> simp only [gIx, reduceCtorEq] at hz
    obtain ⟨a, xs, rfl, h1, _, r⟩ := rx.lst_sq
    obtain ⟨v, h2, h3⟩ := r.atI hz
    exact .inl (.inl ⟨a, xs, _, v, rfl, ry, .of h1, h2, q v H (Same.refl H) h3⟩)
  | fz ds =>
    cases e <;> simp only [gIx, reduceCtorEq] at hz
    obtain ⟨a, xs, rfl, h1, r⟩ := rx
    obtain ⟨v, h2, h3⟩ := r.atI hz
    exact .inl (.inl ⟨a, xs, _, v, rfl, ry, h1.sq, h2, q v H (Same.refl H) h3⟩)
  | tup ds =>
    cases e <;> simp only [gIx, reduceCtorEq] at hz
    obtain ⟨a, xs, rfl, h1, _, r⟩ := rx.tup_sq
    obtain ⟨v, h2, h3⟩ := r.atI hz
    exact .inl (.inr (.inl ⟨a, xs, _, v, rfl, ry, h1.sq, h2, q v H (Same.refl H) h3⟩))
  | str w =>
    cases e <;> simp only [gIx, reduceCtorEq, Option.ite_none_right_eq_some, Option.map_eq_some_iff] at hz
    obtain ⟨h1, c, h2, rfl⟩ := hz
    exact .inl (.inr (.inr ⟨w, _, c, rx, ry, h1, h2, q _ H (Same.refl H) rfl⟩))
  | dct t ks vs =>
    simp only [gIx, Option.bind_eq_some_iff, id_eq] at hz
    obtain ⟨r, h1, rfl⟩ := hz
    obtain ⟨a, r', rfl, g, m⟩ := getK_get rx ry h1
    cases r' with
    | none => exact m.elim
    | some v => exact .inr ⟨a, v, rfl, g, q v H (Same.refl H) m⟩
  | _ => simp [gIx] at hz
variable {W : WX} {a b : Expr} {m n : En → Rs D} {pos : Pos} {k : Nat}
theorem ev_ix (c : Co X k) (ha : Ev X W a m) (hb : Ev X W b n) (hs : PlainIx b := by exact fun _ _ => rfl) : Ev X W (.Subscript a b pos) (x2 gIx m n) :=
  PE_imp (pe_ix (ix_m (hu_of c.hr)) ha hb hs) fun σ H Q ⟨U, env, sa, po⟩ => ⟨U, env, sa, Po.step po fun v H1 d e1 a r po1 => ⟨U, e1, a.sa, Po.step po1 fun v2 H2 d2 e2 a2 r2 po2 => by
    obtain ⟨z, hz, q⟩ := Po.of_some a2.sa po2
    exact s_ix _ _ _ _ _ _ _ _ a2.sa.alU (a2.rep a.sa r) r2 hz q⟩⟩
/-! ### slices -/
def RO : (Addr → Prop) → St → Hp → Option Int → Option Int → Prop := fun _ _ _ a b => b = a
abbrev EvO (X : Cx) (W : WX) (e : Option Expr) (m : En → Rs (Option Int)) : Prop := PO X e (tM RO X.K W m)
def oNone : En → Rs (Option Int) := fun env => .ok none env
def isInt : D → Option Int
  | .int i => some i
  | _ => none
def oSome (m : En → Rs D) : En → Rs (Option Int) := fun env => (m env).bind fun d e => .of ((isInt d).map some) e
theorem isInt_v {U : Addr → Prop} {H : Hp} {d : D} {i : Int} {x : V} (h : isInt d = some i) (r : Rep K U H d x) : x = .int i := by
  cases d <;> simp [isInt] at h
  subst h
  exact r
theorem PO_imp {e : Option Expr} {t t' : TO} (h : PO X e t) (k : ∀ σ H Q, t' σ H Q → t σ H Q) : PO X e t' := ⟨fun pins s σ H Q I q => h.run pins s σ H Q I (k σ H Q q)⟩
theorem eo_none : EvO X W none oNone := PO_imp po_none fun σ H Q ⟨U, env, sa, po⟩ => po none H (.refl sa) rfl
theorem eo_some (h : Ev X W a m) : EvO X W (some a) (oSome m) :=
  PO_imp (po_some h) fun σ H Q ⟨U, env, sa, po⟩ => ⟨U, env, sa, Po.step po fun v H1 d e1 a r po1 => by
    cases hd : isInt d with
    | none => rw [hd] at po1; exact po1.elim
    | some i => rw [hd] at po1; exact ⟨i, isInt_v hd r, po1 (some i) H1 (.refl a.sa) rfl⟩⟩
def cutL {α : Type} (xs : List α) (lo hi : Option Int) : List α := (xs.drop (HT.sIx xs.length 0 lo)).take (HT.sIx xs.length xs.length hi - HT.sIx xs.length 0 lo)
def gSl (lo hi : Option Int) : D → Option D
  | .fz ds => some (.lst (cutL ds lo hi))
  | .lst ds => some (.lst (cutL ds lo hi))
  | .tup ds => some (.tup (cutL ds lo hi))
  | .str z => if z.length ≤ sizeLine then some (.str (cutS z lo hi)) else none
  | _ => none
def xSl (m : En → Rs D) (lo hi : En → Rs (Option Int)) : En → Rs D := fun env => (m env).bind fun d e1 => (lo e1).bind fun l e2 => (hi e2).bind fun h e3 => .of (gSl l h d) e3
theorem Reps.cut {U : Addr → Prop} {H : Hp} {ds : List D} {xs : List V} (r : Reps K U H ds xs) (lo hi : Option Int) : Reps K U H (cutL ds lo hi) (cutV xs lo hi) := by
  unfold cutL cutV
  rw [r.len]
  exact (r.drop _).take _
def rSlM (K : PySem.W.Frag) : V → Option Int → Option Int → Hp → VK → Prop := fun x lo hi H Q => rSlL K x lo hi H Q ∨ (rSlU K x lo hi H Q ∨ rSlS x lo hi H Q)
theorem sl_m : SlR X (rSlM X.K) := SlR.or sl_list (SlR.or sl_tupU sl_str)
theorem s_sl {lo hi : Option Int} {U : Addr → Prop} {H : Hp} {x : V} {d z : D} {Q : VK} (al : Al U H) (rx : Rep K U H d x) (hz : gSl lo hi d = some z) (q : ∀ v H', Same H H' → Rep K U H' z v → Q v H') : rSlM K x lo hi H Q := by
  cases d with
  | lst ds =>
    cases hz
    obtain ⟨a, xs, rfl, h1, _, r⟩ := rx.lst_sq
    exact .inl ⟨a, xs, rfl, .of h1, fun p hp => q _ _ (same_new hp) (rep_lst_new al hp (r.cut lo hi))⟩
  | fz ds =>
    cases hz
    obtain ⟨a, xs, rfl, h1, r⟩ := rx
    exact .inl ⟨a, xs, rfl, h1.sq, fun p hp => q _ _ (same_new hp) (rep_lst_new al hp (r.cut lo hi))⟩
  | tup ds =>
    cases hz
    have rx' := rx
    obtain ⟨a, xs, rfl, h1, _, r⟩ := rx.tup_sq
    refine .inr (.inl ⟨a, xs, rfl, h1.sq, fun ⟨e1, e2⟩ => ?_, fun _ p o ho hp => q _ _ (same_new hp) (rep_tup_new al ho hp (r.cut lo hi))⟩)
    have e : cutL ds lo hi = ds := by
      unfold cutL
      rw [← r.len, e1, e2, List.drop_zero, Nat.sub_zero, List.take_of_length_le (by rw [r.len]; exact Nat.le_refl _)]
    rw [e] at q
    exact q _ H (Same.refl H) rx'
  | str w =>
    simp only [gSl, Option.ite_none_right_eq_some] at hz
    obtain ⟨h1, e⟩ := hz
    cases e
    exact .inr (.inr ⟨w, rx, h1, q _ H (Same.refl H) rfl⟩)
  | _ => simp [gSl] at hz
theorem ev_sl {lo hi : Option Expr} {ml mh : En → Rs (Option Int)} {p2 : Pos} (ha : Ev X W a m) (hl : EvO X W lo ml) (hh : EvO X W hi mh) : Ev X W (.Subscript a (.Slice lo hi none p2) pos) (xSl m ml mh) :=
  PE_imp (pe_slice sl_m ha hl hh) fun σ H Q ⟨U, env, sa, po⟩ => ⟨U, env, sa, Po.step po fun v H1 d e1 a r po1 => ⟨U, e1, a.sa, Po.step po1 fun l H2 l' e2 a2 r2 po2 => ⟨U, e2, a2.sa, Po.step po2 fun h H3 h' e3 a3 r3 po3 => by
    obtain rfl : l = l' := r2
    obtain rfl : h = h' := r3
    obtain ⟨z, hz, q⟩ := Po.of_some a3.sa po3
    exact s_sl a3.sa.alU (a3.rep a2.sa (a2.rep a.sa r)) hz q⟩⟩⟩
/-! ### in -/
def sIn (x y : Str) : Option Bool := match x.cps.toList with
  | [c] => some (decide (c ∈ y.cps.toList))
  | _ => none
def gInB : D → D → Option Bool
  | d, .lst ds => if isFlat d = true ∧ ds.all isFlat = true then some (inF d ds) else none
  | d, .tup ds => if isFlat d = true ∧ ds.all isFlat = true then some (inF d ds) else none
  | .str x, .str y => sIn x y
  | d, .dct t ks vs => (getK (.dct t ks vs) d).map (·.isSome)
  | _, _ => none
def gIn (d e : D) : Option D := (gInB d e).map .bl
def gNotIn (d e : D) : Option D := (gInB d e).map fun b => .bl (!b)
def rInD (neg : Bool) : R2 := fun y x H Q => ∃ a o, x = .ref a ∧ DGet H a y o ∧ Q (.bl (if neg then !o.isSome else o.isSome)) H
theorem op_inD (hu : X.A.units + 1 < cLine) : OpR X (compareOp .In) (rInD false) := by
  intro pins s σ H y x u v Q I ry rx h
  obtain ⟨a, o, rfl, g, q⟩ := h
  obtain rfl : v = Value.ref a := rx
  exact d_in hu I g ry fun s3 I3 => ⟨.bl _, H, I3, rfl, q⟩
theorem op_notInD (hu : X.A.units + 1 < cLine) : OpR X (compareOp .NotIn) (rInD true) := by
  intro pins s σ H y x u v Q I ry rx h
  obtain ⟨a, o, rfl, g, q⟩ := h
  obtain rfl : v = Value.ref a := rx
  exact d_notIn hu I g ry fun s3 I3 => ⟨.bl _, H, I3, rfl, q⟩
def rSign (neg : Bool) : R2 := fun x y H Q => ∃ (c : Nat) (z : Str), x = .str ⟨#[c]⟩ ∧ y = .str z ∧ Q (.bl (if neg then !decide (c ∈ z.cps.toList) else decide (c ∈ z.cps.toList))) H
def rInM (K : PySem.W.Frag) (neg : Bool) : R2 := fun x y H Q => rIn K neg x y H Q ∨ (rSign neg x y H Q ∨ rInD neg x y H Q)
theorem op_inM (hu : X.A.units + 1 < cLine) : OpR X (compareOp .In) (rInM X.K false) := OpR.or op_in_seq (OpR.or op_in_sign (op_inD hu))
theorem op_notInM (hu : X.A.units + 1 < cLine) : OpR X (compareOp .NotIn) (rInM X.K true) := OpR.or op_notIn_seq (OpR.or op_notIn_sign (op_notInD hu))
theorem in_core {neg : Bool} {U : Addr → Prop} {H : Hp} {x y : V} {d e : D} {b : Bool} {Q : VK} (rx : Rep K U H d x) (ry : Rep K U H e y) (hb : gInB d e = some b) (q : ∀ v, v = V.bl (if neg then !b else b) → Q v H) : rInM K neg x y H Q := by
  have fl : ∀ ds xs, isFlat d = true → ds.all isFlat = true → inF d ds = b → Reps K U H ds xs → flatV x = true ∧ xs.all flatV = true ∧ inV x xs = b := fun ds xs h1 h2 h3 r => ⟨flat_v h1 rx, flats_v h2 r, by rw [inF_v h1 rx h2 r, h3]⟩
  cases e with
  | lst ds =>
    obtain ⟨a, xs, rfl, h1, _, r⟩ := ry.lst_sq
    have hb : (if isFlat d = true ∧ ds.all isFlat = true then some (inF d ds) else none) = some b := by cases d <;> exact hb
    rw [Option.ite_none_right_eq_some] at hb
    obtain ⟨⟨h2, h3⟩, e⟩ := hb
    obtain ⟨f1, f2, f3⟩ := fl ds xs h2 h3 (Option.some.inj e) r
    exact .inl ⟨a, xs, rfl, .inl (.of h1), f1, f2, q _ (by rw [f3])⟩
  | tup ds =>
    obtain ⟨a, xs, rfl, h1, _, r⟩ := ry.tup_sq
    have hb : (if isFlat d = true ∧ ds.all isFlat = true then some (inF d ds) else none) = some b := by cases d <;> exact hb
    rw [Option.ite_none_right_eq_some] at hb
    obtain ⟨⟨h2, h3⟩, e⟩ := hb
    obtain ⟨f1, f2, f3⟩ := fl ds xs h2 h3 (Option.some.inj e) r
    exact .inl ⟨a, xs, rfl, .inr h1.sq, f1, f2, q _ (by rw [f3])⟩
  | str z =>
    cases d <;> simp only [gInB, reduceCtorEq] at hb
    rename_i w
    unfold sIn at hb
    cases hl : w.cps.toList with
    | nil => rw [hl] at hb; cases hb
    | cons c t =>
      cases t with
      | cons c2 t => rw [hl] at hb; cases hb
      | nil =>
        rw [hl] at hb
        have hb : decide (c ∈ z.cps.toList) = b := Option.some.inj hb
        have ew : w = ⟨#[c]⟩ := by
          cases w
          have : _ = [c].toArray := congrArg List.toArray hl
          simp at this
          rw [this]
        refine .inr (.inl ⟨c, z, by rw [← ew]; exact rx, ry, q _ ?_⟩)
        rw [hb]
  | dct t ks vs =>
    have hb : (getK (.dct t ks vs) d).map (·.isSome) = some b := by cases d <;> exact hb
    obtain ⟨r, h1, rfl⟩ := Option.map_eq_some_iff.mp hb
    obtain ⟨a, r', rfl, g, m⟩ := getK_get ry rx h1
    refine .inr (.inr ⟨a, r', rfl, g, q _ ?_⟩)
    cases r <;> cases r' <;> first | rfl | exact m.elim
  | _ => cases d <;> simp [gInB] at hb
theorem s_in : Snd2 K gIn (rInM K false) := by
  intro U H x y d e z Q al rx ry hz q
  obtain ⟨b, hb, rfl⟩ := Option.map_eq_some_iff.mp hz
  exact in_core rx ry hb fun v hv => q v H (Same.refl H) hv
theorem s_notIn : Snd2 K gNotIn (rInM K true) := by
  intro U H x y d e z Q al rx ry hz q
  obtain ⟨b, hb, rfl⟩ := Option.map_eq_some_iff.mp hz
  exact in_core rx ry hb fun v hv => q v H (Same.refl H) hv
end
end Mi

set_option Elab.async false
set_option linter.all false
set_option maxRecDepth 100000
set_option maxHeartbeats 4000000
/-! Mi9: statements -/
namespace Mi
open PySem PySem.Spec L2
variable [Tb]
section
variable {K : PySem.W.Frag} {W : WX} {U : Addr → Prop} {env : En} {σ : St} {H : Hp}
theorem Fre.ste {env' : En} {H' : Hp} {o : Ob} {p : Addr} (sa : SA K U env σ H) (f : Fre K U env σ H env' H' o p) : Ste K U env σ H env' σ H' ∧ Rep K (Ux U env' σ) H' o.val (.ref p) := by
  have sub : ∀ x, Ux U env' σ x → Ux (Up U p) env' σ x := fun x h => ux_up.mpr (.inl h)
  have np : ¬ Ux U env' σ p := fun h => by
    rcases h with h | h
    · exact f.nu h
    · exact f.sa.nu p h (.inr rfl)
  have r := RepO.to (K := K) (fun _ _ _ q => q) (fun x o n _ q => n (sub x q)) (fun _ q => q) f.ob
  refine ⟨⟨⟨f.sa.len, f.sa.tb, fun a h => f.sa.alN a (.inl h), fun a c h => f.sa.nu a c (.inl h), f.sa.inj, fun i d h => ?_, fun i s o h1 h2 => ?_⟩, f.gr, f.fr, fun i o h => ?_⟩, ?_⟩
  · obtain ⟨v, e, r⟩ := f.sa.val i d h
    exact ⟨v, e, Rep.to (fun _ _ _ q => q) (fun x o n _ q => n (sub x q)) _ v r⟩
  · obtain ⟨a, e, r⟩ := f.sa.ob i s o h1 h2
    exact ⟨a, e, RepO.to (fun _ _ _ q => q) (fun x o n _ q => n (sub x q)) (fun _ q => q) r⟩
  · obtain ⟨o', e⟩ := f.io i o h
    exact ⟨o', e, rfl⟩
  · cases o with
    | lst ds => obtain ⟨xs, e, r⟩ := r; exact ⟨p, xs, rfl, ⟨e, np⟩, r⟩
    | dct t ks ds => obtain ⟨xs, e, r⟩ := r; exact ⟨p, xs, rfl, np, e.rd, r⟩
    | ins c ns ds => obtain ⟨dx, xs, e, l, r⟩ := r; exact ⟨p, dx, xs, rfl, np, e, l, r⟩
/-- the object of a name is changed -/
theorem Ste.write {i : Nat} {s : Sl} {o o' : Ob} {a : Addr} {ho : HO} (sa : SA K U env σ H) (h1 : env[i]? = some s) (h2 : s.ob = some o) (ha : σ[i]? = some (some (V.ref a))) (hr : ∀ H', (∀ b u, ¬ Ux U env σ b → HN H b u → HN H' b u) → H' a = some ho → RepO K (Ux U env σ) H' o' a) :
    Ste K U env σ H (env.set i (s.put o')) σ (upd H a ho) := by
  have hi : i < env.length := (List.getElem?_eq_some_iff.mp h1).1
  have pob : (s.put o').ob = some o' := by cases s <;> first | rfl | cases h2
  have get : ∀ {j : Nat} {t : Sl}, (env.set i (s.put o'))[j]? = some t → (j = i ∧ t = s.put o') ∨ (j ≠ i ∧ env[j]? = some t) := fun {j t} h => by
    by_cases e : i = j
    · subst e
      rw [List.getElem?_set_self hi] at h
      cases h
      exact .inl ⟨rfl, rfl⟩
    · rw [List.getElem?_set_ne e] at h
      exact .inr ⟨Ne.symm e, h⟩
  have ca : Chg env σ a := ⟨i, s, o, h1, h2, ha⟩
  have ch : ∀ x, Chg (env.set i (s.put o')) σ x → Chg env σ x := fun x ⟨j, t, q, h3, h4, h5⟩ => by
    rcases get h3 with ⟨rfl, rfl⟩ | ⟨n, h6⟩
    · exact ⟨j, s, o, h1, h2, h5⟩
    · exact ⟨j, t, q, h6, h4, h5⟩
  have hc : ∀ x, Chg env σ x → Chg (env.set i (s.put o')) σ x := fun x ⟨j, t, q, h3, h4, h5⟩ => by
    by_cases e : j = i
    · subst e
      exact ⟨j, s.put o', o', List.getElem?_set_self hi, pob, h5⟩
    · exact ⟨j, t, q, by rw [List.getElem?_set_ne (Ne.symm e)]; exact h3, h4, h5⟩
  have sub : ∀ x, Ux U (env.set i (s.put o')) σ x → Ux U env σ x := fun x q => q.imp id (ch x)
  have keep : ∀ b u, ¬ Ux U env σ b → HN H b u → HN (upd H a ho) b u := fun b u n e => ⟨by
    rw [upd_ne (fun z => n (by rw [z]; exact .inr ca))]
    exact e.1, e.2⟩
  refine ⟨⟨by rw [List.length_set]; exact sa.len, ?_, fun x h => ?_, fun x c => sa.nu x (ch x c), fun j k t u q r x h3 h4 h5 h6 h7 h8 => ?_, fun j d h => ?_, fun j t q h3 h4 => ?_⟩, fun b u n e => ?_, fun x c => .inl (ch x c), fun j q h => ?_⟩
  · obtain ⟨b, e, r⟩ := sa.ob i s o h1 h2
    rw [ha] at e
    cases e
    obtain ⟨u, e, w⟩ := r.own
    exact sa.tb.write e w fun c v n q _ => by rw [upd_ne n]; exact q
  · obtain ⟨u, e⟩ := sa.alN x h
    by_cases z : x = a
    · rw [z]; exact (hr _ keep upd_same).hnO
    · exact ⟨u, ⟨by rw [upd_ne z]; exact e.1.1, e.1.2⟩, e.2⟩
  · have g : ∀ {j : Nat} {t : Sl} {q : Ob}, (env.set i (s.put o'))[j]? = some t → t.ob = some q → ∃ t' q', env[j]? = some t' ∧ t'.ob = some q' := fun {j t q} h3 h4 => by
      rcases get h3 with ⟨rfl, rfl⟩ | ⟨n, h6⟩
      · exact ⟨s, o, h1, h2⟩
      · exact ⟨t, q, h6, h4⟩
    obtain ⟨t1, q1, e1, e2⟩ := g h3 h4
    obtain ⟨t2, q2, e3, e4⟩ := g h5 h6
    exact sa.inj j k t1 t2 q1 q2 x e1 e2 e3 e4 h7 h8
  · rcases get h with ⟨rfl, e⟩ | ⟨n, h⟩
    · rw [← e] at pob; cases pob
    · obtain ⟨v, e, r⟩ := sa.val j d h
      exact ⟨v, e, Rep.to keep (fun x o n _ q => n (sub x q)) _ v r⟩
  · rcases get h3 with ⟨rfl, rfl⟩ | ⟨n, h3⟩
    · rw [pob] at h4
      cases h4
      exact ⟨a, ha, RepO.to (fun _ _ _ q => q) (fun x o n _ q => n (sub x q)) (fun _ q => q) (hr _ keep upd_same)⟩
    · obtain ⟨b, e, r⟩ := sa.ob j t q h3 h4
      refine ⟨b, e, RepO.to keep (fun x o n _ q => n (sub x q)) (fun u z => ?_) r⟩
      refine ⟨?_, z.2⟩
      rw [upd_ne (fun z => n ?_)]
      · exact z.1
      · rw [z] at e
        exact sa.inj j i t s q o a h3 h4 h1 h2 e ha
  · refine ⟨?_, e.2⟩
    rw [upd_ne (fun z => n (by rw [z]; exact ca))]
    exact e.1
  · by_cases e : j = i
    · subst e
      rw [h] at h1
      cases h1
      exact ⟨o', by rw [List.getElem?_set_self hi]; rfl, rfl⟩
    · exact ⟨q, by rw [List.getElem?_set_ne (Ne.symm e)]; exact h, rfl⟩
end
/-! ### targets -/
def gSet (i : Nat) (d : D) (env : En) : Option En := match env[i]? with
  | some (.io _) => none
  | some _ => some (env.set i (.v d))
  | none => none
/-- only the slots `is` are stored to -/
def Btw (is : List Nat) (σ σ' : St) : Prop := σ'.length = σ.length ∧ ∀ j, j ∉ is → σ'[j]? = σ[j]?
theorem Btw.trans {is js : List Nat} {σ σ1 σ2 : St} (a : Btw is σ σ1) (b : Btw js σ1 σ2) : Btw (is ++ js) σ σ2 :=
  ⟨b.1.trans a.1, fun j h => (b.2 j fun z => h (List.mem_append_right _ z)).trans (a.2 j fun z => h (List.mem_append_left _ z))⟩
def tGt (K : PySem.W.Frag) (is : List Nat) (mg : D → En → Option En) : TG := fun v σ H Q => ∃ U env d env', SA K U env σ H ∧ Rep K (Ux U env σ) H d v ∧ mg d env = some env' ∧ ∀ σ' H', Ste K U env σ H env' σ' H' → Btw is σ σ' → Q σ' H'
def tGs (K : PySem.W.Frag) (is : List Nat) (mg : List D → En → Option En) : TGs := fun vs σ H Q => ∃ U env ds env', SA K U env σ H ∧ Reps K (Ux U env σ) H ds vs ∧ mg ds env = some env' ∧ ∀ σ' H', Ste K U env σ H env' σ' H' → Btw is σ σ' → Q σ' H'
abbrev EvG (X : Cx) (tg : Expr) (is : List Nat) (mg : D → En → Option En) : Prop := PG X tg (tGt X.K is mg)
abbrev EvGs (X : Cx) (tg : List Expr) (is : List Nat) (mg : List D → En → Option En) : Prop := PGs X tg (tGs X.K is mg)
theorem PG_imp {X : Cx} {tg : Expr} {t t' : TG} (h : PG X tg t) (k : ∀ v σ H Q, t' v σ H Q → t v σ H Q) : PG X tg t' := ⟨fun pins s σ H v u Q I r q => h.run pins s σ H v u Q I r (k v σ H Q q)⟩
theorem PGs_imp {X : Cx} {tg : List Expr} {t t' : TGs} (h : PGs X tg t) (k : ∀ v σ H Q, t' v σ H Q → t v σ H Q) : PGs X tg t' := ⟨fun pins s σ H v u Q I r q => h.run pins s σ H v u Q I r (k v σ H Q q)⟩
theorem PG_or {X : Cx} {tg : Expr} {t t' : TG} (h : PG X tg t) (h' : PG X tg t') : PG X tg fun v σ H Q => t v σ H Q ∨ t' v σ H Q :=
  ⟨fun pins s σ H v u Q I r q => q.elim (h.run pins s σ H v u Q I r) (h'.run pins s σ H v u Q I r)⟩
def gsNil : List D → En → Option En := fun ds env => match ds with
  | [] => some env
  | _ => none
def gsCons (mg : D → En → Option En) (ms : List D → En → Option En) : List D → En → Option En := fun ds env => match ds with
  | d :: r => (mg d env).bind fun e => ms r e
  | [] => none
/-- a tuple or a list taken apart -/
def gUnp (n : Nat) (ms : List D → En → Option En) : D → En → Option En := fun d env => match d with
  | .tup ds => if ds.length = n then ms ds env else none
  | .lst ds => if ds.length = n then ms ds env else none
  | _ => none
theorem gSet_ok {K : PySem.W.Frag} {U : Addr → Prop} {env env' : En} {σ : St} {H : Hp} {i : Nat} {d : D} {v : V} (sa : SA K U env σ H) (r : Rep K (Ux U env σ) H d v) (h : gSet i d env = some env') : Ste K U env σ H env' (σ.set i (some v)) H := by
  unfold gSet at h
  cases e : env[i]? with
  | none => rw [e] at h; cases h
  | some s =>
    have hi := (List.getElem?_eq_some_iff.mp e).1
    cases s with
    | io o => rw [e] at h; cases h
    | un => rw [e] at h; cases h; exact Ste.set sa hi (fun o q => by rw [e] at q; cases q) r
    | v d => rw [e] at h; cases h; exact Ste.set sa hi (fun o q => by rw [e] at q; cases q) r
    | ow d => rw [e] at h; cases h; exact Ste.set sa hi (fun o q => by rw [e] at q; cases q) r
section
variable {X : Cx} {e : Expr} {es : List Expr} {is js : List Nat} {mg : D → En → Option En} {ms : List D → En → Option En} {n k : Nat} {pos : Pos}
theorem eg_name {i : Nat} (h : PG X e (gName i)) : EvG X e [i] (gSet i) := PG_imp h fun v σ H Q ⟨U, env, d, env', sa, r, hm, q⟩ => q _ _ (gSet_ok sa r hm) ⟨List.length_set, fun j hj => List.getElem?_set_ne fun z => hj (by simp [z])⟩
theorem eg_nil : EvGs X [] [] gsNil := PGs_imp pgs_nil fun vs σ H Q ⟨U, env, ds, env', sa, r, hm, q⟩ => by
  cases ds with
  | nil =>
    cases hm
    exact ⟨r, q σ H (.refl sa) ⟨rfl, fun _ _ => rfl⟩⟩
  | cons d ds => cases hm
theorem eg_cons (h1 : EvG X e is mg) (h2 : EvGs X es js ms) (hs : (assignEach (e :: es) X.env).map (·.2) = assign e X.env :: (assignEach es X.env).map (·.2) := by rfl) : EvGs X (e :: es) (is ++ js) (gsCons mg ms) :=
  PGs_imp (pgs_cons h1 h2 hs) fun vs σ H Q ⟨U, env, ds, env', sa, r, hm, q⟩ => by
    cases ds with
    | nil => cases hm
    | cons d ds =>
      obtain ⟨x, t, rfl, r1, r2⟩ := r
      obtain ⟨e1, h3, h4⟩ := Option.bind_eq_some_iff.mp hm
      exact ⟨x, t, rfl, U, env, d, e1, sa, r1, h3, fun σ' H' a w => ⟨U, e1, ds, env', a.sa, a.reps sa r2, h4, fun σ2 H2 a2 w2 => q σ2 H2 (a.trans a2) (w.trans w2)⟩⟩
theorem eg_unp (c : X.calm = true) (h : EvGs X es is ms) (hn : (assignEach es X.env).length = n := by rfl) (hst : (assignEach es X.env).findIdx? (·.1) = none := by rfl) : EvG X (.Tuple es k pos) is (gUnp n ms) :=
  PG_imp (PG_or (pg_tup c h hn hst) (pg_unl c h hn hst)) fun v σ H Q ⟨U, env, d, env', sa, r, hm, q⟩ => by
    cases d with
    | tup ds =>
      simp only [gUnp, Option.ite_none_right_eq_some] at hm
      obtain ⟨a, xs, rfl, h1, _, r⟩ := r.tup_sq
      exact .inl ⟨a, xs, rfl, h1.sq, by rw [r.len]; exact hm.1, U, env, ds, env', sa, r, hm.2, q⟩
    | lst ds =>
      simp only [gUnp, Option.ite_none_right_eq_some] at hm
      obtain ⟨a, xs, rfl, h1, _, r⟩ := r.lst_sq
      exact .inr ⟨a, xs, rfl, .of h1, by rw [r.len]; exact hm.1, U, env, ds, env', sa, r, hm.2, q⟩
    | _ => simp [gUnp] at hm
end
/-! ### assignments, expressions, if, return -/
def mAsg (mg : D → En → Option En) (m : En → Rs D) : En → Rs Fl := fun env => (m env).bind fun d e1 => match mg d e1 with
  | some e2 => .ok .nx e2
  | none => .bad
def mDrop (m : En → Rs D) : En → Rs Fl := fun env => (m env).bind fun _ e1 => .ok .nx e1
def mRet (m : En → Rs D) : En → Rs Fl := fun env => (m env).bind fun d e1 => .ok (.rt d) e1
def mRetN : En → Rs Fl := fun env => .ok (.rt .non) env
def mIf (t : En → Rs Bool) (m n : En → Rs Fl) : En → Rs Fl := fun env => (t env).bind fun b e => match b with
  | true => m e
  | false => n e
def mBad : En → Rs Fl := fun _ => .bad
/-- several names at once -/
def mPar (is : List Nat) (ma : En → Rs (List D)) : En → Rs Fl := fun env => (ma env).bind fun ds e1 => match parS is ds e1 with
  | some e2 => .ok .nx e2
  | none => .bad
where parS : List Nat → List D → En → Option En
  | [], [], e => some e
  | i :: is, d :: ds, e => (gSet i d e).bind (parS is ds)
  | _, _, _ => none
section
variable {X : Cx} {W : WX} {tg e c : Expr} {a b : List Stmt} {st : Stmt} {mg : D → En → Option En} {m : En → Rs D} {t : En → Rs Bool} {ms ns : En → Rs Fl} {pos : Pos}
theorem asg_imp {is : List Nat} {te : TE} {K : PySem.W.Frag} {Dn : Ends} {σ : St} {H : Hp} {U : Addr → Prop} {env : En} (sa : SA K U env σ H) (po : PoS K W U env σ H (mAsg mg m env) Dn) : tAsg (tE K W m) (tGt K is mg) Dn σ H := ⟨U, env, sa, PoS.step po fun v H1 d e1 a r po1 => by
    cases hm : mg d e1 with
    | none => rw [hm] at po1; exact po1.elim
    | some e2 => rw [hm] at po1; exact ⟨U, e1, d, e2, a.sa, r, hm, fun σ' H' a2 _ => po1 σ' H' a2⟩⟩
theorem es_asg {is : List Nat} (he : Ev X W e m) (hg : EvG X tg is mg) (hs : swapsWithSole [tg] e pos.line X.env = pure false := by rfl) (hw : swappedStores [tg] e X.env = pure none := by rfl) (h1 : (assignEach [tg] X.env).map (·.2) = [assign tg X.env] := by rfl) :
    EvS X W (.Assign [tg] e pos) (mAsg mg m) := PS_imp (ps_asg he hg hs hw h1) fun Dn σ H ⟨U, env, sa, po⟩ => asg_imp (te := tE X.K W m) sa po
theorem es_of_set {i : Nat} (h : ∀ te, PE X e te → PS X st (tAsg te (gName i))) (he : Ev X W e m) : EvS X W st (mAsg (gSet i) m) :=
  PS_imp (h _ he) fun Dn σ H ⟨U, env, sa, po⟩ => ⟨U, env, sa, PoS.step po fun v H1 d e1 a r po1 => by
    cases hm : gSet i d e1 with
    | none => rw [hm] at po1; exact po1.elim
    | some e2 => rw [hm] at po1; exact po1 _ _ (gSet_ok a.sa r hm)⟩
theorem es_set {i : Nat} {x : Str} {p : Pos} (he : Ev X W e m) (hN : X.N.Nodup) (hi : X.N[i]? = some x) (hx : Loc X.env.scope x) (hs : swapsWith e (some (.Name x p)) pos.line X.env = pure false := by rfl) (hf : X.fn x = true ∨ X.env.scope.names.lookup x = some .local := by first | exact .inl rfl | exact .inr rfl | assumption) :
    EvS X W (.Assign [.Name x p] e pos) (mAsg (gSet i) m) := es_of_set (fun te h => ps_set hN hi hx h hs hf) he
theorem es_expr (he : Ev X W e m) (hs : swapsWith e none pos.line X.env = pure false := by rfl) : EvS X W (.Expr e pos) (mDrop m) :=
  PS_imp (ps_expr he hs) fun Dn σ H ⟨U, env, sa, po⟩ => ⟨U, env, sa, PoS.step po fun v H1 d e1 a r po1 => po1 σ H1 (.refl a.sa)⟩
theorem es_ret (he : Ev X W e m) : EvS X W (.Return (some e) pos) (mRet m) :=
  PS_imp (ps_ret he) fun Dn σ H ⟨U, env, sa, po⟩ => ⟨U, env, sa, PoS.step po fun v H1 d e1 a r po1 => po1 σ H1 (.refl a.sa) v r⟩
theorem es_if (hc : EvT X W c t) (ha : EvSs X W a ms) (hb : EvSs X W b ns) : EvS X W (.If c a b pos) (mIf t ms ns) :=
  PS_imp (ps_if hc ha hb) fun Dn σ H ⟨U, env, sa, po⟩ => ⟨U, env, sa, PoS.step po fun v H1 d e1 a r po1 => by
    obtain rfl : v = d := r
    cases v with
    | true => exact iteT ⟨U, e1, a.sa, po1⟩
    | false => exact iteF ⟨U, e1, a.sa, po1⟩⟩
def mPass : En → Rs Fl := fun env => .ok .nx env
def mBrk : En → Rs Fl := fun env => .ok .bk env
def mCnt : En → Rs Fl := fun env => .ok .ct env
theorem es_par2 {i j : Nat} {ma : En → Rs (List D)} {e1 e2 : Expr} (h : ∀ ta, PA X [e1, e2] ta → PS X st (tPar i j ta)) (he : EvN X W [e1, e2] 2 ma) : EvS X W st (mPar [i, j] ma) :=
  PS_imp (h _ he.pa) fun Dn σ H ⟨U, env, sa, po⟩ => ⟨U, env, sa, PoS.step po fun vs H1 ds e1 a r po1 => by
    cases hm : mPar.parS [i, j] ds e1 with
    | none => rw [hm] at po1; exact po1.elim
    | some e2 =>
      rw [hm] at po1
      match ds, hm, r with
      | [d1, d2], hm, ⟨x, _, e, r1, y, _, e', r2, e''⟩ =>
        obtain ⟨e3, h3, hm⟩ := Option.bind_eq_some_iff.mp hm
        obtain ⟨e4, h4, hm⟩ := Option.bind_eq_some_iff.mp hm
        cases hm
        subst e e' e''
        have s1 := gSet_ok a.sa r1 h3
        have s2 := gSet_ok s1.sa (s1.rep a.sa r2) h4
        exact ⟨x, y, rfl, po1 _ _ (s1.trans s2)⟩
      | [], hm, _ => cases hm
      | [d1], hm, _ => simp [mPar.parS] at hm
      | d1 :: d2 :: d3 :: _, hm, _ => simp [mPar.parS] at hm⟩
end
end Mi

set_option Elab.async false
set_option linter.all false
set_option maxRecDepth 100000
set_option maxHeartbeats 4000000
/-! Mi10: loops; objects of one's own -/
namespace Mi
open PySem PySem.Spec L2
variable [Tb]
/-! ### what is walked -/
theorem AlO.al {U : Addr → Prop} {H : Hp} (h : AlO U H) : Al U H := fun a u => let ⟨o, q⟩ := h a u; ⟨o, q.1.1⟩
theorem SA.alO {K : PySem.W.Frag} {U : Addr → Prop} {env : En} {σ : St} {H : Hp} (sa : SA K U env σ H) : AlO (Ux U env σ) H := fun _ h => sa.alxN h
def RI (K : PySem.W.Frag) : (Addr → Prop) → St → Hp → List D → It → Prop := fun U _ H ds J => ItOk K U H ds J
abbrev EvI (X : Cx) (W : WX) (tg iter : Expr) (m : En → Rs (List D)) : Prop := PI X tg iter (tM (RI X.K) X.K W m)
theorem PI_imp {X : Cx} {tg e : Expr} {t t' : TI} (h : PI X tg e t) (k : ∀ σ H Q, t' σ H Q → t σ H Q) : PI X tg e t' := ⟨fun pins s σ H Q I q => h.run pins s σ H Q I (k σ H Q q)⟩
def xIter (m : En → Rs D) : En → Rs (List D) := fun env => (m env).bind fun d e => .of (iterD d) e
section
variable {K : PySem.W.Frag} {U : Addr → Prop} {H : Hp} {ds : List D} {xs : List V} {a : Addr}
theorem Reps.at2 (r : Reps K U H ds xs) {i : Nat} {d : D} (h : ds[i]? = some d) {x : V} (hx : xs[i]? = some x) : Rep K U H d x := by
  obtain ⟨y, e, q⟩ := r.get h
  rw [hx] at e
  cases e
  exact q
theorem itok_list (h : H a = some (.lst xs)) (nu : ¬ U a) (r : Reps K U H ds xs) : ItOk K U H ds (Itl K a) where
  stop := fun i H2 hi k e => ⟨xs, .of (k a _ nu ⟨h, nt_lst⟩).1, by rw [r.len]; exact hi⟩
  go := fun i H2 hi k => ⟨xs, xs[i]'(by rw [r.len]; exact hi), .of (k a _ nu ⟨h, nt_lst⟩).1, by simp⟩
  yld := fun i d H2 H3 x U' hd k ku al ⟨e, q⟩ => by
    subst e
    exact ⟨Same.refl _, Rep.to k ku d x (r.at2 hd (q xs (.of (k a _ nu ⟨h, nt_lst⟩).1)))⟩
theorem itok_tup (h : TupAt H a xs) (nu : ¬ U a) (r : Reps K U H ds xs) : ItOk K U H ds (Itt K a) where
  stop := fun i H2 hi k e => ⟨xs, (h.to fun o q => k a o nu q).sq, by rw [r.len]; exact hi⟩
  go := fun i H2 hi k => ⟨xs, xs[i]'(by rw [r.len]; exact hi), (h.to fun o q => k a o nu q).sq, by simp⟩
  yld := fun i d H2 H3 x U' hd k ku al ⟨e, q⟩ => by
    subst e
    exact ⟨Same.refl _, Rep.to k ku d x (r.at2 hd (q xs ((h.to fun o q => k a o nu q).sq)))⟩
theorem itok_str {z : Str} : ItOk K U H (z.cps.toList.map fun c => .str ⟨#[c]⟩) (Its z) where
  stop := fun i H2 hi k e => by show z.cps.size ≤ i; simpa using hi
  go := fun i H2 hi k => by show i < z.cps.size; simpa using hi
  yld := fun i d H2 H3 x U' hd k ku al ⟨e, c, hc, q⟩ => by
    subst e
    refine ⟨Same.refl _, ?_⟩
    rw [List.getElem?_map, Array.getElem?_toList, hc] at hd
    cases hd
    exact q
theorem itok_range {lo : Int} {n : Nat} : ItOk K U H ((List.range n).map fun i => .int (lo + (i : Nat))) (Itr lo n) where
  stop := fun i H2 hi k e => by show n ≤ i; simpa using hi
  go := fun i H2 hi k => by show i < n; simpa using hi
  yld := fun i d H2 H3 x U' hd k ku al ⟨e, q⟩ => by
    subst e
    refine ⟨Same.refl _, ?_⟩
    rw [List.getElem?_map] at hd
    cases h : (List.range n)[i]? with
    | none => rw [h] at hd; cases hd
    | some j =>
      rw [h] at hd
      cases hd
      obtain ⟨hj, e⟩ := List.getElem?_eq_some_iff.mp h
      rw [List.getElem_range] at e
      subst e
      exact q
end
section
variable {X : Cx} {W : WX} {tg e a b : Expr} {es : List Expr} {m n : En → Rs D} {pos p : Pos}
theorem ei_of (h : Ev X W e m) : EvI X W tg e (xIter m) := by
  refine ⟨fun pins s σ H R I ⟨U, env, sa, po⟩ => ?_⟩
  unfold xIter at po
  cases hm : m env with
  | bad => rw [hm] at po; exact po.elim
  | er x e1 => exact (pi_list h).run pins s σ H R I ⟨U, env, sa, by rw [hm] at po ⊢; exact po⟩
  | ok d e1 =>
    cases d with
    | lst ds =>
      refine (pi_list h).run pins s σ H R I ⟨U, env, sa, ?_⟩
      rw [hm] at po ⊢
      intro v H1 a r
      obtain ⟨l, xs, rfl, h1, n1, r⟩ := Rep.lst_sq r
      exact ⟨l, rfl, ⟨xs, .of h1⟩, po _ H1 a (itok_list h1 n1 r)⟩
    | tup ds =>
      refine (pi_tup h).run pins s σ H R I ⟨U, env, sa, ?_⟩
      rw [hm] at po ⊢
      intro v H1 a r
      obtain ⟨l, xs, rfl, h1, n1, r⟩ := Rep.tup_sq r
      exact ⟨l, rfl, ⟨xs, h1.sq⟩, po _ H1 a (itok_tup h1 n1 r)⟩
    | str z =>
      refine (pi_str h).run pins s σ H R I ⟨U, env, sa, ?_⟩
      rw [hm] at po ⊢
      intro v H1 a r
      exact ⟨z, r, po _ H1 a itok_str⟩
    | _ => rw [hm] at po; exact po.elim
def rngD (lo hi : Int) : Option (List D) := if lo.natAbs ≤ 1000000000 ∧ hi.natAbs ≤ 1000000000 then some ((List.range (hi - lo).toNat).map fun i => .int (lo + (i : Nat))) else none
def xRng1 (ma : En → Rs (List D)) : En → Rs (List D) := fun env => (ma env).bind fun ds e => match ds with
  | [.int j] => .of (rngD 0 j) e
  | _ => .bad
def xRng2 (ma : En → Rs (List D)) : En → Rs (List D) := fun env => (ma env).bind fun ds e => match ds with
  | [.int i, .int j] => .of (rngD i j) e
  | _ => .bad
theorem ei_rng1 {ma : En → Rs (List D)} (hg : Gl X "range") (hm : X.mg "range" = none) (ha : EvN X W [a] 1 ma) (hs : starEach [a] X.env = [(false, eval a X.env)] := by rfl) : EvI X W tg (.Call (.Name "range" p) [a] [] pos) (xRng1 ma) :=
  PI_imp (pi_range1 hg hm ha.pa hs) fun σ H Q ⟨U, env, sa, po⟩ => ⟨U, env, sa, Po.step po fun vs H1 ds e1 a r po1 => by
    match ds, r, po1 with
    | [.int j], ⟨x, _, e, r1, e'⟩, po1 =>
      subst e e'
      simp only [rngD] at po1
      by_cases h : (0 : Int).natAbs ≤ 1000000000 ∧ j.natAbs ≤ 1000000000
      · rw [if_pos h] at po1
        refine ⟨j, by rw [show x = _ from r1], by omega, by omega, po1 _ H1 (.refl a.sa) ?_⟩
        have := itok_range (K := X.K) (U := Ux U e1 σ) (H := H1) (lo := 0) (n := j.toNat)
        show ItOk _ _ _ _ _
        simpa using this
      · rw [if_neg h] at po1
        exact po1.elim
    | [], _, po1 => exact po1.elim
    | .non :: _, _, po1 => exact po1.elim
    | .bl _ :: _, _, po1 => exact po1.elim
    | .str _ :: _, _, po1 => exact po1.elim
    | .tup _ :: _, _, po1 => exact po1.elim
    | .lst _ :: _, _, po1 => exact po1.elim
    | .dct _ _ _ :: _, _, po1 => exact po1.elim
    | .obj _ _ _ :: _, _, po1 => exact po1.elim
    | .fz _ :: _, _, po1 => exact po1.elim
    | .int _ :: _ :: _, _, po1 => exact po1.elim⟩
end
/-! ### for -/
def forL (mg : D → En → Option En) (mb : En → Rs Fl) : List D → En → Rs Fl
  | [], e => .ok .nx e
  | d :: r, e => match mg d e with
    | none => .bad
    | some e2 => match mb e2 with
      | .ok .nx e3 => forL mg mb r e3
      | .ok .ct e3 => forL mg mb r e3
      | .ok .bk e3 => .ok .nx e3
      | .ok (.rt d) e3 => .ok (.rt d) e3
      | .er x e3 => .er x e3
      | .bad => .bad
def mFor (mi : En → Rs (List D)) (mg : D → En → Option En) (mb : En → Rs Fl) : En → Rs Fl := fun env => (mi env).bind fun ds e1 => forL mg mb ds e1
section
variable {X : Cx} {W : WX} {tg iter : Expr} {body : List Stmt} {mi : En → Rs (List D)} {is : List Nat} {mg : D → En → Option En} {mb : En → Rs Fl} {pos : Pos}
theorem es_for (hp : PassesOwn (model X.prog X.w) X.A X.env X.xe) (hc : X.calm = true) (hi : EvI X W tg iter mi) (hg : EvG X tg is mg) (hb : EvSs X W body mb) (hs : ∀ x, foldedSetIterable iter X.env x = pure x := by intro _; rfl) :
    EvS X W (.For tg iter body [] pos) (mFor mi mg mb) :=
  PS_imp (ps_for hp hc hi hg hb hs) fun Dn σ H ⟨U, env, sa, po⟩ => ⟨U, env, sa, PoS.step po fun J H1 ds e1 a it po1 => by
    have it : ItOk X.K (Ux U e1 σ) H1 ds J := it
    refine ⟨fun i m σ' H' => m = ds.length - i ∧ i ≤ ds.length ∧ ∃ e, Ste X.K U e1 σ H1 e σ' H' ∧ PoS X.K W U e σ' H' (forL mg mb (ds.drop i) e) Dn, ⟨ds.length, by simp, Nat.zero_le _, e1, .refl a.sa, po1⟩, ?_⟩
    rintro i m σ' H' ⟨rfl, hi, e, st, po2⟩
    have kp : ∀ a o, ¬ Ux U e1 σ a → HN H1 a o → HN H' a o := fun a o n h => st.gr a o (fun c => n (.inr c)) h
    by_cases hlt : i < ds.length
    · refine .inr ⟨it.go i H' hlt kp, fun σ2 H2 => ∃ e2, Ste X.K U e1 σ H1 e2 σ2 H2 ∧ PoS X.K W U e2 σ2 H2 (forL mg mb (ds.drop (i + 1)) e2) Dn, fun σ2 H2 ⟨e2, h1, h2⟩ => ⟨ds.length - (i + 1), by omega, rfl, hlt, e2, h1, h2⟩, fun x H2 y => ?_⟩
      have hd : ds[i]? = some ds[i] := by simp [hlt]
      have ku : ∀ a o, ¬ Ux U e1 σ a → HN H1 a o → ¬ Ux U e σ' a := fun a o n h q => q.elim (fun z => n (.inl z)) fun c => (st.fr a c).elim (fun z => n (.inr z)) fun z => z.no h
      obtain ⟨sm, rx⟩ := it.yld i _ H' H2 x (Ux U e σ') hd kp ku st.sa.alO y
      have st2 := st.same sm
      have po3 := PoS.shift ((Ste.refl st.sa).same sm) po2
      rw [List.drop_eq_getElem_cons hlt] at po3
      simp only [forL] at po3
      cases hg : mg ds[i] e with
      | none => simp only [hg] at po3; exact po3.elim
      | some e2 =>
        simp only [hg] at po3
        refine ⟨U, e, ds[i], e2, st2.sa, rx, hg, fun σ3 H3 s3 _ => ⟨U, e2, s3.sa, ?_⟩⟩
        have st3 := st2.trans s3
        cases hb : mb e2 with
        | bad => simp only [hb] at po3; exact po3.elim
        | er x e3 => simp only [hb] at po3; exact PoS.shift s3 po3
        | ok fl e3 =>
          simp only [hb] at po3
          cases fl with
          | nx => exact fun σ4 H4 s4 => ⟨e3, st3.trans s4, PoS.shift (s3.trans s4) po3⟩
          | ct => exact fun σ4 H4 s4 => ⟨e3, st3.trans s4, PoS.shift (s3.trans s4) po3⟩
          | bk => exact PoS.shift s3 po3
          | rt d => exact PoS.shift s3 po3
    · have e : i = ds.length := by omega
      subst e
      refine .inl ⟨it.stop _ H' (Nat.le_refl _) kp rfl, ?_⟩
      rw [List.drop_length] at po2
      exact po2 σ' H' (.refl st.sa)⟩
end
/-! ### while -/
end Mi

set_option Elab.async false
set_option linter.all false
set_option maxRecDepth 100000
set_option maxHeartbeats 4000000
/-! Mi11: reading what names hold by themselves; new objects; lists made by comprehensions -/
namespace Mi
open PySem PySem.Spec L2
variable [Tb]
/-! ### reading without taking -/
def tP (K : PySem.W.Frag) (mp : En → Option D) : TE := fun σ H Q => ∃ U env d, SA K U env σ H ∧ mp env = some d ∧ ∀ v H', Same H H' → Rep K U H' d v → Q v H'
def tPs (K : PySem.W.Frag) (mp : En → Option (List D)) : TA := fun σ H Q => ∃ U env d, SA K U env σ H ∧ mp env = some d ∧ ∀ v H', Same H H' → Reps K U H' d v → Q v H'
abbrev EvP (X : Cx) (e : Expr) (mp : En → Option D) : Prop := PE X e (tP X.K mp)
abbrev EvPs (X : Cx) (es : List Expr) (mp : En → Option (List D)) : Prop := PA X es (tPs X.K mp)
def pVar (i : Nat) : En → Option D := fun env => match env[i]? with
  | some (.v d) => some d
  | some (.ow o) => some o.val
  | some (.io o) => some o.val
  | _ => none
def pC (d : D) : En → Option D := fun _ => some d
def psNil : En → Option (List D) := fun _ => some []
def psCons (m : En → Option D) (ms : En → Option (List D)) : En → Option (List D) := fun env => (m env).bind fun d => (ms env).map fun r => d :: r
def pN (g : List D → Option D) (ms : En → Option (List D)) : En → Option D := fun env => (ms env).bind g
/-- its value, when it is flat -/
def xBor (mp : En → Option D) : En → Rs D := fun env => match mp env with
  | some d => if isFlat d = true then .ok d env else .bad
  | none => .bad
theorem flat_any {K : PySem.W.Frag} {U U' : Addr → Prop} {H H' : Hp} {d : D} {v : V} (h : isFlat d = true) (r : Rep K U H d v) : Rep K U' H' d v := by
  cases d <;> simp [isFlat] at h <;> exact r
section
variable {X : Cx} {W : WX} {e a b : Expr} {es : List Expr} {mp m n : En → Option D} {ms : En → Option (List D)} {pos : Pos} {k : Nat}
theorem ev_bor (h : EvP X e mp) : Ev X W e (xBor mp) :=
  PE_imp h fun σ H Q ⟨U, env, sa, po⟩ => by
    unfold xBor at po
    cases hm : mp env with
    | none => rw [hm] at po; exact po.elim
    | some d =>
      simp only [hm] at po
      by_cases hf : isFlat d = true
      · rw [if_pos hf] at po
        exact ⟨U, env, d, sa, hm, fun v H' s r => Po.of_ok (R2 := RD X.K) po sa s (flat_any hf r)⟩
      · rw [if_neg hf] at po; exact po.elim
theorem SA.held {K : PySem.W.Frag} {U : Addr → Prop} {env : En} {σ : St} {H : Hp} {i : Nat} {s : Sl} {o : Ob} (sa : SA K U env σ H) (h1 : env[i]? = some s) (h2 : s.ob = some o) : ∃ p, σ[i]? = some (some (V.ref p)) ∧ Rep K U H o.val (.ref p) := by
  obtain ⟨p, e, r⟩ := sa.ob i s o h1 h2
  have nu := sa.nu p ⟨i, s, o, h1, h2, e⟩
  have r := RepO.to (K := K) (U' := U) (fun _ _ _ q => q) (fun x o n _ q => n (.inl q)) (fun _ q => q) r
  refine ⟨p, e, ?_⟩
  cases o with
  | lst ds => obtain ⟨xs, e, r⟩ := r; exact ⟨p, xs, rfl, ⟨e, nu⟩, r⟩
  | dct t ks ds => obtain ⟨xs, e, r⟩ := r; exact ⟨p, xs, rfl, nu, e.rd, r⟩
  | ins c ns ds => obtain ⟨dx, xs, e, l, r⟩ := r; exact ⟨p, dx, xs, rfl, nu, e, l, r⟩
theorem ep_var {i : Nat} (h : PE X e (tVar i)) : EvP X e (pVar i) :=
  PE_imp h fun σ H Q ⟨U, env, d, sa, hm, q⟩ => by
    unfold pVar at hm
    cases hi : env[i]? with
    | none => rw [hi] at hm; cases hm
    | some s =>
      rw [hi] at hm
      cases s with
      | un => cases hm
      | v d' =>
        cases hm
        obtain ⟨v, e1, r⟩ := sa.val i d hi
        exact ⟨v, e1, q v H (Same.refl H) (Rep.to (fun _ _ _ q => q) (fun x o n _ q => n (.inl q)) d v r)⟩
      | ow o =>
        cases hm
        obtain ⟨p, e1, r⟩ := sa.held hi rfl
        exact ⟨_, e1, q _ H (Same.refl H) r⟩
      | io o =>
        cases hm
        obtain ⟨p, e1, r⟩ := sa.held hi rfl
        exact ⟨_, e1, q _ H (Same.refl H) r⟩
theorem ep_c {d : D} {v : V} (h : PE X e (tC v)) (hd : flatD d = some v) : EvP X e (pC d) :=
  PE_imp h fun σ H Q ⟨U, env, d', sa, hm, q⟩ => by cases hm; exact q v H (Same.refl H) (flat_rep hd)
theorem p2_imp {g : D → D → Option D} {r : R2} (hs : Snd2 X.K g r) {σ : St} {H : Hp} {Q : VK} (h : tP X.K (p2 g m n) σ H Q) : tP X.K m σ H fun x H1 => tP X.K n σ H1 fun y H2 => r x y H2 Q := by
  obtain ⟨U, env, d, sa, hm, q⟩ := h
  obtain ⟨d1, h1, hm⟩ := Option.bind_eq_some_iff.mp hm
  obtain ⟨d2, h2, hm⟩ := Option.bind_eq_some_iff.mp hm
  refine ⟨U, env, d1, sa, h1, fun x H1 s1 r1 => ⟨U, env, d2, sa.same s1, h2, fun y H2 s2 r2 => ?_⟩⟩
  exact hs U H2 x y d1 d2 d Q ((sa.same s1).same s2).al (r1.same s2) r2 hm fun v H' s r => q v H' ((s1.trans s2).trans s) r
/-- a truth, without taking -/
def tP1 (mp : En → Option D) : En → Rs Bool := fun env => .of ((mp env).bind isBl) env
theorem ep_ix (c : Co X k) (ha : EvP X a m) (hb : EvP X b n) (hs : PlainIx b := by exact fun _ _ => rfl) : EvP X (.Subscript a b pos) (p2 gIx m n) :=
  PE_imp (pe_ix (ix_m (hu_of c.hr)) ha hb hs) fun σ H Q h => p2_imp s_ix h
theorem eps_nil : EvPs X [] psNil := PA_imp pa_nil fun σ H Q ⟨U, env, d, sa, hm, q⟩ => by cases hm; exact q [] H (Same.refl H) rfl
theorem eps_cons (h1 : EvP X e m) (h2 : EvPs X es ms) (hs : starEach (e :: es) X.env = (false, eval e X.env) :: starEach es X.env := by rfl) : EvPs X (e :: es) (psCons m ms) :=
  PA_imp (pa_cons h1 h2 hs) fun σ H Q ⟨U, env, d, sa, hm, q⟩ => by
    obtain ⟨d1, e1, hm⟩ := Option.bind_eq_some_iff.mp hm
    obtain ⟨d2, e2, rfl⟩ := Option.map_eq_some_iff.mp hm
    exact ⟨U, env, d1, sa, e1, fun x H1 s1 r1 => ⟨U, env, d2, sa.same s1, e2, fun xs H2 s2 r2 => q _ _ (s1.trans s2) ⟨x, xs, rfl, r1.same s2, r2⟩⟩⟩
theorem ep_n {g : List D → Option D} {r : List V → Hp → VK → Prop} (hs : SndN X.K g r) (h : PE X e (tCB r (tPs X.K ms))) : EvP X e (pN g ms) :=
  PE_imp h fun σ H Q ⟨U, env, d, sa, hm, q⟩ => by
    obtain ⟨d1, e1, hm⟩ := Option.bind_eq_some_iff.mp hm
    exact ⟨U, env, d1, sa, e1, fun xs H1 s1 r1 => hs U H1 xs d1 d Q (sa.same s1).al r1 hm fun v H' s r => q v H' (s1.trans s) r⟩
end
/-! ### new objects -/
def PoN (K : PySem.W.Frag) (W : WX) (U : Addr → Prop) (env : En) (σ : St) (H : Hp) (r : Rs Ob) (Q : VK) : Prop := match r with
  | .ok o env' => ∀ p H', Fre K U env σ H env' H' o p → Q (.ref p) H'
  | .er x env' => ∀ cls dd H', Ste K U env σ H env' σ H' → ExR K (Ux U env' σ) H' x cls dd → W cls dd σ H'
  | .bad => False
def tN (K : PySem.W.Frag) (W : WX) (m : En → Rs Ob) : TE := fun σ H Q => ∃ U env, SA K U env σ H ∧ PoN K W U env σ H (m env) Q
abbrev EvF (X : Cx) (W : WX) (e : Expr) (m : En → Rs Ob) : Prop := PE X e (tN X.K W m)
def xVal (m : En → Rs Ob) : En → Rs D := fun env => (m env).bind fun o e => .ok o.val e
/-- a name holds it -/
def mOw (i : Nat) (m : En → Rs Ob) : En → Rs Fl := fun env => (m env).bind fun o e => match e[i]? with
  | some (.io _) => .bad
  | some _ => .ok .nx (e.set i (.ow o))
  | none => .bad
section
variable {K : PySem.W.Frag} {U : Addr → Prop} {env env1 : En} {σ : St} {H H1 : Hp}
theorem Fre.new {o : Ob} {p : Addr} {ho : HO} (sa : SA K U env σ H) (hp : H p = none) (r : RepO K (Ux (Up U p) env σ) (upd H p ho) o p) : Fre K U env σ H env (upd H p ho) o p where
  nw := .inr (.of hp)
  nu := fun h => by obtain ⟨u, e⟩ := sa.al p h; rw [hp] at e; cases e
  sa := by
    have s : Same H (upd H p ho) := same_new hp
    have s1 := sa.same s
    have nc : ∀ a, Chg env σ a → a ≠ p := fun a c e => by
      obtain ⟨u, q⟩ := sa.alx (.inr c)
      rw [e, hp] at q
      cases q
    refine ⟨sa.len, s1.tb, fun a h => ?_, fun a c h => h.elim (sa.nu a c) (nc a c), sa.inj, fun i d h => ?_, fun i t q h1 h2 => ?_⟩
    · rcases h with h | h
      · exact s1.alN a h
      · rw [h]; exact r.hnO
    · obtain ⟨v, e, r⟩ := sa.val i d h
      exact ⟨v, e, Rep.to (fun a o _ q => ⟨s a o q.1, q.2⟩) (fun x o n hx q => (ux_up.mp q).elim n fun z => by have hx := hx.1; rw [z, hp] at hx; cases hx) d v r⟩
    · obtain ⟨a, e, r⟩ := sa.ob i t q h1 h2
      exact ⟨a, e, RepO.to (fun a o _ q => ⟨s a o q.1, q.2⟩) (fun x o n hx q => (ux_up.mp q).elim n fun z => by have hx := hx.1; rw [z, hp] at hx; cases hx) (fun o q => ⟨s a o q.1, q.2⟩) r⟩
  gr := .of_same (same_new hp)
  fr := fun a c => .inl c
  io := fun i o h => ⟨o, h⟩
  ob := r
theorem Fre.pre {env2 : En} {H2 : Hp} {o : Ob} {p : Addr} (a : Ste K U env σ H env1 σ H1) (f : Fre K U env1 σ H1 env2 H2 o p) : Fre K U env σ H env2 H2 o p where
  nw := by
    by_cases n : Chg env σ p
    · exact .inl n
    · refine .inr ?_
      rcases f.nw with q | q
      · exact (a.fr p q).elim (fun z => absurd z n) id
      · exact fun u h => q u (a.gr p u n h)
  nu := f.nu
  sa := f.sa
  gr := fun x o n h => f.gr x o (fun c => (a.fr x c).elim n fun z => z.no h) (a.gr x o n h)
  fr := fun x c => by
    rcases f.fr x c with q | q
    · exact a.fr x q
    · by_cases n : Chg env σ x
      · exact .inl n
      · exact .inr fun o h => q o (a.gr x o n h)
  io := fun i o h => by
    obtain ⟨o1, h1, _⟩ := a.io i o h
    exact f.io i o1 h1
  ob := f.ob
theorem PoN.shift {W : WX} {r : Rs Ob} {Q : VK} (a : Ste K U env σ H env1 σ H1) (h : PoN K W U env σ H r Q) : PoN K W U env1 σ H1 r Q := by
  cases r with
  | ok d e => exact fun p H' f => h p H' (f.pre a)
  | er x e => exact fun c d H' b q => h c d H' (a.trans b) q
  | bad => exact h
/-- a value's part, then the new object -/
theorem PoN.step {α β : Type} {W : WX} {R1 : (Addr → Prop) → St → Hp → α → β → Prop} {r : Rs α} {f : α → En → Rs Ob} {Q : VK} {Q1 : β → Hp → Prop} (h : PoN K W U env σ H (r.bind f) Q)
    (k : ∀ v H1 d env1, Ste K U env σ H env1 σ H1 → R1 (Ux U env1 σ) σ H1 d v → PoN K W U env1 σ H1 (f d env1) Q → Q1 v H1) : Po R1 K W U env σ H r Q1 := by
  cases r with
  | ok d e => exact fun v H' a q => k v H' d e a q (PoN.shift a h)
  | er x e => exact h
  | bad => exact h
end
section
variable {X : Cx} {W : WX} {e : Expr} {es : List Expr} {mo : En → Rs Ob} {ma : En → Rs (List D)} {n k : Nat} {pos : Pos}
theorem ev_new (h : EvF X W e mo) : Ev X W e (xVal mo) :=
  PE_imp h fun σ H Q ⟨U, env, sa, po⟩ => ⟨U, env, sa, by
    unfold xVal at po
    cases hm : mo env with
    | bad => rw [hm] at po; exact po
    | er x e => rw [hm] at po; exact po
    | ok o e1 =>
      rw [hm] at po
      intro p H' f
      obtain ⟨s, r⟩ := f.ste sa
      exact po _ _ s r⟩
def fLst (ma : En → Rs (List D)) : En → Rs Ob := fun env => (ma env).bind fun ds e => .ok (.lst ds) e
theorem ef_lst (h : EvN X W es n ma) (hn : n ≤ sizeLine := by decide) : EvF X W (.List es pos) (fLst ma) :=
  PE_imp (pe_lst h.pa) fun σ H Q ⟨U, env, sa, po⟩ => ⟨U, env, sa, by
    unfold fLst at po
    cases hm : ma env with
    | bad => rw [hm] at po; exact po
    | er x e => rw [hm] at po; exact po
    | ok ds e =>
      rw [hm] at po
      intro v H1 a r
      refine ⟨by rw [Reps.len r, h.len _ _ _ hm]; exact hn, fun p hp => ?_⟩
      refine po _ _ ((Fre.new (o := .lst ds) a.sa hp ⟨v, upd_same, ?_⟩).pre a)
      exact Reps.to (fun b o _ q => ⟨same_new hp b o q.1, q.2⟩) (fun x o n hx q => (ux_up.mp q).elim n fun z => by have hx := hx.1; rw [z, hp] at hx; cases hx) _ _ r⟩
/-- {}; t: its keys are to be tuples -/
def fDict (t : Bool) : En → Rs Ob := fun env => .ok (.dct t [] []) env
/-- name = a new object -/
theorem es_ow {i : Nat} {st : Stmt} (h : ∀ te, PE X e te → PS X st (tAsg te (gName i))) (hf : EvF X W e mo) : EvS X W st (mOw i mo) :=
  PS_imp (h _ hf) fun Dn σ H ⟨U, env, sa, po⟩ => ⟨U, env, sa, by
    unfold mOw at po
    cases hm : mo env with
    | bad => rw [hm] at po; exact po
    | er x e1 => rw [hm] at po; exact fun c d H' a q => po c d σ H' a q
    | ok o e1 =>
      rw [hm] at po
      simp only [Rs.bind_ok] at po
      intro p H' f
      cases hi : e1[i]? with
      | none => simp only [hi] at po; exact po.elim
      | some s =>
        simp only [hi] at po
        have hl := (List.getElem?_eq_some_iff.mp hi).1
        cases s with
        | io o' => exact po.elim
        | un => exact po _ _ (f.own sa hl fun o q => by rw [hi] at q; cases q)
        | v d => exact po _ _ (f.own sa hl fun o q => by rw [hi] at q; cases q)
        | ow d => exact po _ _ (f.own sa hl fun o q => by rw [hi] at q; cases q)⟩
end
end Mi

set_option Elab.async false
set_option linter.all false
set_option maxRecDepth 100000
set_option maxHeartbeats 4000000
/-! Mi12: what a name holds by itself is changed -/
namespace Mi
open PySem PySem.Spec L2
variable [Tb]
/-- a method on the own object: its result and the object behind it -/
def Mut (K : PySem.W.Frag) (g : Ob → List D → Option (D × Ob)) (r : V → List V → Hp → VK → Prop) : Prop :=
  ∀ (U : Addr → Prop) (H : Hp) (a : Addr) (o : Ob) (ds : List D) (xs : List V) (z : D) (o' : Ob) (Q : VK), Al U H → U a → RepO K U H o a → Reps K U H ds xs → g o ds = some (z, o') →
    (∀ v ho, Rep K U (upd H a ho) z v → RepO K U (upd H a ho) o' a → Q v (upd H a ho)) → r (.ref a) xs H Q
def mutAt (i : Nat) (g : Ob → Option (D × Ob)) (env : En) : Rs D := match env[i]? with
  | some s => match s.ob with
    | some o => match g o with
      | some (z, o') => .ok z (env.set i (s.put o'))
      | none => .bad
    | none => .bad
  | none => .bad
def isLstAt (i : Nat) (env : En) : Bool := match (env[i]?).bind Sl.ob with
  | some (.lst _) => true
  | _ => false
def xMeth (i : Nat) (g : Ob → List D → Option (D × Ob)) (ma : En → Rs (List D)) : En → Rs D := fun env => if isLstAt i env = true then (ma env).bind fun ds e => mutAt i (fun o => g o ds) e else .bad
section
variable {K : PySem.W.Frag} {W : WX} {U : Addr → Prop} {env : En} {σ : St} {H : Hp}
theorem Ste.write2 {i : Nat} {s : Sl} {o o' : Ob} {a : Addr} {ho : HO} (sa : SA K U env σ H) (h1 : env[i]? = some s) (h2 : s.ob = some o) (ha : σ[i]? = some (some (V.ref a))) (r : RepO K (Ux U env σ) (upd H a ho) o' a) :
    Ste K U env σ H (env.set i (s.put o')) σ (upd H a ho) ∧ ∀ d v, Rep K (Ux U env σ) (upd H a ho) d v → Rep K (Ux U (env.set i (s.put o')) σ) (upd H a ho) d v := by
  have ca : Ux U env σ a := .inr ⟨i, s, o, h1, h2, ha⟩
  have st : Ste K U env σ H (env.set i (s.put o')) σ (upd H a ho) := Ste.write sa h1 h2 ha fun H' k e => by
    refine RepO.to (fun b u n q => ?_) (fun _ _ n _ => n) (fun u q => ?_) r
    · have q1 := q.1
      rw [upd_ne (fun z => n (by rw [z]; exact ca))] at q1
      exact k b u n ⟨q1, q.2⟩
    · have q1 := q.1
      rw [upd_same] at q1
      refine ⟨?_, q.2⟩
      rw [← q1]
      exact e
  refine ⟨st, fun d v r => Rep.to (fun _ _ _ q => q) (fun x u n q z => ?_) d v r⟩
  rcases z with z | z
  · exact n (.inl z)
  · rcases st.fr x z with z | z
    · exact n (.inr z)
    · have q1 := q.1
      rw [upd_ne (fun e => n (by rw [e]; exact ca))] at q1
      exact z.no ⟨q1, q.2⟩
theorem mutAt_ok {i : Nat} {g : Ob → List D → Option (D × Ob)} {r : V → List V → Hp → VK → Prop} {ds : List D} {xs : List V} {Q : VK} {a : Addr} (hg : Mut K g r) (sa : SA K U env σ H) (ra : Reps K (Ux U env σ) H ds xs) (ha : σ[i]? = some (some (.ref a)))
    (po : Po (RD K) K W U env σ H (mutAt i (fun o => g o ds) env) Q) : r (.ref a) xs H Q := by
  unfold mutAt at po
  cases hi : env[i]? with
  | none => rw [hi] at po; exact po.elim
  | some s =>
    simp only [hi] at po
    cases ho : s.ob with
    | none => simp only [ho] at po; exact po.elim
    | some o =>
      simp only [ho] at po
      cases hz : g o ds with
      | none => simp only [hz] at po; exact po.elim
      | some p =>
        obtain ⟨z, o'⟩ := p
        simp only [hz] at po
        obtain ⟨b, e, r⟩ := sa.ob i s o hi ho
        rw [ha] at e
        cases e
        refine hg (Ux U env σ) H a o ds xs z o' Q sa.alU (.inr ⟨i, s, o, hi, ho, ha⟩) r ra hz fun v hob rz ro => ?_
        obtain ⟨st, k⟩ := Ste.write2 sa hi ho ha ro
        exact po v _ st (k _ _ rz)
end
section
variable {X : Cx} {W : WX} {e : Expr} {i : Nat} {ma : En → Rs (List D)} {g : Ob → List D → Option (D × Ob)} {r : V → List V → Hp → VK → Prop}
theorem ev_meth (hg : Mut X.K g r) (h : PE X e (tBM X.K "list" r (tVar i) (tA X.K W ma))) : Ev X W e (xMeth i g ma) :=
  PE_imp h fun σ H Q ⟨U, env, sa, po⟩ => by
    unfold xMeth at po
    by_cases hl : isLstAt i env = true
    · rw [if_pos hl] at po
      unfold isLstAt at hl
      cases hb : (env[i]?).bind Sl.ob with
      | none => rw [hb] at hl; cases hl
      | some ob =>
        obtain ⟨s, h1, h2⟩ := Option.bind_eq_some_iff.mp hb
        obtain ⟨a, ea, ra⟩ := sa.ob i s ob h1 h2
        refine ⟨.ref a, ea, ?_, U, env, sa, Po.step po fun vs H1 ds e1 st rs po1 => mutAt_ok hg st.sa rs ea po1⟩
        rw [hb] at hl
        cases ob with
        | lst ds => obtain ⟨xs, e, _⟩ := ra; exact .inl ⟨rfl, xs, .of e⟩
        | _ => cases hl
    · rw [if_neg hl] at po
      exact po.elim
end
section
variable {K : PySem.W.Frag}
theorem Reps.updU {U : Addr → Prop} {H : Hp} {a : Addr} {ho : HO} (h : U a) {ds : List D} {xs : List V} (r : Reps K U H ds xs) : Reps K U (upd H a ho) ds xs :=
  Reps.to (fun b u n e => ⟨by rw [upd_ne (fun z => n (by rw [z]; exact h))]; exact e.1, e.2⟩) (fun _ _ n _ => n) ds xs r
theorem Rep.updU {U : Addr → Prop} {H : Hp} {a : Addr} {ho : HO} (h : U a) {d : D} {x : V} (r : Rep K U H d x) : Rep K U (upd H a ho) d x :=
  Rep.to (fun b u n e => ⟨by rw [upd_ne (fun z => n (by rw [z]; exact h))]; exact e.1, e.2⟩) (fun _ _ n _ => n) d x r
def gApp : Ob → List D → Option (D × Ob)
  | .lst ds, [d] => if ds.length < sizeLine then some (.non, .lst (ds ++ [d])) else none
  | _, _ => none
theorem mu_app : Mut K gApp rAppend := by
  intro U H a o ds xs z o' Q al ua ro rs hg q
  cases o with
  | lst es =>
    match ds, hg, rs with
    | [d], hg, ⟨x, _, e, r1, e'⟩ =>
      subst e e'
      simp only [gApp, Option.ite_none_right_eq_some] at hg
      obtain ⟨hl, e⟩ := hg
      cases e
      obtain ⟨vs, e, r⟩ := ro
      exact ⟨a, vs, x, rfl, rfl, e, by rw [r.len]; exact hl, q _ _ rfl ⟨_, upd_same, (r.append (show Reps K U H [d] [x] from ⟨x, [], rfl, r1, rfl⟩)).updU ua⟩⟩
    | [], hg, _ => simp [gApp] at hg
    | _ :: _ :: _, hg, _ => simp [gApp] at hg
  | _ => simp [gApp] at hg
theorem Reps.eraseIdx {U : Addr → Prop} {H : Hp} : ∀ {ds : List D} {xs : List V} (n : Nat), Reps K U H ds xs → Reps K U H (ds.eraseIdx n) (xs.eraseIdx n)
  | [], _, n, h => by rw [show _ = _ from h]; simp; rfl
  | _ :: _, _, 0, ⟨x, r, e, h1, h2⟩ => by rw [e]; simpa using h2
  | _ :: _, _, n + 1, ⟨x, r, e, h1, h2⟩ => ⟨x, r.eraseIdx n, by rw [e]; rfl, h1, Reps.eraseIdx n h2⟩
theorem seqIx_fits {i : Int} {n k : Nat} (h : seqIndex? i n = some k) (hn : n ≤ 1000000) : -(2 ^ 63) ≤ i ∧ i < 2 ^ 63 := by
  unfold seqIndex? at h
  simp only [Option.ite_none_right_eq_some, Bool.and_eq_true, decide_eq_true_eq] at h
  have h := h.1
  by_cases q : i < 0
  · rw [if_pos q] at h; omega
  · rw [if_neg q] at h; omega
def gPopAt : Ob → List D → Option (D × Ob)
  | .lst ds, [.int i] => if ds.length ≤ 1000000 then (seqIndex? i ds.length).bind fun k => (ds[k]?).map fun d => (d, .lst (ds.eraseIdx k)) else none
  | _, _ => none
theorem mu_popAt : Mut K gPopAt rPopAt := by
  intro U H a o ds xs z o' Q al ua ro rs hg q
  cases o with
  | lst es =>
    match ds, hg, rs with
    | [.int i], hg, ⟨x, _, e, r1, e'⟩ =>
      subst e e'
      simp only [gPopAt, Option.ite_none_right_eq_some] at hg
      obtain ⟨l0, hg⟩ := hg
      obtain ⟨k, hk, hg⟩ := Option.bind_eq_some_iff.mp hg
      obtain ⟨l1, l2⟩ := seqIx_fits hk l0
      obtain ⟨d, hd, e⟩ := Option.map_eq_some_iff.mp hg
      cases e
      obtain ⟨vs, e, r⟩ := ro
      obtain ⟨y, hy, ry⟩ := r.get hd
      exact ⟨a, vs, i, k, y, rfl, by rw [show x = _ from r1], e, l1, l2, by rw [r.len]; exact hk, hy, q _ _ (ry.updU ua) ⟨_, upd_same, (r.eraseIdx k).updU ua⟩⟩
    | [], hg, _ => simp [gPopAt] at hg
    | _ :: _ :: _, hg, _ => simp [gPopAt] at hg
    | [.non], hg, _ => simp [gPopAt] at hg
    | [.bl _], hg, _ => simp [gPopAt] at hg
    | [.lst _], hg, _ => simp [gPopAt] at hg
    | [.str _], hg, _ => simp [gPopAt] at hg
    | [.tup _], hg, _ => simp [gPopAt] at hg
    | [.dct _ _ _], hg, _ => simp [gPopAt] at hg
    | [.obj _ _ _], hg, _ => simp [gPopAt] at hg
    | [.fz _], hg, _ => simp [gPopAt] at hg
  | _ => simp [gPopAt] at hg
/-! ### stores -/
def Sto (K : PySem.W.Frag) (g : Ob → D → D → Option Ob) (t : TSet) : Prop :=
  ∀ (U : Addr → Prop) (H : Hp) (a : Addr) (o : Ob) (kd d : D) (kv v : V) (o' : Ob) (Q : Hp → Prop), Al U H → U a → RepO K U H o a → Rep K U H kd kv → Rep K U H d v → g o kd d = some o' →
    (∀ ho, RepO K U (upd H a ho) o' a → Q (upd H a ho)) → t (.ref a) kv v H Q
def putKy (k : Ky) (d : D) : List Ky → List D → List Ky × List D
  | l :: ks, v :: vs => if l = k then (l :: ks, d :: vs) else let r := putKy k d ks vs; (l :: r.1, v :: r.2)
  | ks, vs => (ks ++ [k], vs ++ [d])
def gSto : Ob → D → D → Option Ob
  | .lst ds, .int i, d => (ixN ds.length i).map fun j => .lst (ds.set j d)
  | .dct false ks vs, k, d => if ks.length < sizeLine ∧ ks.Nodup then (keyOf k).map fun k => let r := putKy (kyOf k) d ks vs; .dct false r.1 r.2 else none
  | .dct true ks vs, .tup xs, d => if ks.length < sizeLine ∧ ks.Nodup ∧ mkD xs = false then (keysOf xs).map fun k => let r := putKy (.tup k) d ks vs; .dct true r.1 r.2 else none
  | _, _, _ => none
theorem putKy_rep {U : Addr → Prop} {H : Hp} {κ : Type} [DecidableEq κ] (f : Ky → Option κ) (g : κ → Ky) (fg : ∀ k, f (g k) = some k) (gf : ∀ l k, f l = some k → l = g k) (k : κ) {d : D} {v : V} (rv : Rep K U H d v) : ∀ (ks : List Ky) (vs : List D) (kvs : List (κ × V)), ks.Nodup → ks.map f = kvs.map (fun p => some p.1) →
    Reps K U H vs (kvs.map (·.2)) → (putKy (g k) d ks vs).1.map f = (putK kvs k v).map (fun p => some p.1) ∧ Reps K U H (putKy (g k) d ks vs).2 ((putK kvs k v).map (·.2))
  | [], vs, kvs, _, h, r => by
    cases kvs with
    | cons p kvs => simp at h
    | nil =>
      have hv : vs = [] := by cases vs with
        | nil => rfl
        | cons d t => obtain ⟨x, t, e, _⟩ := r; simp at e
      subst hv
      simp [putKy, putK, fg, Reps]
      exact rv
  | l :: ks, vs, [], _, h, r => by simp at h
  | l :: ks, [], p :: kvs, _, h, r => by
    have r := Reps.len r
    simp at r
  | l :: ks, w :: vs, p :: kvs, nd, h, ⟨x, t, e, r1, r2⟩ => by
    simp only [List.map_cons, List.cons.injEq] at h e
    obtain ⟨h1, h2⟩ := h
    obtain ⟨rfl, rfl⟩ := e
    have hl : l = g p.1 := gf _ _ h1
    have nd2 := List.nodup_cons.mp nd
    by_cases hk : p.1 = k
    · have e1 : putKy (g k) d (l :: ks) (w :: vs) = (l :: ks, d :: vs) := by unfold putKy; rw [if_pos (by rw [hl, hk])]
      have nk : ∀ q ∈ kvs, q.1 ≠ k := fun q hq e => nd2.1 (by
        have : some q.1 ∈ ks.map f := by rw [h2]; exact List.mem_map_of_mem hq
        obtain ⟨l', hl', e'⟩ := List.mem_map.mp this
        rw [gf _ _ e', e, ← hk, ← hl] at hl'
        exact hl')
      have em : (kvs.map fun kv => if kv.1 = k then (kv.1, v) else kv) = kvs := by
        have : ∀ q ∈ kvs, (if q.1 = k then (q.1, v) else q) = q := fun q hq => by rw [if_neg (nk q hq)]
        calc _ = kvs.map id := List.map_congr_left this
          _ = kvs := List.map_id kvs
      have e2 : putK (p :: kvs) k v = (p.1, v) :: kvs := by
        unfold putK
        rw [if_pos (by simp [hk]), List.map_cons, if_pos hk, em]
      rw [e1, e2]
      exact ⟨by simp [h1, h2], v, _, rfl, rv, r2⟩
    · have e1 : putKy (g k) d (l :: ks) (w :: vs) = (l :: (putKy (g k) d ks vs).1, w :: (putKy (g k) d ks vs).2) := by
        rw [putKy, if_neg]
        rintro q
        apply hk
        have := fg p.1
        rw [← hl, q, fg] at this
        exact (Option.some.inj this).symm
      have e2 : putK (p :: kvs) k v = p :: putK kvs k v := by
        unfold putK
        by_cases h : (kvs.any fun kv => decide (kv.1 = k)) = true
        · rw [if_pos (by rw [List.any_cons, h, Bool.or_true]), if_pos h, List.map_cons, if_neg hk]
        · rw [if_neg (by rw [List.any_cons, decide_eq_false hk, Bool.false_or]; exact h), if_neg h]; rfl
      obtain ⟨a1, a2⟩ := putKy_rep f g fg gf k rv ks vs kvs nd2.2 h2 r2
      rw [e1, e2]
      exact ⟨by simp [h1, a1], p.2, _, rfl, r1, a2⟩
def rSetM : TSet := fun o i v H Q => rSetL o i v H Q ∨ rSetD o i v H Q
theorem PSet.or {X : Cx} {t t' : TSet} (h : PSet X t) (h' : PSet X t') : PSet X fun o i v H Q => t o i v H Q ∨ t' o i v H Q :=
  fun pins s σ H o i v ov iv u Q I a b c q => q.elim (h pins s σ H o i v ov iv u Q I a b c) (h' pins s σ H o i v ov iv u Q I a b c)
theorem set_m {X : Cx} (hu : X.A.units + 1 < cLine) : PSet X rSetM := PSet.or set_list (set_dict hu)
theorem kyK_inv {l : Ky} {k : Key} (h : kyK l = some k) : l = kyOf k := by cases l <;> simp [kyK] at h <;> subst h <;> rfl
theorem kyT_inv {l : Ky} {k : List Key} (h : kyT l = some k) : l = .tup k := by cases l <;> simp [kyT] at h; subst h; rfl
theorem st_m : Sto K gSto rSetM := by
  intro U H a o kd d kv v o' Q al ua ro rk rd hg q
  cases o with
  | lst ds =>
    cases kd <;> simp only [gSto, reduceCtorEq] at hg
    obtain ⟨j, hj, e⟩ := Option.map_eq_some_iff.mp hg
    subst e
    obtain ⟨xs, e, r⟩ := ro
    exact .inl ⟨a, xs, _, j, rfl, rk, e, by rw [r.len]; exact hj, q _ ⟨_, upd_same, (r.set rd j).updU ua⟩⟩
  | dct t ks vs =>
    cases t with
    | false =>
      have hg : (if ks.length < sizeLine ∧ ks.Nodup then (keyOf kd).map fun k => let r := putKy (kyOf k) d ks vs; Ob.dct false r.1 r.2 else none) = some o' := by cases kd <;> exact hg
      simp only [Option.ite_none_right_eq_some] at hg
      obtain ⟨⟨hl, nd⟩, hg⟩ := hg
      obtain ⟨k, hk, e⟩ := Option.map_eq_some_iff.mp hg
      subst e
      obtain ⟨xs, ⟨kvs, h1, h2, rfl⟩, r⟩ := ro
      have len : kvs.length = ks.length := by simpa using (congrArg List.length h2).symm
      obtain ⟨p1, p2⟩ := putKy_rep kyK kyOf (fun k => by cases k <;> rfl) (fun l k => kyK_inv) k rd ks vs kvs nd h2 r
      exact .inr ⟨a, _, rfl, .inl ⟨kvs, k, h1, keyOf_v hk rk, by rw [len]; exact hl, rfl⟩, q _ ⟨_, ⟨_, upd_same, p1, rfl⟩, p2.updU ua⟩⟩
    | true =>
      cases kd with
      | tup ds =>
        simp only [gSto, Option.ite_none_right_eq_some] at hg
        obtain ⟨⟨hl, nd, hm⟩, hg⟩ := hg
        obtain ⟨k, hk, e⟩ := Option.map_eq_some_iff.mp hg
        subst e
        obtain ⟨xs, ⟨kvs, h1, h2, rfl⟩, r⟩ := ro
        have len : kvs.length = ks.length := by simpa using (congrArg List.length h2).symm
        obtain ⟨p1, p2⟩ := putKy_rep kyT .tup (fun k => rfl) (fun l k => kyT_inv) k rd ks vs kvs nd h2 r
        obtain ⟨b, ys, rfl, hb, _, rb⟩ := rk.tup_raw hm
        refine .inr ⟨a, _, rfl, .inr ⟨kvs, k, b, h1, rfl, by rw [hb, keysOf_v hk rb], by rw [len]; exact hl, rfl⟩, q _ ⟨_, ⟨_, upd_same, p1, rfl⟩, p2.updU ua⟩⟩
      | _ => simp [gSto] at hg
  | ins c ns ds => simp [gSto] at hg
end
def stoAt (i : Nat) (g : Ob → Option Ob) (env : En) : Rs Fl := match env[i]? with
  | some s => match s.ob with
    | some o => match g o with
      | some o' => .ok .nx (env.set i (s.put o'))
      | none => .bad
    | none => .bad
  | none => .bad
/-- x[k] = e -/
def mSto (i : Nat) (g : Ob → D → D → Option Ob) (m mk : En → Rs D) : En → Rs Fl := fun env => (m env).bind fun d e1 => if isObAt i e1 = true then (mk e1).bind fun kd e2 => stoAt i (fun o => g o kd d) e2 else .bad
where isObAt (i : Nat) (env : En) : Bool := ((env[i]?).bind Sl.ob).isSome
section
variable {X : Cx} {W : WX} {st : Stmt} {o ki : Expr} {i : Nat} {g : Ob → D → D → Option Ob} {t : TSet} {m mk : En → Rs D}
theorem es_sto (hg : Sto X.K g t) (h : PS X st (tAsg (tE X.K W m) (L2.gSub (tVar i) (tE X.K W mk) t))) : EvS X W st (mSto i g m mk) :=
  PS_imp h fun Dn σ H ⟨U, env, sa, po⟩ => ⟨U, env, sa, PoS.step po fun v H1 d e1 a r po1 => by
    by_cases hb : mSto.isObAt i e1 = true
    · rw [if_pos hb] at po1
      unfold mSto.isObAt at hb
      obtain ⟨ob, hb⟩ := Option.isSome_iff_exists.mp hb
      obtain ⟨s, h1, h2⟩ := Option.bind_eq_some_iff.mp hb
      obtain ⟨p, ep, _⟩ := a.sa.ob i s ob h1 h2
      refine ⟨.ref p, ep, U, e1, a.sa, PoS.step po1 fun kv H2 kd e2 a2 rk po2 => ?_⟩
      unfold stoAt at po2
      cases hi : e2[i]? with
      | none => rw [hi] at po2; exact po2.elim
      | some s2 =>
        simp only [hi] at po2
        cases ho : s2.ob with
        | none => simp only [ho] at po2; exact po2.elim
        | some o2 =>
          simp only [ho] at po2
          cases hz : g o2 kd d with
          | none => simp only [hz] at po2; exact po2.elim
          | some o' =>
            simp only [hz] at po2
            obtain ⟨b, e, ro⟩ := a2.sa.ob i s2 o2 hi ho
            rw [ep] at e
            cases e
            refine hg _ H2 p o2 kd d kv v o' _ a2.sa.alU (.inr ⟨i, s2, o2, hi, ho, ep⟩) ro rk (a2.rep a.sa r) hz fun hob ro' => ?_
            obtain ⟨st, _⟩ := Ste.write2 a2.sa hi ho ep ro'
            exact po2 σ _ st
    · rw [if_neg hb] at po1
      exact po1.elim⟩
end
end Mi

set_option Elab.async false
set_option linter.all false
set_option maxRecDepth 100000
set_option maxHeartbeats 4000000
/-! Mi13: lists by comprehension -/
namespace Mi
open PySem PySem.Spec L2
variable [Tb]
def wipeE (e : En) : List Nat → En
  | [] => e
  | v :: vs => (wipeE e vs).set v .un
/-- the slots vs as they were -/
def backE (e0 e : En) : List Nat → En
  | [] => e
  | v :: vs => match e0[v]? with
    | some s => (backE e0 e vs).set v s
    | none => backE e0 e vs
def okVs (e : En) (vs : List Nat) : Bool := vs.all fun v => match e[v]? with
  | some .un => true
  | some (.v _) => true
  | _ => false
section
variable {K : PySem.W.Frag} {U : Addr → Prop} {env : En} {σ : St} {H : Hp}
theorem wipeE_len (e : En) : ∀ vs : List Nat, (wipeE e vs).length = e.length
  | [] => rfl
  | v :: vs => by rw [wipeE, List.length_set, wipeE_len e vs]
theorem wipeE_get {e : En} {i : Nat} {s : Sl} : ∀ {vs : List Nat}, (wipeE e vs)[i]? = some s → s = .un ∨ (e[i]? = some s ∧ i ∉ vs)
  | [], h => .inr ⟨h, by simp⟩
  | v :: vs, h => by
    rw [wipeE] at h
    by_cases hv : v = i
    · subst hv
      by_cases hl : v < (wipeE e vs).length
      · rw [List.getElem?_set_self hl] at h
        cases h
        exact .inl rfl
      · rw [List.getElem?_eq_none (by rw [List.length_set]; omega)] at h
        cases h
    · rw [List.getElem?_set_ne hv] at h
      rcases wipeE_get h with h | ⟨h, n⟩
      · exact .inl h
      · exact .inr ⟨h, by simp [n, Ne.symm hv]⟩
theorem wipeE_out {e : En} {i : Nat} : ∀ {vs : List Nat}, i ∉ vs → (wipeE e vs)[i]? = e[i]?
  | [], _ => rfl
  | v :: vs, h => by
    rw [wipeE, List.getElem?_set_ne (fun z => h (by rw [z]; exact List.mem_cons_self))]
    exact wipeE_out fun z => h (List.mem_cons_of_mem _ z)
theorem chg_wipe {vs : List Nat} {a : Addr} (h : Chg (wipeE env vs) (wipe σ vs) a) : Chg env σ a := by
  obtain ⟨i, s, o, h1, h2, h3⟩ := h
  rcases wipeE_get h1 with e | ⟨h1, n⟩
  · subst e; cases h2
  · exact ⟨i, s, o, h1, h2, (wipe_some h3).1⟩
theorem SA.wipe (sa : SA K U env σ H) (vs : List Nat) : SA K U (wipeE env vs) (wipe σ vs) H := by
  have sub : ∀ x, Ux U (wipeE env vs) (L2.wipe σ vs) x → Ux U env σ x := fun x h => h.imp id chg_wipe
  refine ⟨by rw [wipeE_len, wipe_length]; exact sa.len, sa.tb, sa.alN, fun a c => sa.nu a (chg_wipe c), fun i j s t o p a h1 h2 h3 h4 h5 h6 => ?_, fun i d h => ?_, fun i s o h1 h2 => ?_⟩
  · rcases wipeE_get h1 with e | ⟨h1, _⟩
    · subst e; cases h2
    · rcases wipeE_get h3 with e | ⟨h3, _⟩
      · subst e; cases h4
      · exact sa.inj i j s t o p a h1 h2 h3 h4 (wipe_some h5).1 (wipe_some h6).1
  · rcases wipeE_get h with e | ⟨h, n⟩
    · cases e
    · obtain ⟨v, e, r⟩ := sa.val i d h
      exact ⟨v, by rw [wipe_out n]; exact e, Rep.to (fun _ _ _ q => q) (fun x o n _ q => n (sub x q)) d v r⟩
  · rcases wipeE_get h1 with e | ⟨h1, n⟩
    · subst e; cases h2
    · obtain ⟨a, e, r⟩ := sa.ob i s o h1 h2
      exact ⟨a, by rw [wipe_out n]; exact e, RepO.to (fun _ _ _ q => q) (fun x o n _ q => n (sub x q)) (fun _ q => q) r⟩
theorem wipe_btw {σ σ' : St} : ∀ {vs is : List Nat}, Btw is σ σ' → (∀ i ∈ is, i ∈ vs) → wipe σ' vs = wipe σ vs := fun {vs is} b hs => by
  apply List.ext_getElem?
  intro j
  by_cases hj : j ∈ vs
  · have key : ∀ (τ : St) (ws : List Nat), j ∈ ws → (wipe τ ws)[j]? = if j < τ.length then some none else none := by
      intro τ ws
      induction ws with
      | nil => intro h; simp at h
      | cons w ws ih =>
        intro h
        rw [wipe]
        by_cases e : w = j
        · subst e
          by_cases hl : w < τ.length
          · rw [List.getElem?_set_self (by rw [wipe_length]; exact hl), if_pos hl]
          · rw [List.getElem?_eq_none (by rw [List.length_set, wipe_length]; omega), if_neg hl]
        · rw [List.getElem?_set_ne e]
          exact ih ((List.mem_cons.mp h).resolve_left (Ne.symm e))
    rw [key σ' vs hj, key σ vs hj, b.1]
  · rw [wipe_out hj, wipe_out hj]
    exact b.2 j fun h => hj (hs j h)
theorem btw_wipe (σ : St) (vs : List Nat) : Btw vs σ (wipe σ vs) := ⟨wipe_length σ vs, fun j h => wipe_out h⟩
variable {p : Addr} {e e2 : En} {σ' σ2 : St} {H' H2 : Hp} {acc : List D}
theorem LcI.step (l : LcI K U env σ H p e σ' H' acc) (st : Ste K (Up U p) e σ' H' e2 σ2 H2) : LcI K U env σ H p e2 σ2 H2 acc where
  sa := st.sa
  gr := fun a o n h => st.gr a o (fun c => (l.fr a c).elim n fun z => z.no h) (l.gr a o n h)
  fr := fun a c => by
    rcases st.fr a c with q | q
    · exact l.fr a q
    · by_cases n : Chg env σ a
      · exact .inl n
      · exact .inr fun o h => q o (l.gr a o n h)
  io := fun i o h => by
    obtain ⟨o1, h1, e1⟩ := l.io i o h
    obtain ⟨o2, h2, e2⟩ := st.io i o1 h1
    exact ⟨o2, h2, e2.trans e1⟩
  ob := by
    obtain ⟨xs, h1, r⟩ := l.ob
    exact ⟨xs, (st.gr p _ (fun c => l.sa.nu p c (.inr rfl)) ⟨h1, nt_lst⟩).1, st.reps l.sa r⟩
  nw := l.nw
theorem SA.updU (sa : SA K U env σ H) {a : Addr} {ho : HO} (h : U a) (hw : ∃ u, H a = some u ∧ OwnO u) (nt : OwnO ho) : SA K U env σ (upd H a ho) where
  len := sa.len
  tb := by
    obtain ⟨u, e, w⟩ := hw
    exact sa.tb.write e w fun c v n q _ => by rw [upd_ne n]; exact q
  alN := fun x q => by
    by_cases e : x = a
    · exact ⟨ho, ⟨by rw [e]; exact upd_same, own_nt nt⟩, nt⟩
    · obtain ⟨o, z⟩ := sa.alN x q
      exact ⟨o, ⟨by rw [upd_ne e]; exact z.1.1, z.1.2⟩, z.2⟩
  nu := sa.nu
  inj := sa.inj
  val := fun i d q => by
    obtain ⟨v, e, r⟩ := sa.val i d q
    exact ⟨v, e, r.updU (.inl h)⟩
  ob := fun i s o h1 h2 => by
    obtain ⟨b, e, r⟩ := sa.ob i s o h1 h2
    refine ⟨b, e, RepO.to (fun b u n e => ⟨by rw [upd_ne (fun z => n (by rw [z]; exact .inl h))]; exact e.1, e.2⟩) (fun _ _ n _ => n) (fun u q => ⟨?_, q.2⟩) r⟩
    rw [upd_ne (fun z => ?_)]
    · exact q.1
    · subst z
      exact sa.nu _ ⟨i, s, o, h1, h2, e⟩ h
theorem LcI.push {d : D} {v : V} (l : LcI K U env σ H p e σ' H' acc) (r : Rep K (Ux (Up U p) e σ') H' d v) : ∃ xs, H' p = some (.lst xs) ∧ xs.length = acc.length ∧ LcI K U env σ H p e σ' (upd H' p (.lst (xs ++ [v]))) (acc ++ [d]) := by
  obtain ⟨xs, h1, rs⟩ := l.ob
  have up : Up U p p := .inr rfl
  refine ⟨xs, h1, rs.len, l.sa.updU up ⟨_, h1, trivial⟩ trivial, fun a o n h => ?_, l.fr, l.io, ⟨_, upd_same, ((rs.append (show Reps K _ H' [d] [v] from ⟨v, [], rfl, r, rfl⟩)).updU (.inl up))⟩, l.nw⟩
  refine ⟨?_, h.2⟩
  rw [upd_ne (fun z => by have h := h.1; rw [z, l.nw] at h; cases h)]
  exact (l.gr a o n h).1
theorem LcI.wipe (l : LcI K U env σ H p e σ' H' acc) (vs : List Nat) (ok : okVs env vs = true) : LcI K U env σ H p (wipeE e vs) (wipe σ' vs) H' acc where
  sa := l.sa.wipe vs
  gr := l.gr
  fr := fun a c => l.fr a (chg_wipe c)
  io := fun i o h => by
    have n : i ∉ vs := fun m => by
      have := List.all_eq_true.mp ok i m
      rw [h] at this
      cases this
    obtain ⟨o', h1, h2⟩ := l.io i o h
    exact ⟨o', by rw [wipeE_out n]; exact h1, by rw [wipe_out n]; exact h2⟩
  ob := by
    obtain ⟨xs, h1, r⟩ := l.ob
    exact ⟨xs, h1, Reps.to (fun _ _ _ q => q) (fun x o n _ q => n (q.imp id chg_wipe)) _ _ r⟩
  nw := l.nw
theorem backE_len (e0 e : En) : ∀ vs : List Nat, (backE e0 e vs).length = e.length
  | [] => rfl
  | v :: vs => by
    rw [backE]
    cases e0[v]? with
    | none => exact backE_len e0 e vs
    | some s => rw [List.length_set]; exact backE_len e0 e vs
theorem backE_get {e0 e : En} {i : Nat} {s : Sl} : ∀ {vs : List Nat}, (backE e0 e vs)[i]? = some s → (e[i]? = some s ∧ (i ∉ vs ∨ e0[i]? = none)) ∨ (e0[i]? = some s ∧ i ∈ vs)
  | [], h => .inl ⟨h, .inl (by simp)⟩
  | v :: vs, h => by
    rw [backE] at h
    cases hv : e0[v]? with
    | none =>
      rw [hv] at h
      rcases backE_get h with ⟨a, b⟩ | ⟨a, b⟩
      · refine .inl ⟨a, ?_⟩
        by_cases e1 : i = v
        · subst e1; exact .inr hv
        · exact b.imp (fun n => by simp [n, e1]) id
      · exact .inr ⟨a, List.mem_cons_of_mem _ b⟩
    | some t =>
      rw [hv] at h
      simp only at h
      by_cases e1 : v = i
      · subst e1
        by_cases hl : v < (backE e0 e vs).length
        · rw [List.getElem?_set_self hl] at h
          cases h
          exact .inr ⟨hv, List.mem_cons_self⟩
        · rw [List.getElem?_eq_none (by rw [List.length_set]; omega)] at h
          cases h
      · rw [List.getElem?_set_ne e1] at h
        rcases backE_get h with ⟨a, b⟩ | ⟨a, b⟩
        · exact .inl ⟨a, b.imp (fun n => by simp [n, Ne.symm e1]) id⟩
        · exact .inr ⟨a, List.mem_cons_of_mem _ b⟩
theorem backE_out {e0 e : En} {i : Nat} : ∀ {vs : List Nat}, i ∉ vs → (backE e0 e vs)[i]? = e[i]?
  | [], _ => rfl
  | v :: vs, h => by
    have h1 : v ≠ i := fun z => h (by rw [z]; exact List.mem_cons_self)
    have h2 : i ∉ vs := fun z => h (List.mem_cons_of_mem _ z)
    rw [backE]
    cases e0[v]? with
    | none => exact backE_out h2
    | some s => simp only; rw [List.getElem?_set_ne h1]; exact backE_out h2
/-- behind the loop -/
theorem LcI.fin {vs : List Nat} (sa : SA K U env σ H) (ok : okVs env vs = true) (l : LcI K U env σ H p e (L2.wipe σ vs) H' acc) : Fre K U env σ H (backE env e vs) H' (.lst acc) p := by
  have notob : ∀ {i : Nat} {s : Sl} {o : Ob}, env[i]? = some s → i ∈ vs → s.ob = some o → False := fun {i s o} h1 h2 h3 => by
    have := List.all_eq_true.mp ok i h2
    rw [h1] at this
    cases s <;> first | (cases h3; done) | (simp at this; done)
  -- an object's slot is outside vs
  have obs : ∀ {i : Nat} {s : Sl} {o : Ob}, (backE env e vs)[i]? = some s → s.ob = some o → e[i]? = some s ∧ (i ∉ vs ∨ env[i]? = none) := fun {i s o} h1 h2 => by
    rcases backE_get h1 with q | ⟨q, m⟩
    · exact q
    · exact (notob q m h2).elim
  have le : e.length = env.length := by rw [l.sa.len, wipe_length, sa.len]
  have none_lt : ∀ {i : Nat} {s : Sl}, e[i]? = some s → env[i]? = none → False := fun {i s} h1 h2 => by
    have a := (List.getElem?_eq_some_iff.mp h1).1
    have b := List.getElem?_eq_none_iff.mp h2
    omega
  have obs2 : ∀ {i : Nat} {s : Sl} {o : Ob}, (backE env e vs)[i]? = some s → s.ob = some o → e[i]? = some s ∧ i ∉ vs := fun {i s o} h1 h2 => by
    obtain ⟨a, b⟩ := obs h1 h2
    exact ⟨a, b.resolve_right fun n => none_lt a n⟩
  have ch : ∀ a, Chg (backE env e vs) σ a → Chg e (L2.wipe σ vs) a := fun a ⟨i, s, o, h1, h2, h3⟩ => by
    obtain ⟨q, n⟩ := obs2 h1 h2
    exact ⟨i, s, o, q, h2, by rw [wipe_out n]; exact h3⟩
  have sub : ∀ {V : Addr → Prop} x, Ux V (backE env e vs) σ x → Ux V e (L2.wipe σ vs) x := fun x h => h.imp id (ch x)
  have kp : ∀ a o, ¬ Ux U env σ a → HN H a o → HN H' a o := fun a o n h => l.gr a o (fun c => n (.inr c)) h
  have ku : ∀ a o, ¬ Ux U env σ a → HN H a o → ¬ Ux (Up U p) (backE env e vs) σ a := fun a o n h q => by
    rcases ux_up.mp (sub a q) with q | q
    · rcases q with q | q
      · exact n (.inl q)
      · exact (l.fr a q).elim (fun c => n (.inr c)) fun z => z.no h
    · have h := h.1
      rw [q, l.nw] at h
      cases h
  refine ⟨.inr (.of l.nw), fun h => ?_, ⟨by rw [backE_len, le, sa.len], l.sa.tb, l.sa.alN, fun a c => l.sa.nu a (ch a c), fun i j s t o q a h1 h2 h3 h4 h5 h6 => ?_, fun i d h => ?_, fun i s o h1 h2 => ?_⟩, l.gr, fun a c => l.fr a (ch a c), fun i o h => ?_, ?_⟩
  · obtain ⟨o, z⟩ := sa.al p h
    rw [l.nw] at z
    cases z
  · obtain ⟨q1, n1⟩ := obs2 h1 h2
    obtain ⟨q2, n2⟩ := obs2 h3 h4
    exact l.sa.inj i j s t o q a q1 h2 q2 h4 (by rw [wipe_out n1]; exact h5) (by rw [wipe_out n2]; exact h6)
  · rcases backE_get h with ⟨q, n⟩ | ⟨q, m⟩
    · have n := n.resolve_right fun z => none_lt q z
      obtain ⟨v, e1, r⟩ := l.sa.val i d q
      rw [wipe_out n] at e1
      exact ⟨v, e1, Rep.to (fun _ _ _ q => q) (fun x o n _ q => n (sub x q)) d v r⟩
    · obtain ⟨v, e1, r⟩ := sa.val i d q
      exact ⟨v, e1, Rep.to kp ku d v r⟩
  · obtain ⟨q, n⟩ := obs2 h1 h2
    obtain ⟨a, e1, r⟩ := l.sa.ob i s o q h2
    rw [wipe_out n] at e1
    exact ⟨a, e1, RepO.to (fun _ _ _ q => q) (fun x o n _ q => n (sub x q)) (fun _ q => q) r⟩
  · obtain ⟨o', h1, _⟩ := l.io i o h
    refine ⟨o', ?_⟩
    rw [backE_out (fun m => notob h m rfl)]
    exact h1
  · obtain ⟨xs, h1, r⟩ := l.ob
    exact ⟨xs, h1, Reps.to (fun _ _ _ q => q) (fun x o n _ q => n (sub x q)) _ _ r⟩
theorem LcI.start (sa : SA K U env σ H) (hp : H p = none) (vs : List Nat) (ok : okVs env vs = true) : LcI K U env σ H p (wipeE env vs) (L2.wipe σ vs) (upd H p (.lst [])) [] := by
  have f := Fre.new (o := .lst []) (ho := .lst []) sa hp ⟨[], upd_same, rfl⟩
  have l : LcI K U env σ H p env σ (upd H p (.lst [])) [] := ⟨f.sa, f.gr, f.fr, fun i o h => ⟨o, h, rfl⟩, ⟨[], upd_same, rfl⟩, hp⟩
  exact l.wipe vs ok
end
/-! ### the loop's mirror -/
def lcStep (vs : List Nat) (mg : D → En → Option En) (mt : En → Rs Bool) (me : List D → En → Rs (List D)) (d : D) (acc : List D) (e : En) : Rs (List D) := match mg d e with
  | none => .bad
  | some e2 => match mt e2 with
    | .ok false e3 => .ok acc (wipeE e3 vs)
    | .ok true e3 => match me acc e3 with
      | .ok acc' e4 => .ok acc' (wipeE e4 vs)
      | _ => .bad
    | _ => .bad
def lcL (vs : List Nat) (mg : D → En → Option En) (mt : En → Rs Bool) (me : List D → En → Rs (List D)) : List D → List D → En → Rs (List D)
  | [], acc, e => .ok acc e
  | d :: r, acc, e => match lcStep vs mg mt me d acc e with
    | .ok acc' e' => lcL vs mg mt me r acc' e'
    | _ => .bad
/-- one more -/
def lcPush (me : En → Rs D) : List D → En → Rs (List D) := fun acc e => match me e with
  | .ok z e4 => if acc.length < sizeLine then .ok (acc ++ [z]) e4 else .bad
  | _ => .bad
/-- a second clause -/
def lcIn (vs1 : List Nat) (mi : En → Rs (List D)) (mg : D → En → Option En) (mt : En → Rs Bool) (me : List D → En → Rs (List D)) : List D → En → Rs (List D) := fun acc e => match mi e with
  | .ok ds e1 => lcL vs1 mg mt me ds acc (wipeE e1 vs1)
  | _ => .bad
def mLc (vs : List Nat) (mi : En → Rs (List D)) (mg : D → En → Option En) (mt : En → Rs Bool) (me : List D → En → Rs (List D)) : En → Rs Ob := fun env => (mi env).bind fun ds e1 => if okVs e1 vs = true then (match lcL vs mg mt me ds [] (wipeE e1 vs) with
  | .ok acc e2 => .ok (.lst acc) (backE e1 e2 vs)
  | _ => .bad) else .bad
theorem takes0 (X : Cx) : Takes X W0 := fun u s' ⟨_, _, _, _, _, _, _, _, _, _, _, _, _, _, _, _, h⟩ => h.elim
abbrev EvTs (X : Cx) (ifs : List Expr) (m : En → Rs Bool) : Prop := PTs X ifs (tT X.K W0 m)
def ttYes : En → Rs Bool := fun env => .ok true env
theorem ets_nil {X : Cx} : EvTs X [] ttYes := ⟨fun pins s σ H Q I ⟨U, env, sa, po⟩ => pts_nil.run pins s σ H Q I (po true H (.refl sa) rfl)⟩
theorem ets_one {X : Cx} {c : Expr} {m : En → Rs Bool} (h : EvT X W0 c m) : EvTs X [c] m := pts_one h
section
variable {X : Cx} {W : WX} {elt tg iter tg1 iter1 : Expr} {ifs ifs1 : List Expr} {scope : Scope} {own : List (Str × Nat)} {vs1 : List Nat} {pos : Pos} {mi mi1 : En → Rs (List D)} {is is1 : List Nat} {mg mg1 : D → En → Option En} {mt mt1 : En → Rs Bool} {me : En → Rs D}
/-- what a turn gives back -/
def LcN (K : PySem.W.Frag) (U : Addr → Prop) (env : En) (σ : St) (H : Hp) (p : Addr) (τ : St) (k : List D → En → Rs (List D)) (ok : List D → En → Prop) (H' : Hp) : Prop := ∃ e acc acc' e', LcI K U env σ H p e τ H' acc ∧ k acc e = .ok acc' e' ∧ ok acc' e'
theorem lc_turn {K : PySem.W.Frag} {U : Addr → Prop} {e1 e : En} {σ τ : St} {H1 H' : Hp} {p : Addr} {acc : List D} {ds : List D} {J : It} {i : Nat} {x : V} {H2 : Hp} {d : D} (it : ItOk K (Ux U e1 σ) H1 ds J) (l : LcI K U e1 σ H1 p e τ H' acc) (hd : ds[i]? = some d) (y : J.yld i H' x H2) :
    LcI K U e1 σ H1 p e τ H2 acc ∧ Rep K (Ux (Up U p) e τ) H2 d x := by
  have kp : ∀ a o, ¬ Ux U e1 σ a → HN H1 a o → HN H' a o := fun a o n h => l.gr a o (fun c => n (.inr c)) h
  have ku : ∀ a o, ¬ Ux U e1 σ a → HN H1 a o → ¬ Ux (Up U p) e τ a := fun a o n h q => by
    rcases ux_up.mp q with (q | q) | q
    · exact n (.inl q)
    · exact (l.fr a q).elim (fun c => n (.inr c)) fun z => z.no h
    · have h := h.1; rw [q, l.nw] at h; cases h
  obtain ⟨sm, rx⟩ := it.yld i _ H' H2 x _ hd kp ku l.sa.alO y
  exact ⟨l.step ((Ste.refl l.sa).same sm), rx⟩
theorem lc_kp {K : PySem.W.Frag} {U : Addr → Prop} {e1 e : En} {σ τ : St} {H1 H' : Hp} {p : Addr} {acc : List D} (l : LcI K U e1 σ H1 p e τ H' acc) : ∀ a o, ¬ Ux U e1 σ a → HN H1 a o → HN H' a o := fun a o n h => l.gr a o (fun c => n (.inr c)) h
theorem lc_imp {K : PySem.W.Frag} {σ : St} {H : Hp} {Q : VK} (sub : ∀ i ∈ is, i ∈ own.map (·.2)) (h : tN K W (mLc (own.map (·.2)) mi mg mt (lcPush me)) σ H Q) : tLc (tM (RI K) K W mi) (tGt K is mg) (tT K W0 mt) (tE K W0 me) (own.map (·.2)) σ H Q := by
  obtain ⟨U, env, sa, po⟩ := h
  refine ⟨U, env, sa, ?_⟩
  refine PoN.step po fun J H1 ds e1 a it po1 => fun p hp => ?_
  have it : ItOk K (Ux U e1 σ) H1 ds J := it
  generalize own.map (·.2) = vs at sub po1 ⊢
  by_cases okv : okVs e1 vs = true
  · rw [if_pos okv] at po1
    cases hr : lcL vs mg mt (lcPush me) ds [] (wipeE e1 vs) with
    | bad => simp only [hr] at po1; exact po1.elim
    | er x e => simp only [hr] at po1; exact po1.elim
    | ok acc0 e0 =>
      simp only [hr] at po1
      refine ⟨fun i m H' => m = ds.length - i ∧ i ≤ ds.length ∧ LcN K U e1 σ H1 p (L2.wipe σ vs) (lcL vs mg mt (lcPush me) (ds.drop i)) (fun b f => b = acc0 ∧ f = e0) H', ⟨ds.length, by simp, Nat.zero_le _, _, _, acc0, e0, LcI.start a.sa hp vs okv, hr, rfl, rfl⟩, ?_⟩
      rintro i m H' ⟨rfl, hi, e, acc, _, _, l, hk, rfl, rfl⟩
      by_cases hlt : i < ds.length
      · refine .inr ⟨it.go i H' hlt (lc_kp l), fun H2 => LcN K U e1 σ H1 p (L2.wipe σ vs) (lcL vs mg mt (lcPush me) (ds.drop (i + 1))) (fun b f => b = _ ∧ f = _) H2, fun H2 h => ⟨ds.length - (i + 1), by omega, rfl, hlt, h⟩, fun x H2 y => ?_⟩
        have hd : ds[i]? = some ds[i] := by simp [hlt]
        obtain ⟨l, rx⟩ := lc_turn it l hd y
        rw [List.drop_eq_getElem_cons hlt] at hk
        unfold lcL lcStep at hk
        cases hg : mg ds[i] e with
        | none => simp only [hg] at hk; cases hk
        | some e2 =>
          simp only [hg] at hk
          refine ⟨Up U p, e, ds[i], e2, l.sa, rx, hg, fun σ2 H3 st bt => ?_⟩
          have ew : L2.wipe σ2 vs = L2.wipe σ vs := (wipe_btw bt sub).trans (wipe_btw (btw_wipe σ vs) fun i h => h)
          have l2 := l.step st
          refine ⟨ew, Up U p, e2, st.sa, ?_⟩
          cases hb : mt e2 with
          | bad => simp only [hb] at hk; cases hk
          | er x e3 => simp only [hb] at hk; cases hk
          | ok b e3 =>
            simp only [hb] at hk
            intro b' H4 st2 rb
            obtain rfl : b' = b := rb
            have l3 := l2.step st2
            cases b' with
            | false =>
              refine iteF ⟨_, _, _, _, ?_, hk, rfl, rfl⟩
              rw [← ew]
              exact l3.wipe vs okv
            | true =>
              refine iteT ⟨Up U p, e3, l3.sa, ?_⟩
              simp only [lcPush] at hk
              cases hz : me e3 with
              | bad => simp only [hz] at hk; cases hk
              | er x e4 => simp only [hz] at hk; cases hk
              | ok z e4 =>
                simp only [hz] at hk
                by_cases hl : acc.length < sizeLine
                · rw [if_pos hl] at hk
                  intro v H5 st3 rz
                  have l4 := l3.step st3
                  obtain ⟨xs, h1, h2, l5⟩ := l4.push rz
                  refine ⟨xs, h1, by rw [h2]; exact hl, _, _, _, _, ?_, hk, rfl, rfl⟩
                  rw [← ew]
                  exact l5.wipe vs okv
                · rw [if_neg hl] at hk; cases hk
      · have e : i = ds.length := by omega
        subst e
        rw [List.drop_length] at hk
        cases hk
        exact .inl ⟨it.stop _ H' (Nat.le_refl _) (lc_kp l) rfl, po1 p H' ((l.fin a.sa okv).pre (.refl a.sa))⟩
  · rw [if_neg okv] at po1
    exact po1.elim
theorem ef_lc (hc : X.calm = true) (hN : X.N.Nodup) (hi : EvI X W tg iter mi) (ok : BlkOk X.N X.env.scope scope own)
    (hg : ∀ (s : Shared) (H : Hp) (C : Addr) (cl : List (Str × Addr)) (fp : List Addr), EvG (X.blk s H scope (compEnvC scope cl C X.env) fp) tg is mg) (ht : ∀ (s : Shared) (H : Hp) (C : Addr) (cl : List (Str × Addr)) (fp : List Addr), EvTs (X.blk s H scope (compEnvC scope cl C X.env) fp) ifs mt)
    (he : ∀ (s : Shared) (H : Hp) (C : Addr) (cl : List (Str × Addr)) (fp : List Addr), Ev (X.blk s H scope (compEnvC scope cl C X.env) fp) W0 elt me) (sub : ∀ i ∈ is, i ∈ own.map (·.2)) (hs : ∀ x, foldedSetIterable iter X.env x = pure x := by intro _; rfl) :
    EvF X W (.ListComp elt [⟨tg, iter, ifs, 0⟩] scope pos) (mLc (own.map (·.2)) mi mg mt (lcPush me)) :=
  PE_imp (pe_lc (g := tGt X.K is mg) (tt := tT X.K W0 mt) (te := tE X.K W0 me) hc hN hi ok hg ht he hs) fun σ H Q h => lc_imp sub h
theorem val_imp {K : PySem.W.Frag} {i : Nat} {mo : En → Rs Ob} {Dn : Ends} {σ : St} {H : Hp} (h : tS K W (mAsg (gSet i) (xVal mo)) Dn σ H) : tN K W mo σ H fun x H1 => Dn.nx (σ.set i (some x)) H1 := by
  obtain ⟨U, env, sa, po⟩ := h
  refine ⟨U, env, sa, ?_⟩
  unfold mAsg xVal at po
  cases hm : mo env with
  | bad => rw [hm] at po; exact po
  | er x e1 => rw [hm] at po; exact fun c d H' a q => po c d σ H' a q
  | ok o e1 =>
    rw [hm] at po
    simp only [Rs.bind_ok] at po
    intro p H' f
    obtain ⟨st, r⟩ := f.ste sa
    cases hg : gSet i o.val e1 with
    | none => rw [hg] at po; exact po.elim
    | some e2 =>
      rw [hg] at po
      exact po _ _ (st.trans (gSet_ok st.sa r hg))
section
variable {i : Nat} {y : Str} {py spos : Pos}
end
end
end Mi

set_option Elab.async false
set_option linter.all false
set_option maxRecDepth 100000
set_option maxHeartbeats 4000000
/-! Mi14: comprehensions of two clauses -/
namespace Mi
open PySem PySem.Spec L2
variable [Tb]
section
variable {K : PySem.W.Frag} {U : Addr → Prop} {e4 e e2 : En} {σ4 τ τ2 : St} {H4 H' H2 : Hp}
theorem LcJ.start {vs : List Nat} : LcJ U e4 σ4 H4 (wipeE e4 vs) (wipe σ4 vs) H4 := ⟨fun _ _ _ h => h, fun _ c => .inl (chg_wipe c)⟩
theorem LcJ.step (l : LcJ U e4 σ4 H4 e τ H') (st : Ste K U e τ H' e2 τ2 H2) : LcJ U e4 σ4 H4 e2 τ2 H2 where
  gr := fun a o n h => st.gr a o (fun c => (l.fr a c).elim (fun c => n (.inr c)) fun z => z.no h) (l.gr a o n h)
  fr := fun a c => by
    rcases st.fr a c with q | q
    · exact l.fr a q
    · by_cases n : Chg e4 σ4 a
      · exact .inl n
      · by_cases u : U a
        · exact (st.sa.nu a c u).elim
        · exact .inr fun o z => q o (l.gr a o (fun h => h.elim u n) z)
theorem LcJ.push {p : Addr} {ho : HO} (l : LcJ U e4 σ4 H4 e τ H') (up : U p) : LcJ U e4 σ4 H4 e τ (upd H' p ho) where
  gr := fun a o n h => ⟨by rw [upd_ne (fun z => n (by rw [z]; exact .inl up))]; exact (l.gr a o n h).1, h.2⟩
  fr := l.fr
theorem LcJ.wipe (l : LcJ U e4 σ4 H4 e τ H') (vs : List Nat) : LcJ U e4 σ4 H4 (wipeE e vs) (wipe τ vs) H' := ⟨l.gr, fun a c => l.fr a (chg_wipe c)⟩
end
section
variable {X : Cx} {W : WX} {elt tg iter tg1 iter1 : Expr} {ifs ifs1 : List Expr} {scope : Scope} {own : List (Str × Nat)} {vs1 : List Nat} {pos : Pos} {mi mi1 : En → Rs (List D)} {is is1 : List Nat} {mg mg1 : D → En → Option En} {mt mt1 : En → Rs Bool} {me : En → Rs D}
theorem lc2_imp {K : PySem.W.Frag} {σ : St} {H : Hp} {Q : VK} (hv : ∀ i ∈ vs1, i ∈ own.map (·.2)) (sub : ∀ i ∈ is, i ∈ own.map (·.2)) (sub1 : ∀ i ∈ is1, i ∈ vs1) (h : tN K W (mLc (own.map (·.2)) mi mg mt (lcIn vs1 mi1 mg1 mt1 (lcPush me))) σ H Q) :
    tLc2 (tM (RI K) K W mi) (tGt K is mg) (tT K W0 mt) (tM (RI K) K W0 mi1) (tGt K is1 mg1) (tT K W0 mt1) (tE K W0 me) (own.map (·.2)) vs1 σ H Q := by
  obtain ⟨U, env, sa, po⟩ := h
  refine ⟨U, env, sa, ?_⟩
  refine PoN.step po fun J H1 ds e1 a it po1 => fun p hp => ?_
  have it : ItOk K (Ux U e1 σ) H1 ds J := it
  generalize own.map (·.2) = vs at sub hv po1 ⊢
  by_cases okv : okVs e1 vs = true
  · have okv1 : okVs e1 vs1 = true := List.all_eq_true.mpr fun i hi => List.all_eq_true.mp okv i (hv i hi)
    rw [if_pos okv] at po1
    generalize hin : lcIn vs1 mi1 mg1 mt1 (lcPush me) = inn at po1
    cases hr : lcL vs mg mt inn ds [] (wipeE e1 vs) with
    | bad => simp only [hr] at po1; exact po1.elim
    | er x e => simp only [hr] at po1; exact po1.elim
    | ok acc0 e0 =>
      simp only [hr] at po1
      refine ⟨fun i m H' => m = ds.length - i ∧ i ≤ ds.length ∧ LcN K U e1 σ H1 p (L2.wipe σ vs) (lcL vs mg mt inn (ds.drop i)) (fun b f => b = acc0 ∧ f = e0) H', ⟨ds.length, by simp, Nat.zero_le _, _, _, acc0, e0, LcI.start a.sa hp vs okv, hr, rfl, rfl⟩, ?_⟩
      rintro i m H' ⟨rfl, hi, e, acc, _, _, l, hk, rfl, rfl⟩
      by_cases hlt : i < ds.length
      · refine .inr ⟨it.go i H' hlt (lc_kp l), fun H2 => LcN K U e1 σ H1 p (L2.wipe σ vs) (lcL vs mg mt inn (ds.drop (i + 1))) (fun b f => b = _ ∧ f = _) H2, fun H2 h => ⟨ds.length - (i + 1), by omega, rfl, hlt, h⟩, fun x H2 y => ?_⟩
        have hd : ds[i]? = some ds[i] := by simp [hlt]
        obtain ⟨l, rx⟩ := lc_turn it l hd y
        rw [List.drop_eq_getElem_cons hlt] at hk
        unfold lcL lcStep at hk
        cases hg : mg ds[i] e with
        | none => simp only [hg] at hk; cases hk
        | some e2 =>
          simp only [hg] at hk
          refine ⟨Up U p, e, ds[i], e2, l.sa, rx, hg, fun σ2 H3 st bt => ?_⟩
          have ew : L2.wipe σ2 vs = L2.wipe σ vs := (wipe_btw bt sub).trans (wipe_btw (btw_wipe σ vs) fun i h => h)
          have l2 := l.step st
          refine ⟨ew, Up U p, e2, st.sa, ?_⟩
          cases hb : mt e2 with
          | bad => simp only [hb] at hk; cases hk
          | er x e3 => simp only [hb] at hk; cases hk
          | ok b e3 =>
            simp only [hb] at hk
            intro b' H4 st2 rb
            obtain rfl : b' = b := rb
            have l3 := l2.step st2
            cases b' with
            | false =>
              refine iteF ⟨_, _, _, _, ?_, hk, rfl, rfl⟩
              rw [← ew]
              exact l3.wipe vs okv
            | true =>
              refine iteT ⟨Up U p, e3, l3.sa, ?_⟩
              simp only at hk
              subst hin
              generalize hin : lcIn vs1 mi1 mg1 mt1 (lcPush me) = inn at hk
              cases hz : inn acc e3 with
              | bad => simp only [hz] at hk; cases hk
              | er x e4 => simp only [hz] at hk; cases hk
              | ok acc1 e9 =>
                simp only [hz] at hk
                subst hin
                generalize hin : lcIn vs1 mi1 mg1 mt1 (lcPush me) = inn at hk ⊢
                unfold lcIn at hz
                cases hm : mi1 e3 with
                | bad => simp only [hm] at hz; cases hz
                | er x e4 => simp only [hm] at hz; cases hz
                | ok ds1 e4 =>
                  simp only [hm] at hz
                  intro J1 H5 st3 it1
                  have it1 : ItOk K (Ux (Up U p) e4 σ2) H5 ds1 J1 := it1
                  have l4 := l3.step st3
                  refine ⟨fun j k H' => k = ds1.length - j ∧ j ≤ ds1.length ∧ ∃ e acc, LcI K U e1 σ H1 p e (L2.wipe σ2 vs1) H' acc ∧ LcJ (Up U p) e4 σ2 H5 e (L2.wipe σ2 vs1) H' ∧ lcL vs1 mg1 mt1 (lcPush me) (ds1.drop j) acc e = .ok acc1 e9, ⟨ds1.length, by simp, Nat.zero_le _, _, _, l4.wipe vs1 okv1, LcJ.start, hz⟩, ?_⟩
                  rintro j k H' ⟨rfl, hj, f, acc2, k1, k2, hq⟩
                  by_cases hlt1 : j < ds1.length
                  · refine .inr ⟨it1.go j H' hlt1 k2.gr, fun H6 => ∃ e acc, LcI K U e1 σ H1 p e (L2.wipe σ2 vs1) H6 acc ∧ LcJ (Up U p) e4 σ2 H5 e (L2.wipe σ2 vs1) H6 ∧ lcL vs1 mg1 mt1 (lcPush me) (ds1.drop (j + 1)) acc e = .ok acc1 e9, fun H6 h => ⟨ds1.length - (j + 1), by omega, rfl, hlt1, h⟩, fun x1 H6 y1 => ?_⟩
                    have hd1 : ds1[j]? = some ds1[j] := by simp [hlt1]
                    have ku : ∀ a o, ¬ Ux (Up U p) e4 σ2 a → HN H5 a o → ¬ Ux (Up U p) f (L2.wipe σ2 vs1) a := fun a o n h q => by
                      rcases q with q | q
                      · exact n (.inl q)
                      · exact (k2.fr a q).elim (fun c => n (.inr c)) fun z => z.no h
                    obtain ⟨sm, rx1⟩ := it1.yld j _ H' H6 x1 _ hd1 k2.gr ku k1.sa.alO y1
                    have k1 := k1.step ((Ste.refl k1.sa).same sm)
                    have k2 : LcJ (Up U p) e4 σ2 H5 f (L2.wipe σ2 vs1) H6 := ⟨fun a o n h => ⟨sm a o (k2.gr a o n h).1, h.2⟩, k2.fr⟩
                    rw [List.drop_eq_getElem_cons hlt1] at hq
                    unfold lcL lcStep at hq
                    cases hg1 : mg1 ds1[j] f with
                    | none => simp only [hg1] at hq; cases hq
                    | some f2 =>
                      simp only [hg1] at hq
                      refine ⟨Up U p, f, ds1[j], f2, k1.sa, rx1, hg1, fun σ3 H7 st4 bt1 => ?_⟩
                      have ew1 : L2.wipe σ3 vs1 = L2.wipe σ2 vs1 := (wipe_btw bt1 sub1).trans (wipe_btw (btw_wipe σ2 vs1) fun i h => h)
                      have k3 := k1.step st4
                      have j3 := k2.step st4
                      refine ⟨ew1, Up U p, f2, st4.sa, ?_⟩
                      cases hb1 : mt1 f2 with
                      | bad => simp only [hb1] at hq; cases hq
                      | er x e3 => simp only [hb1] at hq; cases hq
                      | ok b f3 =>
                        simp only [hb1] at hq
                        intro b' H8 st5 rb
                        obtain rfl : b' = b := rb
                        have k4 := k3.step st5
                        have j4 := j3.step st5
                        cases b' with
                        | false =>
                          refine iteF ⟨_, _, ?_, ?_, hq⟩
                          · rw [← ew1]; exact k4.wipe vs1 okv1
                          · rw [← ew1]; exact j4.wipe vs1
                        | true =>
                          refine iteT ⟨Up U p, f3, k4.sa, ?_⟩
                          simp only [lcPush] at hq
                          cases hw : me f3 with
                          | bad => simp only [hw] at hq; cases hq
                          | er x e4 => simp only [hw] at hq; cases hq
                          | ok z f4 =>
                            simp only [hw] at hq
                            by_cases hl : acc2.length < sizeLine
                            · rw [if_pos hl] at hq
                              intro v H9 st6 rz
                              have k5 := k4.step st6
                              have j5 := j4.step st6
                              obtain ⟨xs, h1, h2, k6⟩ := k5.push rz
                              refine ⟨xs, h1, by rw [h2]; exact hl, _, _, ?_, ?_, hq⟩
                              · rw [← ew1]; exact k6.wipe vs1 okv1
                              · rw [← ew1]; exact (j5.push (.inr rfl)).wipe vs1
                            · rw [if_neg hl] at hq; cases hq
                  · have e : j = ds1.length := by omega
                    subst e
                    rw [List.drop_length] at hq
                    cases hq
                    refine .inl ⟨it1.stop _ H' (Nat.le_refl _) k2.gr rfl, _, _, _, _, ?_, hk, rfl, rfl⟩
                    have e2 : L2.wipe (L2.wipe σ2 vs1) vs = L2.wipe σ vs := (wipe_btw (btw_wipe σ2 vs1) hv).trans ew
                    rw [← e2]
                    exact k1.wipe vs okv
      · have e : i = ds.length := by omega
        subst e
        rw [List.drop_length] at hk
        cases hk
        exact .inl ⟨it.stop _ H' (Nat.le_refl _) (lc_kp l) rfl, po1 p H' ((l.fin a.sa okv).pre (.refl a.sa))⟩
  · rw [if_neg okv] at po1
    exact po1.elim
section
variable {i : Nat} {y : Str} {py spos : Pos}
theorem es_setLc2V (hc : X.calm = true) (hN : X.N.Nodup) (hy : X.N[i]? = some y) (hyl : X.env.scope.names.lookup y = some .local) (hsw : swapsWith (.ListComp elt [⟨tg, iter, ifs, 0⟩, ⟨tg1, iter1, ifs1, 0⟩] scope pos) (some (.Name y py)) spos.line X.env = pure true) (hi : EvI X W tg iter mi) (ok : BlkOk X.N X.env.scope scope own) (hv : ∀ i ∈ vs1, i ∈ own.map (·.2))
    (hg : ∀ (s : Shared) (H : Hp) (C : Addr) (cl : List (Str × Addr)) (fp : List Addr), EvG (X.blk s H scope (compEnvC scope cl C X.env) fp) tg is mg) (ht : ∀ (s : Shared) (H : Hp) (C : Addr) (cl : List (Str × Addr)) (fp : List Addr), EvTs (X.blk s H scope (compEnvC scope cl C X.env) fp) ifs mt)
    (hi1 : ∀ (s : Shared) (H : Hp) (C : Addr) (cl : List (Str × Addr)) (fp : List Addr), EvI (X.blk s H scope (compEnvC scope cl C X.env) fp) W0 tg1 iter1 mi1)
    (hg1 : ∀ (s : Shared) (H : Hp) (C : Addr) (cl : List (Str × Addr)) (fp : List Addr), EvG (X.blk s H scope (compEnvC scope cl C X.env) fp) tg1 is1 mg1) (ht1 : ∀ (s : Shared) (H : Hp) (C : Addr) (cl : List (Str × Addr)) (fp : List Addr), EvTs (X.blk s H scope (compEnvC scope cl C X.env) fp) ifs1 mt1)
    (he : ∀ (s : Shared) (H : Hp) (C : Addr) (cl : List (Str × Addr)) (fp : List Addr), Ev (X.blk s H scope (compEnvC scope cl C X.env) fp) W0 elt me) (sub : ∀ i ∈ is, i ∈ own.map (·.2)) (sub1 : ∀ i ∈ is1, i ∈ vs1)
    (hs : ∀ x, foldedSetIterable iter X.env x = pure x := by intro _; rfl) (hs1 : ∀ env x, foldedSetIterable iter1 env x = pure x := by intro _ _; rfl) :
    EvS X W (.Assign [.Name y py] (.ListComp elt [⟨tg, iter, ifs, 0⟩, ⟨tg1, iter1, ifs1, 0⟩] scope pos) spos) (mAsg (gSet i) (xVal (mLc (own.map (·.2)) mi mg mt (lcIn vs1 mi1 mg1 mt1 (lcPush me))))) :=
  PS_imp (ps_setLc2 (g := tGt X.K is mg) (tt := tT X.K W0 mt) (wi1 := tM (RI X.K) X.K W0 mi1) (g1 := tGt X.K is1 mg1) (tt1 := tT X.K W0 mt1) (te := tE X.K W0 me) hc hN hy hyl hsw hi ok hv hg ht hi1 hg1 ht1 he hs hs1) fun Dn σ H h => lc2_imp hv sub sub1 (val_imp h)
end
end
end Mi

set_option Elab.async false
set_option linter.all false
set_option maxRecDepth 100000
set_option maxHeartbeats 4000000
/-! Mi15: the built-in functions on trees -/
namespace Mi
open PySem PySem.Spec L2
variable [Tb]
section
variable {K : PySem.W.Frag} {U : Addr → Prop} {H : Hp}
theorem Reps.two {d e : D} {xs : List V} (r : Reps K U H [d, e] xs) : ∃ x y, xs = [x, y] ∧ Rep K U H d x ∧ Rep K U H e y := by
  obtain ⟨x, t, e, r, y, t', e', r', e''⟩ := r
  exact ⟨x, y, by rw [e, e', show t' = _ from e''], r, r'⟩
/-- a list of ints -/
def intsD : List D → Option (List Int)
  | [] => some []
  | .int i :: ds => (intsD ds).map fun r => i :: r
  | _ :: _ => none
def blsD : List D → Option (List Bool)
  | [] => some []
  | .bl i :: ds => (blsD ds).map fun r => i :: r
  | _ :: _ => none
def strsD : List D → Option (List Str)
  | [] => some []
  | .str i :: ds => (strsD ds).map fun r => i :: r
  | _ :: _ => none
theorem blsD_v : ∀ {ds : List D} {ns : List Bool} {xs : List V}, blsD ds = some ns → Reps K U H ds xs → xs = ns.map V.bl
  | [], ns, xs, h, r => by simp [blsD] at h; subst h; exact r
  | d :: ds, ns, xs, h, ⟨x, t, e, r1, r2⟩ => by
    cases d <;> simp only [blsD, reduceCtorEq] at h
    obtain ⟨r, h1, rfl⟩ := Option.map_eq_some_iff.mp h
    rw [e, show x = _ from r1, blsD_v h1 r2]; rfl
/-! ### len -/
def gLen : List D → Option D
  | [.tup ds] => some (.int ds.length)
  | [.lst ds] => some (.int ds.length)
  | [.fz ds] => some (.int ds.length)
  | [.str x] => if x.length ≤ sizeLine then some (.int x.length) else none
  | _ => none
def rLenM (K : PySem.W.Frag) : List V → Hp → VK → Prop := fun xs H Q => (∃ x n, xs = [x] ∧ LenV K x H n ∧ Q (.int n) H) ∨ ((∃ a kvs, xs = [V.ref a] ∧ H a = some (.dK kvs) ∧ Q (.int kvs.length) H) ∨ rLenT xs H Q)
theorem cr_len {X : Cx} : CallR X (.builtin "len") (rLenM X.K) := CallR.or call_len (CallR.or call_lenD call_len_dT)
theorem n_len : SndN K gLen (rLenM K) := by
  intro U H xs ds z Q al r hz q
  match ds, hz, r with
  | [], hz, _ => cases hz
  | _ :: _ :: _, hz, _ => simp [gLen] at hz
  | [d], hz, r =>
    obtain ⟨x, rfl, rx⟩ := r.one
    cases d with
    | tup ds =>
      cases hz
      obtain ⟨a, vs, rfl, h, _, rs⟩ := rx.tup_sq
      exact .inl ⟨_, ds.length, rfl, .inr ⟨vs, h.sq, rs.len.symm⟩, q _ H (Same.refl H) rfl⟩
    | lst ds =>
      cases hz
      obtain ⟨a, vs, rfl, h, _, rs⟩ := rx.lst_sq
      exact .inl ⟨_, ds.length, rfl, .inl ⟨vs, .of h, rs.len.symm⟩, q _ H (Same.refl H) rfl⟩
    | fz ds =>
      cases hz
      obtain ⟨a, vs, rfl, h, rs⟩ := rx
      exact .inl ⟨_, ds.length, rfl, .inl ⟨vs, h.sq, rs.len.symm⟩, q _ H (Same.refl H) rfl⟩
    | str w =>
      simp only [gLen, Option.ite_none_right_eq_some] at hz
      obtain ⟨h, e⟩ := hz
      cases e
      have rx : x = .str w := rx
      subst rx
      exact .inl ⟨_, w.length, rfl, ⟨h, rfl⟩, q _ H (Same.refl H) rfl⟩
    | _ => simp [gLen] at hz
/-! ### int, str, abs, max, min -/
def gInt : List D → Option D
  | [.int i] => some (.int i)
  | [.bl b] => some (.int (if b then 1 else 0))
  | [.str x] => if x.length ≤ 640 then (PySem.intText? x).map .int else none
  | _ => none
def rIntM : List V → Hp → VK → Prop := fun xs H Q => ((∃ i, xs = [.int i] ∧ Q (.int i) H) ∨ ∃ k, xs = [.bl k] ∧ Q (.int (if k then 1 else 0)) H) ∨ (∃ a n, xs = [.str a] ∧ PySem.intText? a = some n ∧ a.length ≤ 640 ∧ Q (.int n) H)
theorem cr_int {X : Cx} : CallR X (.type "int") rIntM := CallR.or call_int1 call_int_str
theorem n_int : SndN K gInt rIntM := by
  intro U H xs ds z Q al r hz q
  match ds, hz, r with
  | [], hz, _ => cases hz
  | _ :: _ :: _, hz, _ => simp [gInt] at hz
  | [d], hz, r =>
    obtain ⟨x, rfl, rx⟩ := r.one
    cases d with
    | int i => cases hz; exact .inl (.inl ⟨i, by rw [show x = _ from rx], q _ H (Same.refl H) rfl⟩)
    | bl i => cases hz; exact .inl (.inr ⟨i, by rw [show x = _ from rx], q _ H (Same.refl H) rfl⟩)
    | str w =>
      simp only [gInt, Option.ite_none_right_eq_some] at hz
      obtain ⟨h, e⟩ := hz
      obtain ⟨n, hn, rfl⟩ := Option.map_eq_some_iff.mp e
      exact .inr ⟨w, n, by rw [show x = _ from rx], hn, h, q _ H (Same.refl H) rfl⟩
    | _ => simp [gInt] at hz
def gStr : List D → Option D
  | [.int i] => if i.natAbs.log2 < 1920 then some (.str (toString i : String)) else none
  | _ => none
def gAbs : List D → Option D
  | [.int i] => some (.int (if i < 0 then -i else i))
  | _ => none
theorem n_abs : SndN K gAbs (fun xs H Q => ∃ i, xs = [.int i] ∧ Q (.int (if i < 0 then -i else i)) H) := by
  intro U H xs ds z Q al r hz q
  match ds, hz, r with
  | [], hz, _ => cases hz
  | _ :: _ :: _, hz, _ => simp [gAbs] at hz
  | [d], hz, r =>
    obtain ⟨x, rfl, rx⟩ := r.one
    cases d with
    | int i => cases hz; exact ⟨i, by rw [show x = _ from rx], q _ H (Same.refl H) rfl⟩
    | _ => simp [gAbs] at hz
/-! ### all, any, sum, of lists -/
def gAll : List D → Option D
  | [.lst ds] => (blsD ds).map fun bs => .bl (bs.all id)
  | _ => none
def gAny : List D → Option D
  | [.lst ds] => (blsD ds).map fun bs => .bl (bs.any id)
  | _ => none
theorem lst1 {g : List D → Option D} (h0 : g [] = none) (h2 : ∀ a b c, g (a :: b :: c) = none) (h1 : ∀ d, (∀ ds, d ≠ .lst ds) → g [d] = none) {ds : List D} {z : D} (hz : g ds = some z) : ∃ es, ds = [.lst es] := by
  match ds, hz with
  | [], hz => rw [h0] at hz; cases hz
  | a :: b :: c, hz => rw [h2] at hz; cases hz
  | [d], hz =>
    by_cases h : ∃ es, d = .lst es
    · obtain ⟨es, rfl⟩ := h; exact ⟨es, rfl⟩
    · rw [h1 d fun ds e => h ⟨ds, e⟩] at hz; cases hz
theorem n_all : SndN K gAll (rAll K) := by
  intro U H xs ds z Q al r hz q
  obtain ⟨es, rfl⟩ := lst1 (g := gAll) rfl (fun _ _ _ => by simp [gAll]) (fun d h => by cases d <;> first | rfl | exact absurd rfl (h _)) hz
  obtain ⟨bs, hb, rfl⟩ := Option.map_eq_some_iff.mp hz
  obtain ⟨x, rfl, rx⟩ := r.one
  obtain ⟨a, vs, rfl, h, _, rs⟩ := rx.lst_sq
  exact ⟨a, bs, rfl, .of (by rw [h, blsD_v hb rs]), q _ H (Same.refl H) rfl⟩
theorem n_any : SndN K gAny (rAny K) := by
  intro U H xs ds z Q al r hz q
  obtain ⟨es, rfl⟩ := lst1 (g := gAny) rfl (fun _ _ _ => by simp [gAny]) (fun d h => by cases d <;> first | rfl | exact absurd rfl (h _)) hz
  obtain ⟨bs, hb, rfl⟩ := Option.map_eq_some_iff.mp hz
  obtain ⟨x, rfl, rx⟩ := r.one
  obtain ⟨a, vs, rfl, h, _, rs⟩ := rx.lst_sq
  exact ⟨a, bs, rfl, .of (by rw [h, blsD_v hb rs]), q _ H (Same.refl H) rfl⟩
/-! ### tuple, list -/
def gTuple : List D → Option D
  | [.lst ds] => some (.tup ds)
  | [.tup ds] => some (.tup ds)
  | _ => none
def rTupleM (K : PySem.W.Frag) : List V → Hp → VK → Prop := fun xs H Q => ∃ p ys, xs = [.ref p] ∧ ((SqL K H p ys ∧ NewT H ys Q) ∨ (SqT K H p ys ∧ Q (.ref p) H))
theorem n_tuple : SndN K gTuple (rTupleM K) := by
  intro U H xs ds z Q al r hz q
  match ds, hz, r with
  | [], hz, _ => cases hz
  | _ :: _ :: _, hz, _ => simp [gTuple] at hz
  | [d], hz, r =>
    obtain ⟨x, rfl, rx⟩ := r.one
    cases d with
    | lst ds =>
      cases hz
      obtain ⟨a, vs, rfl, h, _, rs⟩ := rx.lst_sq
      exact ⟨a, vs, rfl, .inl ⟨.of h, fun p o ho hp => q _ _ (same_new hp) (rep_tup_new al ho hp rs)⟩⟩
    | tup ds =>
      cases hz
      have rx' := rx
      obtain ⟨a, vs, rfl, h, _, rs⟩ := rx.tup_sq
      exact ⟨a, vs, rfl, .inr ⟨h.sq, q _ _ (Same.refl H) rx'⟩⟩
    | _ => simp [gTuple] at hz
def gList : List D → Option D
  | [.lst ds] => some (.lst ds)
  | [.tup ds] => some (.lst ds)
  | _ => none
theorem n_list : SndN K gList (fun xs H Q => ∃ p ys, xs = [.ref p] ∧ (SqL K H p ys ∨ SqT K H p ys) ∧ ∀ l, H l = none → Q (.ref l) (upd H l (.lst ys))) := by
  intro U H xs ds z Q al r hz q
  match ds, hz, r with
  | [], hz, _ => cases hz
  | _ :: _ :: _, hz, _ => simp [gList] at hz
  | [d], hz, r =>
    obtain ⟨x, rfl, rx⟩ := r.one
    cases d with
    | lst ds =>
      cases hz
      obtain ⟨a, vs, rfl, h, _, rs⟩ := rx.lst_sq
      exact ⟨a, vs, rfl, .inl (.of h), fun p hp => q _ _ (same_new hp) (rep_lst_new al hp rs)⟩
    | tup ds =>
      cases hz
      obtain ⟨a, vs, rfl, h, _, rs⟩ := rx.tup_sq
      exact ⟨a, vs, rfl, .inr (h.sq), fun p hp => q _ _ (same_new hp) (rep_lst_new al hp rs)⟩
    | _ => simp [gList] at hz
end
/-! ### isinstance -/
/-- the type of what is no object of an own class -/
def tyD : D → Option String
  | .non => some "NoneType"
  | .bl _ => some "bool"
  | .int _ => some "int"
  | .str _ => some "str"
  | .tup _ => some "tuple"
  | .lst _ => some "list"
  | .dct false _ _ => some "dict"
  | .dct true _ _ => none
  | .obj _ _ _ => none
  | .fz _ => none
  | .exn _ _ _ _ => none
theorem tyD_v {K : PySem.W.Frag} {U : Addr → Prop} {H : Hp} {d : D} {x : V} {t : String} (h : tyD d = some t) (r : Rep K U H d x) : TyX K H x (.type t) := by
  cases d with
  | non => cases h; rw [show x = _ from r]; exact .base .non
  | bl b => cases h; rw [show x = _ from r]; exact .base (.bl b)
  | int b => cases h; rw [show x = _ from r]; exact .base (.int b)
  | str b => cases h; rw [show x = _ from r]; exact .base (.str b)
  | tup ds =>
    cases h
    obtain ⟨a, vs, rfl, h, _, rs⟩ := r.tup_sq
    rcases h with ⟨_, h⟩ | ⟨_, o, h, _⟩
    · exact .base (.tup h)
    · exact .fTuple h
  | lst ds => cases h; obtain ⟨a, vs, rfl, h, _, rs⟩ := r.lst_sq; exact .base (.lst h)
  | dct t ks vs =>
    cases t with
    | true => cases h
    | false =>
      cases h
      obtain ⟨a, xs, rfl, _, h, rs⟩ := r
      obtain ⟨kvs, h1, _⟩ := h
      rcases h1 with h1 | ⟨o, h1⟩
      · exact .base (.dK h1)
      · exact .fDict h1
  | obj c ns vs => cases h
  | fz vs => cases h
  | exn p c ns vs => cases h
/-- isinstance(e, T), T a built-in type -/
def IsT (f : D → Option Bool) (T : String) : Prop := ∀ d b, f d = some b → ∃ t, tyD d = some t ∧ kitB t T = some b
def isStrD : D → Option Bool
  | .str _ => some true
  | .obj _ _ _ => none
  | .fz _ => none
  | .exn _ _ _ _ => none
  | .dct true _ _ => none
  | _ => some false
def isIntD : D → Option Bool
  | .int _ => some true
  | .bl _ => some true
  | .obj _ _ _ => none
  | .fz _ => none
  | .exn _ _ _ _ => none
  | .dct true _ _ => none
  | _ => some false
def isBoolD : D → Option Bool
  | .bl _ => some true
  | .obj _ _ _ => none
  | .fz _ => none
  | .exn _ _ _ _ => none
  | .dct true _ _ => none
  | _ => some false
def isTupD : D → Option Bool
  | .tup _ => some true
  | .obj _ _ _ => none
  | .fz _ => none
  | .exn _ _ _ _ => none
  | .dct true _ _ => none
  | _ => some false
theorem is_str : IsT isStrD "str" := fun d b h => by
  cases d with
  | dct t ks vs => cases t <;> cases h <;> exact ⟨_, rfl, by decide +kernel⟩
  | _ => cases h <;> exact ⟨_, rfl, by decide +kernel⟩
theorem is_tup : IsT isTupD "tuple" := fun d b h => by
  cases d with
  | dct t ks vs => cases t <;> cases h <;> exact ⟨_, rfl, by decide +kernel⟩
  | _ => cases h <;> exact ⟨_, rfl, by decide +kernel⟩
def xIsi (f : D → Option Bool) (m : En → Rs D) : En → Rs D := fun env => (m env).bind fun d e => .of ((f d).map .bl) e
section
variable {X : Cx} {W : WX} {a c : Expr} {m : En → Rs D} {f : D → Option Bool} {T : String} {p pos : Pos}
theorem ev_isi (hf : IsT f T) (ha : Ev X W a m) (hc : PE X c (tC (.ty T))) (hg : Gl X "isinstance") (hm : X.mg "isinstance" = none) (hs1 : starEach [a, c] X.env = (false, eval a X.env) :: starEach [c] X.env := by rfl) (hs2 : starEach [c] X.env = (false, eval c X.env) :: starEach [] X.env := by rfl)
    (hpl : (backTo pos (starEach [c] X.env)).any (·.1) = false := by rfl) : Ev X W (.Call (.Name "isinstance" p) [a, c] [] pos) (xIsi f m) :=
  PE_imp (pe_callB call_isi hg hm (by decide +kernel) (pa_cons ha (pa_cons hc pa_nil hs2) hs1) (he := hs1) (hpl := hpl)) fun σ H Q ⟨U, env, sa, po⟩ => ⟨U, env, sa, Po.step po fun v H1 d e1 a r po1 => by
    obtain ⟨z, hz, q⟩ := Po.of_some a.sa po1
    obtain ⟨b, hb, rfl⟩ := Option.map_eq_some_iff.mp hz
    obtain ⟨t, ht, hk⟩ := hf d b hb
    exact ⟨v, .ty T, .type t, .type T, b, rfl, .ty T, tyD_v ht r, kit_ty hk, q _ H1 (Same.refl H1) rfl⟩⟩
end
end Mi

set_option Elab.async false
set_option linter.all false
set_option maxRecDepth 100000
set_option maxHeartbeats 4000000
/-! Mi16: zip and enumerate over lists, tuples and texts -/
namespace Mi
open PySem PySem.Spec L2
variable [Tb]
def Sc.has (K : PySem.W.Frag) (H : Hp) (xs : List V) : Sc → Prop
  | .lst a => SqL K H a xs
  | .tup a => SqT K H a xs
  | .txt x _ => xs = x.cps.toList.map fun c => V.str ⟨#[c]⟩
section
variable {X : Cx} {pins : List (Addr × Obj)} {σ : St} {H : Hp} {s : Shared} {c : Sc} {it : Addr} {xs : List V}
theorem sc_draws (I : Inv X pins σ H s) (A : Around) (hh : A.handled = none) (h : c.has X.K H xs) (hne : ∀ b, c.ad b → b ≠ it) : ∃ fp n Pv St, ScD X.prog X.w A c it xs fp n Pv St s.heap := by
  cases c with
  | lst a =>
    obtain ⟨its, rv, p, hz⟩ := I.list h
    refine ⟨_, _, _, _, Draws.list hh it a (hne a rfl) its.toArray, ?_, fun i v h => ?_, fun i h => ⟨h, p.isList⟩, fun i h' st => st.1, by simp, fun b hb => by simpa [Sc.ad] using hb⟩
    · rw [List.size_toArray, rv.length]
    · have h : its[i]? = some v := by simpa using h
      have hl : i < xs.length := by rw [rv.length]; exact (List.getElem?_eq_some_iff.mp h).1
      obtain ⟨u, e, r⟩ := rv.get (List.getElem?_eq_getElem hl)
      rw [h] at e
      cases e
      exact ⟨_, List.getElem?_eq_getElem hl, r⟩
  | tup a =>
    obtain ⟨its, rv, p, hz⟩ := I.tuple h
    refine ⟨_, _, _, _, Draws.tuple hh it a (hne a rfl) its.toArray, ?_, fun i v h => ?_, fun i h => ⟨h, p⟩, fun i h' st => st.1, by simp, fun b hb => by simpa [Sc.ad] using hb⟩
    · rw [List.size_toArray, rv.length]
    · have h : its[i]? = some v := by simpa using h
      have hl : i < xs.length := by rw [rv.length]; exact (List.getElem?_eq_some_iff.mp h).1
      obtain ⟨u, e, r⟩ := rv.get (List.getElem?_eq_getElem hl)
      rw [h] at e
      cases e
      exact ⟨_, List.getElem?_eq_getElem hl, r⟩
  | txt x t =>
    have h : xs = x.cps.toList.map fun c => V.str ⟨#[c]⟩ := h
    subst h
    refine ⟨_, _, _, _, Draws.text hh it x t, by simp, fun i v ⟨c, u, hc, e⟩ => ⟨.str ⟨#[c]⟩, ?_, by rw [e]; exact ⟨u, rfl⟩⟩, fun i h => h, fun i h' st => st, by simp, fun b hb => .inl (by simpa using hb)⟩
    rw [List.getElem?_map, Array.getElem?_toList, hc]
    rfl
theorem sc_inj (I : Inv X pins σ H s) {ys : List V} (h : c.has X.K H xs) (h' : c.has X.K H ys) : xs = ys := by
  cases c with
  | lst a => exact I.list_inj h h'
  | tup a => exact I.tuple_inj h h'
  | txt x t => exact (show xs = _ from h).trans (show ys = _ from h').symm
theorem sc_begins (I : Inv X pins σ H s) (h : c.has X.K H xs) : ∃ Hb : Heap → Prop, Begins c.val c.obj Hb ∧ Hb s.heap ∧ ∀ h' it, h'.get? it = some c.obj → c.tn it 0 h' := by
  cases c with
  | lst a =>
    obtain ⟨its, rv, p, hz⟩ := I.list h
    exact ⟨_, begins_list a its.toArray, p.isList, fun h' it e => ⟨_, e, rfl, rfl⟩⟩
  | tup a =>
    obtain ⟨its, rv, p, hz⟩ := I.tuple h
    exact ⟨_, begins_tuple a its.toArray, p, fun h' it e => ⟨_, e, rfl, rfl⟩⟩
  | txt x t => exact ⟨_, begins_text x t, trivial, fun h' it e => ⟨_, e, rfl, rfl⟩⟩
theorem sc_old (I : Inv X pins σ H s) (h : c.has X.K H xs) {b : Addr} (hb : c.ad b) : b < s.heap.objs.size := by
  cases c with
  | lst a => obtain ⟨its, rv, p, hz⟩ := I.list h; rw [show b = a from hb]; exact p.lt
  | tup a => obtain ⟨its, rv, p, hz⟩ := I.tuple h; rw [show b = a from hb]; obtain ⟨o, e, _⟩ := p; exact Heap.lt_size e
  | txt x t => exact (show False from hb).elim
theorem tn_obj {c : Sc} {it : Addr} {i : Nat} {h : Heap} (t : c.tn it i h) : ∃ o vs, h.get? it = some o ∧ o.data = .fields vs ∧ ∀ h', h'.get? it = some o → c.tn it i h' := by
  cases c with
  | lst a => obtain ⟨o, e, c, d⟩ := t; exact ⟨o, _, e, d, fun h' e' => ⟨o, e', c, d⟩⟩
  | tup a => obtain ⟨o, e, c, d⟩ := t; exact ⟨o, _, e, d, fun h' e' => ⟨o, e', c, d⟩⟩
  | txt x t => obtain ⟨o, e, c, d⟩ := t; exact ⟨o, _, e, d, fun h' e' => ⟨o, e', c, d⟩⟩
end
/-! ### zip -/
def ItZ (K : PySem.W.Frag) (c d : Sc) : It :=
  ⟨fun i H => ∃ (xs ys : List V), c.has K H xs ∧ d.has K H ys ∧ i < xs.length ∧ i < ys.length,
    fun i H v H' => ∃ T x y o, v = .ref T ∧ H T = none ∧ o.dict = none ∧ H' = upd H T (labT o [x, y]) ∧ (∀ xs, c.has K H xs → xs[i]? = some x) ∧ ∀ ys, d.has K H ys → ys[i]? = some y,
    fun i H => ∃ xs ys : List V, c.has K H xs ∧ d.has K H ys ∧ i ≤ xs.length ∧ i ≤ ys.length ∧ (i = xs.length ∨ i = ys.length)⟩
theorem turn_zipM {P : Program} {w : World} {K : PySem.W.Frag} {elts : List Expr} {kk : Nat} {tpos : Pos} {c d : Sc} {z TI TO i1 i2 : Addr} (D : ZAp z TI TO i1 i2 c d) :
    Turn P w K (.Tuple elts kk tpos) (ItZ K c d) [z, TI, TO, i1, i2] z (fun i h => IsZip h z TI TO .none ∧ IsTupOf2 h TI (.ref i1) (.ref i2) ∧ (∃ x y, IsTupOf2 h TO x y) ∧ c.tn i1 i h ∧ d.tn i2 i h) where
  mem := by simp
  obj := fun i h st b hb => by
    obtain ⟨hz, hTI, ⟨x, y, hTO⟩, h1, h2⟩ := st
    obtain ⟨o1, v1, e1, d1, _⟩ := tn_obj h1
    obtain ⟨o2, v2, e2, d2, _⟩ := tn_obj h2
    have e' : b = z ∨ b = TI ∨ b = TO ∨ b = i1 ∨ b = i2 := by simpa using hb
    rcases e' with q | q | q | q | q
    · rw [q]; exact ⟨_, hz, fun v q => nomatch q⟩
    · rw [q]; exact ⟨_, hTI, fun v q => nomatch q⟩
    · rw [q]; exact ⟨_, hTO, fun v q => nomatch q⟩
    · rw [q]; exact ⟨o1, e1, fun v q => by rw [d1] at q; cases q⟩
    · rw [q]; exact ⟨o2, e2, fun v q => by rw [d2] at q; cases q⟩
  keep := fun i h h' st k => by
    obtain ⟨hz, hTI, ⟨x, y, hTO⟩, h1, h2⟩ := st
    obtain ⟨o1, v1, e1, d1, k1⟩ := tn_obj h1
    obtain ⟨o2, v2, e2, d2, k2⟩ := tn_obj h2
    exact ⟨k z (by simp) _ hz, k TI (by simp) _ hTI, ⟨x, y, k TO (by simp) _ hTO⟩, k1 _ (k i1 (by simp) _ e1), k2 _ (k i2 (by simp) _ e2)⟩
  item := by
    intro X hP hw hK hc i pins s σ H E I hf st hg
    subst hP hw hK
    obtain ⟨hz, hTI, ⟨x0, y0, hTO⟩, h1, h2⟩ := st
    obtain ⟨xs, ys, hx, hy, lx, ly⟩ := hg
    have hd := I.ok.hd hc
    obtain ⟨fp1, n1, P1, St1, D1⟩ := sc_draws (it := i1) I X.A.in1 hd hx fun b hb e => D.ap b (.inl hb) (by simp [e])
    obtain ⟨fp2, n2, P2, St2, D2⟩ := sc_draws (it := i2) I X.A.in1 hd hy fun b hb e => D.ap b (.inr hb) (by simp [e])
    have S := D.sep D1.mem D2.mem D1.few D2.few
    have hzl : z < s.heap.objs.size := Heap.lt_size hz
    have nd := D.nd
    simp only [List.nodup_cons, List.mem_cons, List.mem_nil_iff, or_false, not_or] at nd
    obtain ⟨⟨a1, a2, a3, a4⟩, ⟨b1, b2, b3⟩, ⟨c1, c2⟩, d1, _⟩ := nd
    refine wpAny_pyNext_zipD2_item S D1.dr D2.dr hz hTI hTO (D1.into i h1) (D2.into i h2) (by rw [D1.hn]; exact lx) (by rw [D2.hn]; exact ly) fun u u2 h' tk p1 p2 z' TO' s1 s2 hT hsz hk => ?_
    obtain ⟨x, ex, rx⟩ := D1.hv i u p1
    obtain ⟨y, ey, ry⟩ := D2.hv i u2 p2
    refine ⟨_, rfl, wpAny_letOwnedTupleGo_zip (s := { s with heap := h', toks := tk }) z' fun h'' z'' sb => ?_⟩
    have hT2 : h''.get? s.heap.objs.size = some { cls := .type "tuple", data := .seq #[u, u2] } := (sb.2 _ (Nat.ne_of_gt hzl)).trans hT
    have new0 : ∀ H', ObjOk X.prog X.w H' h'' s.heap.objs.size (.tup [x, y]) := fun H' =>
      ⟨by show 2 ≤ sizeLine; decide, [u, u2], .cons rx (.cons ry .nil), ⟨_, hT2, rfl, _, rfl⟩⟩
    have new : ObjOk X.prog X.w (upd H s.heap.objs.size (labT { cls := .type "tuple", data := .seq #[u, u2] } [x, y])) h'' s.heap.objs.size (labT { cls := .type "tuple", data := .seq #[u, u2] } [x, y]) := by
      unfold labT
      split
      · exact ⟨hT2, new0 _⟩
      · exact new0 _
    have I1 : Inv X pins σ (upd H s.heap.objs.size (labT { cls := .type "tuple", data := .seq #[u, u2] } [x, y])) { s with heap := h'', toks := tk } :=
      I.turnedNew (t' := tk) (ch := [z, TI, TO, i1, i2]) (fun c o hb q => (sb.2 c (fun q' => hb (by simp [q']))).trans (hk c o (fun q' => hb (by simp [q'])) (fun q' => hb (by simp [q'])) (fun q' => hb (by simp [q'])) (fun q' => hb (by simp [q'])) q)) hf (Nat.le_refl _) new
    obtain ⟨_, _, e1, _, k1⟩ := tn_obj (D1.out _ _ s1)
    obtain ⟨_, _, e2, _, k2⟩ := tn_obj (D2.out _ _ s2)
    refine ⟨.ref s.heap.objs.size, _, I1, rfl, ⟨_, x, y, _, rfl, I.hok.fresh (Nat.le_refl _), rfl, rfl, fun l hl => by rw [sc_inj I hl hx]; exact ex, fun l hl => by rw [sc_inj I hl hy]; exact ey⟩, ⟨z'', ?_, ⟨u, u2, ?_⟩, ?_, ?_⟩, fun c hcm => ?_⟩
    · exact (sb.2 _ (Ne.symm a1)).trans (hk _ _ (Ne.symm a1) b1 b2 b3 hTI)
    · exact (sb.2 _ (Ne.symm a2)).trans TO'
    · exact k1 _ ((sb.2 _ (Ne.symm a3)).trans e1)
    · exact k2 _ ((sb.2 _ (Ne.symm a4)).trans e2)
    · have hlt : c < s.heap.objs.size := by
        obtain ⟨_, _, e1, _, _⟩ := tn_obj h1
        obtain ⟨_, _, e2, _, _⟩ := tn_obj h2
        have e' : c = z ∨ c = TI ∨ c = TO ∨ c = i1 ∨ c = i2 := by simpa using hcm
        rcases e' with q | q | q | q | q
        · rw [q]; exact hzl
        · rw [q]; exact Heap.lt_size hTI
        · rw [q]; exact Heap.lt_size hTO
        · rw [q]; exact Heap.lt_size e1
        · rw [q]; exact Heap.lt_size e2
      rw [upd_ne (Nat.ne_of_lt hlt)]
      exact (hf c hcm).1
  done := by
    intro X hP hw hK hc i pins s σ H E I hf st hg
    subst hP hw hK
    obtain ⟨hz, hTI, ⟨x0, y0, hTO⟩, h1, h2⟩ := st
    obtain ⟨xs, ys, hx, hy, lx, ly, hend⟩ := hg
    have hd := I.ok.hd hc
    obtain ⟨fp1, n1, P1, St1, D1⟩ := sc_draws (it := i1) I X.A.in1 hd hx fun b hb e => D.ap b (.inl hb) (by simp [e])
    obtain ⟨fp2, n2, P2, St2, D2⟩ := sc_draws (it := i2) I X.A.in1 hd hy fun b hb e => D.ap b (.inr hb) (by simp [e])
    have S := D.sep D1.mem D2.mem D1.few D2.few
    refine wpAny_pyNext_zipD2_end S D1.dr D2.dr hz hTI hTO (D1.into i h1) (D2.into i h2) (by rw [D1.hn]; exact lx) (by rw [D2.hn]; exact ly) (by rw [D1.hn, D2.hn]; exact hend) fun h' tk hk => ⟨rfl, I.turnedL (t' := tk) (ch := [z, TI, TO, i1, i2]) (fun c o hb q =>
      hk c o (fun q' => hb (by simp [q'])) (fun q' => hb (by simp [q'])) (fun q' => hb (by simp [q'])) (fun q' => hb (by simp [q'])) q) hf⟩
  self := fun A i s Q E st h => wpAny_pyIter_zip st.1 h
end Mi

set_option Elab.async false
set_option linter.all false
set_option maxRecDepth 100000
set_option maxHeartbeats 4000000
/-! Mi17: enumerate; the rules of both -/
namespace Mi
open PySem PySem.Spec L2
variable [Tb]
def ItE (K : PySem.W.Frag) (c : Sc) : It :=
  ⟨fun i H => ∃ (xs : List V), c.has K H xs ∧ i < xs.length, fun i H v H' => ∃ T x, v = .ref T ∧ H T = none ∧ H' = upd H T (.tup [.int (i : Nat), x]) ∧ ∀ xs, c.has K H xs → xs[i]? = some x, fun i H => ∃ xs : List V, c.has K H xs ∧ i = xs.length⟩
theorem turn_enumM {P : Program} {w : World} {K : PySem.W.Frag} {elts : List Expr} {kk : Nat} {tpos : Pos} {c : Sc} (e it : Addr) (hne : e ≠ it) (hap : ∀ b, c.ad b → b ≠ e ∧ b ≠ it) :
    Turn P w K (.Tuple elts kk tpos) (ItE K c) [e, it] e (fun i h => (∃ old, IsEnum h e it ((i : Nat) : Int) old) ∧ c.tn it i h) where
  mem := by simp
  obj := fun i h st b hb => by
    obtain ⟨⟨old, he⟩, h1⟩ := st
    obtain ⟨o1, v1, e1, d1, _⟩ := tn_obj h1
    have e' : b = e ∨ b = it := by simpa using hb
    rcases e' with z | z
    · rw [z]; exact ⟨_, he, fun v q => nomatch q⟩
    · rw [z]; exact ⟨o1, e1, fun v q => by rw [d1] at q; cases q⟩
  keep := fun i h h' st k => by
    obtain ⟨⟨old, he⟩, h1⟩ := st
    obtain ⟨o1, v1, e1, d1, k1⟩ := tn_obj h1
    exact ⟨⟨old, k e (by simp) _ he⟩, k1 _ (k it (by simp) _ e1)⟩
  item := by
    intro X hP hw hK hc i pins s σ H E I hf st hg
    subst hP hw hK
    obtain ⟨⟨old, he⟩, hit⟩ := st
    obtain ⟨xs, hx, lx⟩ := hg
    have hd := I.ok.hd hc
    obtain ⟨fp1, n1, P1, St1, D1⟩ := sc_draws (it := it) I X.A.in1 hd hx fun b hb => (hap b hb).2
    have hel : e < s.heap.objs.size := Heap.lt_size he
    have hef : e ∉ fp1 := fun m => (D1.few e m).elim hne fun a => (hap e a).1 rfl
    refine wpAny_pyNext_enum_itemC D1.dr he (D1.into i hit) (by rw [D1.hn]; exact lx) hne hef fun u h' tk p1 ho s1 hT hsz hk => ?_
    obtain ⟨x, ex, rx⟩ := D1.hv i u p1
    refine ⟨_, rfl, wpAny_letOwnedTupleGo_enum (s := { s with heap := h', toks := tk + 1 }) ho fun h'' he' sb => ?_⟩
    have hT2 : h''.get? s.heap.objs.size = some { cls := .type "tuple", data := .seq #[.int i tk, u] } := (sb.2 _ (Nat.ne_of_gt hel)).trans hT
    have new : ObjOk X.prog X.w (upd H s.heap.objs.size (.tup [.int (i : Nat), x])) h'' s.heap.objs.size (.tup [.int (i : Nat), x]) :=
      ⟨by show 2 ≤ sizeLine; decide, [.int i tk, u], .cons ⟨_, rfl⟩ (.cons rx .nil), ⟨_, hT2, rfl, _, rfl⟩⟩
    have I1 : Inv X pins σ (upd H s.heap.objs.size (.tup [.int (i : Nat), x])) { s with heap := h'', toks := tk + 1 } :=
      I.turnedNew (ch := [e, it]) (fun b ob hb q => (sb.2 b (fun z => hb (by simp [z]))).trans (hk b ob (fun z => hb (by simp [z])) (fun z => hb (by simp [z])) q)) hf (Nat.le_refl _) new
    obtain ⟨_, _, e1, _, k1⟩ := tn_obj (D1.out _ _ s1)
    refine ⟨.ref s.heap.objs.size, _, I1, rfl, ⟨_, x, rfl, I.hok.fresh (Nat.le_refl _), rfl, fun ys hy => by rw [sc_inj I hy hx]; exact ex⟩, ⟨⟨u, ?_⟩, k1 _ ((sb.2 it (Ne.symm hne)).trans e1)⟩, fun b hb => ?_⟩
    · have e1 : ((i + 1 : Nat) : Int) = (i : Int) + 1 := by omega
      rw [e1]; exact he'
    · have hb' : b < s.heap.objs.size := by
        obtain ⟨_, _, e2, _, _⟩ := tn_obj hit
        have e' : b = e ∨ b = it := by simpa using hb
        rcases e' with z | z
        · rw [z]; exact hel
        · rw [z]; exact Heap.lt_size e2
      rw [upd_ne (Nat.ne_of_lt hb')]
      exact (hf b hb).1
  done := by
    intro X hP hw hK hc i pins s σ H E I hf st hg
    subst hP hw hK
    obtain ⟨⟨old, he⟩, hit⟩ := st
    obtain ⟨xs, hx, lx⟩ := hg
    have hd := I.ok.hd hc
    obtain ⟨fp1, n1, P1, St1, D1⟩ := sc_draws (it := it) I X.A.in1 hd hx fun b hb => (hap b hb).2
    have en : i = n1 := by rw [D1.hn]; exact lx
    subst en
    exact wpAny_pyNext_enum_endD D1.dr he (D1.into i hit) fun h' hk => ⟨rfl, I.turnedL (t' := s.toks) (ch := [e, it]) (fun c o hb q => hk c o (fun q1 => hb (by simp [q1])) q) hf⟩
  self := fun A i s Q E st h => let ⟨⟨_, he⟩, _⟩ := st; wpAny_pyIter_enum he h
theorem meets_enum1 {v : Value} {o : Obj} {H : Heap → Prop} (B : Begins v o H) :
    Meets (Builtin.«enumerate.__new__» ⟨[.type "enumerate", v], []⟩) (fun _ R s => H s.heap ∧
      R (.ok (.ret (.ref (s.heap.push o).objs.size))) { s with heap := (s.heap.push o).push { cls := .type "enumerate", data := .fields #[.none, .bool false, .ref s.heap.objs.size, rawInt 0, .none, .none] } }) :=
  .of_wp fun prog w A R s h => by
    obtain ⟨hp, g, d, tk, os⟩ := s; obtain ⟨h1, h⟩ := h
    have hsub := sub_enumerate
    have q1 : ∀ {A' : Around} {E : Value → Shared → Prop} {Q : Value → Shared → Prop}, Q (.ref hp.objs.size) ⟨hp.push o, g, d, tk, os⟩ → wpAny (model prog w) A' (pyIter v) Q E ⟨hp, g, d, tk, os⟩ :=
      fun q => B.iter prog w _ _ ⟨hp, g, d, tk, os⟩ _ h1 q
    wp_walk using q1
    refine wpAny_stack_any fun st => wpAny_pure ?_
    split
    · rename_i c _ _ _ _ _
      cases (c == Value.type "enumerate")
      · wp_walk using q1
        exact ⟨_, rfl, h⟩
      · wp_walk using q1
        exact ⟨_, rfl, h⟩
    · wp_walk using q1
      exact ⟨_, rfl, h⟩
theorem enum1_begins {prog : Program} {w : World} {A : Around} {E : Value → Shared → Prop} {s : Shared} {v : Value} {o : Obj} {H : Heap → Prop} {Q : Value → Shared → Prop} (B : Begins v o H) (h1 : H s.heap)
    (h : ∀ h', IsEnum h' (s.heap.objs.size + 1) s.heap.objs.size 0 .none → h'.get? s.heap.objs.size = some o → (∀ b o, s.heap.get? b = some o → h'.get? b = some o) → Q (.ref (s.heap.objs.size + 1)) { s with heap := h' }) :
    wpAny (model prog w) A (call (.type "enumerate") [v]) Q E s := by
  refine callType_new F.called_enumerate (by decide) (F.typeCall_enumerate_1 _) (F.newCall_enumerate_1 _) (fun obj => F.args_object_init_2 obj _) F.entry_enumerate_new (meets_enum1 B) ⟨h1, ?_⟩
  have hz : (s.heap.push o).objs.size = s.heap.objs.size + 1 := Heap.size_push ..
  show _ ∧ _
  rw [hz]
  have he : IsEnum ((s.heap.push o).push { cls := .type "enumerate", data := .fields #[.none, .bool false, .ref s.heap.objs.size, rawInt 0, .none, .none] }) (s.heap.objs.size + 1) s.heap.objs.size 0 .none := by
    have := Heap.get?_push_size (s.heap.push o) (o := { cls := .type "enumerate", data := .fields #[.none, .bool false, .ref s.heap.objs.size, rawInt 0, .none, .none] }) rfl
    rw [hz] at this; exact this
  exact ⟨⟨_, he, rfl⟩, h _ he (Heap.get?_push_of_some _ (Heap.get?_push_size _ B.free)) fun b o x => Heap.get?_push_of_some _ (Heap.get?_push_of_some _ x)⟩
theorem sc_is {x : V} {u : Value} {c : Sc} (h : c.is x) (r : RelV x u) : ∃ c' : Sc, c'.val = u ∧ (∀ K H xs, c'.has K H xs = c.has K H xs) := by
  cases c with
  | lst a => rw [show x = _ from h] at r; cases r; exact ⟨.lst a, rfl, fun _ _ _ => rfl⟩
  | tup a => rw [show x = _ from h] at r; cases r; exact ⟨.tup a, rfl, fun _ _ _ => rfl⟩
  | txt z t => rw [show x = _ from h] at r; obtain ⟨t', rfl⟩ := r; exact ⟨.txt z t', rfl, fun _ _ _ => rfl⟩
theorem ItE_has {K : PySem.W.Frag} {c c' : Sc} (h : ∀ K H xs, c'.has K H xs = c.has K H xs) : ItE K c' = ItE K c := by unfold ItE; simp only [h]
theorem ItZ_has {K : PySem.W.Frag} {c c' d d' : Sc} (h : ∀ K H xs, c'.has K H xs = c.has K H xs) (h2 : ∀ K H xs, d'.has K H xs = d.has K H xs) : ItZ K c' d' = ItZ K c d := by unfold ItZ; simp only [h, h2]
def iEnumM (K : PySem.W.Frag) (ta : TA) : TI := fun σ H R => ta σ H fun vs H1 => ∃ x c xs, vs = [x] ∧ c.is x ∧ Sc.has K H1 xs c ∧ R (ItE K c) H1
def iZipM (K : PySem.W.Frag) (ta : TA) : TI := fun σ H R => ta σ H fun vs H1 => ∃ x y c d xs ys, vs = [x, y] ∧ Sc.is x c ∧ Sc.is y d ∧ Sc.has K H1 xs c ∧ Sc.has K H1 ys d ∧ R (ItZ K c d) H1
section
variable {X : Cx} {W : WX} {e e2 : Expr} {ta : TA} {p pos tpos : Pos} {elts : List Expr} {kk : Nat}
theorem pi_enumM (hg : Gl X "enumerate") (hm : X.mg "enumerate" = none) (ha : PA X [e] ta) (hs : starEach [e] X.env = [(false, eval e X.env)]) : PI X (.Tuple elts kk tpos) (.Call (.Name "enumerate" p) [e] [] pos) (iEnumM X.K ta) := by
  refine ⟨fun pins s σ H R I h => ?_⟩
  refine PyProof.Rows.Call_ (ld_blt I hg hm PyProof.Rows.boot_enumerate (PyProof.Rows.callWith_type1 (thn (ha.run pos pins s σ H _ I h) fun us s1 ⟨vs, H1, I1, r1, q1⟩ => ?_) hs rfl))
  obtain ⟨x, c, xs, ex, hi, hx, q⟩ := q1
  subst ex
  obtain ⟨u, rfl, rx⟩ := Vals.one r1
  obtain ⟨c', rfl, hh⟩ := sc_is hi rx
  rw [← ItE_has hh] at q
  rw [← hh] at hx
  obtain ⟨Hb, B, hb, ht⟩ := sc_begins I1 hx
  refine enum1_begins B hb fun h' he hit hk => wpAny_pyIter_enum he ?_
  have I2 : Inv X pins σ H1 { s1 with heap := h' } := I1.kept (t' := s1.toks) hk
  refine ⟨s1.heap.objs.size + 1, [s1.heap.objs.size + 1, s1.heap.objs.size], _, _, H1, rfl, I2, turn_enumM (c := c') (s1.heap.objs.size + 1) s1.heap.objs.size (Nat.succ_ne_self _) (fun b hb => ?_), ⟨⟨.none, he⟩, ht _ _ hit⟩, fun b hb => ?_, q⟩
  · have := sc_old I1 hx hb
    exact ⟨fun e => absurd this (by rw [e]; exact Nat.not_lt.mpr (Nat.le_add_right _ _)), fun e => absurd this (by rw [e]; exact Nat.lt_irrefl _)⟩
  · have e' : b = s1.heap.objs.size + 1 ∨ b = s1.heap.objs.size := by simpa using hb
    have hle : s1.heap.objs.size ≤ b := by
      rcases e' with z | z
      · rw [z]; exact Nat.le_add_right _ _
      · rw [z]; exact Nat.le_refl _
    exact I1.fpOk hle (I1.hok.fresh hle)
theorem pi_zipM (hg : Gl X "zip") (hm : X.mg "zip" = none) (ha : PA X [e, e2] ta) (hs : starEach [e, e2] X.env = (false, eval e X.env) :: starEach [e2] X.env) (hpl : (backTo pos (starEach [e2] X.env)).any (·.1) = false) :
    PI X (.Tuple elts kk tpos) (.Call (.Name "zip" p) [e, e2] [] pos) (iZipM X.K ta) := by
  refine ⟨fun pins s σ H R I h => ?_⟩
  refine PyProof.Rows.Call_ (ld_blt I hg hm PyProof.Rows.boot_zip (PyProof.Rows.callWith_type1 (thn (ha.run pos pins s σ H _ I h) fun us s1 ⟨vs, H1, I1, r1, q1⟩ => ?_) hs hpl))
  obtain ⟨x, y, c, d, xs, ys, ex, hi, hj, hx, hy, q⟩ := q1
  subst ex
  obtain ⟨u1, u2, rfl, rx, ry⟩ := vals2 r1
  obtain ⟨c', rfl, hh⟩ := sc_is hi rx
  obtain ⟨d', rfl, hh2⟩ := sc_is hj ry
  rw [← ItZ_has hh hh2] at q
  rw [← hh] at hx
  rw [← hh2] at hy
  obtain ⟨Hb, B, hb, ht⟩ := sc_begins I1 hx
  obtain ⟨Hb2, B2, hb2, ht2⟩ := sc_begins I1 hy
  refine zip_begins2 B B2 hb hb2 fun h' hz hTI hTO h1 h2 hsz hk => wpAny_pyIter_zip hz ?_
  have I2 : Inv X pins σ H1 { s1 with heap := h' } := I1.kept (t' := s1.toks) hk
  have ap : ZAp (s1.heap.objs.size + 4) (s1.heap.objs.size + 2) (s1.heap.objs.size + 3) s1.heap.objs.size (s1.heap.objs.size + 1) c' d' := by
    refine ⟨?_, fun b hb hm => ?_⟩
    · simp only [List.nodup_cons, List.mem_cons, List.mem_nil_iff, or_false, not_or]
      refine ⟨⟨?_, ?_, ?_, ?_⟩, ⟨?_, ?_, ?_⟩, ⟨?_, ?_⟩, ?_, ?_⟩ <;> first | omega | simp
    · have hl : b < s1.heap.objs.size := hb.elim (sc_old I1 hx) (sc_old I1 hy)
      simp only [List.mem_cons, List.mem_nil_iff, or_false] at hm
      have hle : s1.heap.objs.size ≤ b := by
        rcases hm with q | q | q | q | q <;> rw [q] <;> first | exact Nat.le_add_right _ _ | exact Nat.le_refl _
      exact absurd hl (Nat.not_lt.mpr hle)
  refine ⟨s1.heap.objs.size + 4, [s1.heap.objs.size + 4, s1.heap.objs.size + 2, s1.heap.objs.size + 3, s1.heap.objs.size, s1.heap.objs.size + 1], _, _, H1, rfl, I2, turn_zipM ap, ⟨hz, hTI, ⟨_, _, hTO⟩, ht _ _ h1, ht2 _ _ h2⟩, fun c hcm => ?_, q⟩
  have hle : s1.heap.objs.size ≤ c := by
    simp only [List.mem_cons, List.mem_nil_iff, or_false] at hcm
    rcases hcm with q | q | q | q | q <;> rw [q] <;> first | exact Nat.le_add_right _ _ | exact Nat.le_refl _
  exact I1.fpOk hle (I1.hok.fresh hle)
end
/-! ### their mirrors -/
def enumD (l : List D) : List D := l.zipIdx.map fun p => .tup [.int (p.2 : Nat), p.1]
def xEnum (ma : En → Rs (List D)) : En → Rs (List D) := fun env => (ma env).bind fun ds e => match ds with
  | [d] => .of ((iterD d).map enumD) e
  | _ => .bad
def xZip (ma : En → Rs (List D)) : En → Rs (List D) := fun env => (ma env).bind fun ds e => match ds with
  | [c, d] => .of ((iterD c).bind fun a => (iterD d).map fun b => zipD a b) e
  | _ => .bad
section
variable {K : PySem.W.Frag} {U : Addr → Prop} {H : Hp}
theorem reps_chars : ∀ l : List Nat, Reps K U H (l.map fun c => D.str ⟨#[c]⟩) (l.map fun c => V.str ⟨#[c]⟩)
  | [] => rfl
  | c :: l => ⟨_, _, rfl, rfl, reps_chars l⟩
theorem src_of {d : D} {x : V} {l : List D} (r : Rep K U H d x) (h : iterD d = some l) : ∃ c xs, Sc.is x c ∧ Sc.has K H xs c ∧ Reps K U H l xs ∧ ∀ H', (∀ a o, ¬ U a → HN H a o → HN H' a o) → Sc.has K H' xs c := by
  cases d with
  | lst ds =>
    cases h
    obtain ⟨a, vs, rfl, h, n, rs⟩ := r.lst_sq
    exact ⟨.lst a, vs, rfl, .of h, rs, fun H' k => .of (k a _ n ⟨h, nt_lst⟩).1⟩
  | tup ds =>
    cases h
    obtain ⟨a, vs, rfl, h, n, rs⟩ := r.tup_sq
    exact ⟨.tup a, vs, rfl, h.sq, rs, fun H' k => (h.to fun o q => k a o n q).sq⟩
  | str z =>
    cases h
    exact ⟨.txt z 0, _, r, rfl, reps_chars _, fun H' k => rfl⟩
  | _ => simp [iterD] at h
theorem itok_enum {c : Sc} {l : List D} {xs : List V} (h : Sc.has K H xs c) (rs : Reps K U H l xs) (k : ∀ H', (∀ a o, ¬ U a → HN H a o → HN H' a o) → Sc.has K H' xs c) : ItOk K U H (enumD l) (ItE K c) where
  stop := fun i H2 hi kp e => ⟨xs, k H2 kp, by rw [e, rs.len]; simp [enumD]⟩
  go := fun i H2 hi kp => ⟨xs, k H2 kp, by rw [rs.len]; simpa [enumD] using hi⟩
  yld := fun i d H2 H3 x U' hd kp ku al ⟨T, y, e1, e2, e3, e4⟩ => by
    subst e1 e3
    have hd : ∃ b, l[i]? = some b ∧ d = .tup [.int (i : Nat), b] := by
      simp only [enumD, List.getElem?_map, List.getElem?_zipIdx, Option.map_map, Option.map_eq_some_iff] at hd
      obtain ⟨b, hb, rfl⟩ := hd
      exact ⟨b, hb, by simp⟩
    obtain ⟨b, hb, rfl⟩ := hd
    have ry := Rep.to kp ku b y (rs.at2 hb (e4 xs (k H2 kp)))
    exact ⟨same_new e2, rep_tup_raw al.al rfl e2 ⟨_, _, rfl, rfl, _, _, rfl, ry, rfl⟩⟩
theorem itok_zip {c c2 : Sc} {l l2 : List D} {xs ys : List V} (h : Sc.has K H xs c) (rs : Reps K U H l xs) (k : ∀ H', (∀ a o, ¬ U a → HN H a o → HN H' a o) → Sc.has K H' xs c)
    (h2 : Sc.has K H ys c2) (rs2 : Reps K U H l2 ys) (k2 : ∀ H', (∀ a o, ¬ U a → HN H a o → HN H' a o) → Sc.has K H' ys c2) : ItOk K U H (zipD l l2) (ItZ K c c2) where
  stop := fun i H2 hi kp e => ⟨xs, ys, k H2 kp, k2 H2 kp, by
    have l1 := rs.len
    have l2 := rs2.len
    simp only [zipD, List.length_map, List.length_zip] at hi e
    omega⟩
  go := fun i H2 hi kp => ⟨xs, ys, k H2 kp, k2 H2 kp, by
    have l1 := rs.len
    have l2 := rs2.len
    simp only [zipD, List.length_map, List.length_zip] at hi
    omega⟩
  yld := fun i d H2 H3 x U' hd kp ku al ⟨T, y, z, o, e1, e2, eo, e3, e4, e5⟩ => by
    subst e1 e3
    have hd : ∃ a b, l[i]? = some a ∧ l2[i]? = some b ∧ d = .tup [a, b] := by
      simp only [zipD, List.getElem?_map, Option.map_eq_some_iff] at hd
      obtain ⟨⟨a, b⟩, hp, rfl⟩ := hd
      rw [List.getElem?_zip_eq_some] at hp
      exact ⟨a, b, hp.1, hp.2, rfl⟩
    obtain ⟨a, b, ha, hb, rfl⟩ := hd
    have ry := Rep.to kp ku a y (rs.at2 ha (e4 xs (k H2 kp)))
    have rz := Rep.to kp ku b z (rs2.at2 hb (e5 ys (k2 H2 kp)))
    exact ⟨same_new e2, rep_tup_new al.al eo e2 ⟨_, _, rfl, ry, _, _, rfl, rz, rfl⟩⟩
end
section
variable {X : Cx} {W : WX} {e e2 : Expr} {ma : En → Rs (List D)} {p pos tpos : Pos} {elts : List Expr} {kk : Nat}
theorem ei_enum (hg : Gl X "enumerate") (hm : X.mg "enumerate" = none) (ha : EvN X W [e] 1 ma) (hs : starEach [e] X.env = [(false, eval e X.env)] := by rfl) : EvI X W (.Tuple elts kk tpos) (.Call (.Name "enumerate" p) [e] [] pos) (xEnum ma) :=
  PI_imp (pi_enumM hg hm ha.pa hs) fun σ H Q ⟨U, env, sa, po⟩ => ⟨U, env, sa, Po.step po fun vs H1 ds e1 a r po1 => by
    have r : Reps X.K (Ux U e1 σ) H1 ds vs := r
    match ds, r, po1 with
    | [d], r, po1 =>
      obtain ⟨x, rfl, rx⟩ := r.one
      cases hi : iterD d with
      | none => simp only [hi] at po1; exact po1.elim
      | some l =>
        simp only [hi] at po1
        obtain ⟨c, xs, h1, h2, h3, h4⟩ := src_of rx hi
        exact ⟨x, c, xs, rfl, h1, h2, po1 _ H1 (.refl a.sa) (itok_enum h2 h3 h4)⟩
    | [], _, po1 => exact po1.elim
    | _ :: _ :: _, _, po1 => exact po1.elim⟩
theorem ei_zip (hg : Gl X "zip") (hm : X.mg "zip" = none) (ha : EvN X W [e, e2] 2 ma) (hs : starEach [e, e2] X.env = (false, eval e X.env) :: starEach [e2] X.env := by rfl) (hpl : (backTo pos (starEach [e2] X.env)).any (·.1) = false := by rfl) :
    EvI X W (.Tuple elts kk tpos) (.Call (.Name "zip" p) [e, e2] [] pos) (xZip ma) :=
  PI_imp (pi_zipM hg hm ha.pa hs hpl) fun σ H Q ⟨U, env, sa, po⟩ => ⟨U, env, sa, Po.step po fun vs H1 ds e1 a r po1 => by
    have r : Reps X.K (Ux U e1 σ) H1 ds vs := r
    match ds, r, po1 with
    | [d, d2], r, po1 =>
      obtain ⟨x, y, rfl, rx, ry⟩ := r.two
      cases hi : iterD d with
      | none => simp only [hi] at po1; exact po1.elim
      | some l =>
        cases hj : iterD d2 with
        | none => simp only [hi, hj] at po1; exact po1.elim
        | some l2 =>
          simp only [hi, hj] at po1
          obtain ⟨c, xs, h1, h2, h3, h4⟩ := src_of rx hi
          obtain ⟨c2, ys, g1, g2, g3, g4⟩ := src_of ry hj
          exact ⟨x, y, c, c2, xs, ys, rfl, h1, g1, h2, g2, po1 _ H1 (.refl a.sa) (itok_zip h2 h3 h4 g2 g3 g4)⟩
    | [], _, po1 => exact po1.elim
    | [_], _, po1 => exact po1.elim
    | _ :: _ :: _ :: _, _, po1 => exact po1.elim⟩
end
end Mi

set_option Elab.async false
set_option linter.all false
set_option maxRecDepth 100000
set_option maxHeartbeats 4000000
/-! Mi18: repr; calls by keywords; defs that return what they made -/
namespace Mi
open PySem PySem.Spec L2
variable [Tb]
/-! ### repr -/
/-! ### f(k = e, ..): keywords alone -/
section
variable {X : Cx} {W : WX} {e : Expr} {kws : List Keyword} {m : En → Rs D} {mq : En → Rs (List Ar)} {n : Nat} {nm : Option Str} {kpos : Pos}
end
def qPick (pm : List Nat) (mq : En → Rs (List Ar)) : En → Rs (List Ar) := fun env => (mq env).bind fun as e => .ok (pick pm as) e
section
variable {K : PySem.W.Frag} {U : Addr → Prop} {σ : St} {H : Hp}
end
section
variable {X : Cx} {W : WX} {k n : Nat} {f : Addr} {fd : FuncData} {ps ks : List Str} {pm : List Nat} {sp : Sp} {x : Str} {p pos : Pos} {kws : List Keyword} {m : En → Rs D} {mq : En → Rs (List Ar)} {tk : TA}
end
end Mi

set_option Elab.async false
set_option linter.all false
set_option maxRecDepth 100000
set_option maxHeartbeats 4000000
/-! Mi19: defs that return what they made; facts of defs -/
namespace Mi
open PySem PySem.Spec L2
variable [Tb]
section
variable {K : PySem.W.Frag} {U : Addr → Prop} {env env1 : En} {σ : St} {H H1 : Hp}
end
def fOwn (i : Nat) : En → Rs Ob := fun env => match env[i]? with
  | some (.ow o) => .ok o (env.set i .un)
  | _ => .bad
/-! ### a def that returns a new object; its arguments are values -/
def PoSN (K : PySem.W.Frag) (W : WX) (U : Addr → Prop) (env : En) (σ : St) (H : Hp) (r : Rs Ob) (Dn : Ends) : Prop := match r with
  | .ok o env' => ∀ σ' H1 env1, Ste K U env σ H env1 σ' H1 → ∀ p H', Fre K U env1 σ' H1 env' H' o p → Dn.rt (.ref p) H'
  | .er x env' => ∀ cls dd σ' H', Ste K U env σ H env' σ' H' → ExR K (Ux U env' σ') H' x cls dd → W cls dd σ' H'
  | .bad => False
def tSN (K : PySem.W.Frag) (W : WX) (m : En → Rs Ob) : TS := fun Dn σ H => ∃ U env, SA K U env σ H ∧ PoSN K W U env σ H (m env) Dn
abbrev EvSN (X : Cx) (W : WX) (s : List Stmt) (m : En → Rs Ob) : Prop := PSs X s (tSN X.K W m)
theorem PoSN.shift {K : PySem.W.Frag} {W : WX} {U : Addr → Prop} {env env1 : En} {σ σ1 : St} {H H1 : Hp} {r : Rs Ob} {Dn : Ends} (a : Ste K U env σ H env1 σ1 H1) (h : PoSN K W U env σ H r Dn) : PoSN K W U env1 σ1 H1 r Dn := by
  cases r with
  | ok d e => exact fun s' H' e1 b => h s' H' e1 (a.trans b)
  | er x e => exact fun c d s' H' b q => h c d s' H' (a.trans b) q
  | bad => exact h
def nSeq (m : En → Rs Fl) (n : En → Rs Ob) : En → Rs Ob := fun env => (m env).bind fun fl e => match fl with
  | .nx => n e
  | _ => .bad
section
variable {X : Cx} {W : WX} {st : Stmt} {rest : List Stmt} {m : En → Rs Fl} {n : En → Rs Ob} {e : Expr} {pos : Pos}
theorem sn_cons (h1 : EvS X W st m) (h2 : EvSN X W rest n) : EvSN X W (st :: rest) (nSeq m n) :=
  PSs_imp (pss_cons h1 h2) fun Dn σ H ⟨U, env, sa, po⟩ => ⟨U, env, sa, by
    unfold nSeq at po
    cases hm : m env with
    | bad => rw [hm] at po; exact po
    | er x e => rw [hm] at po; exact po
    | ok fl e =>
      rw [hm] at po
      cases fl with
      | nx => exact fun σ' H' a => ⟨U, e, a.sa, PoSN.shift a po⟩
      | _ => exact po.elim⟩
theorem sn_ret (h : EvF X W e n) : EvSN X W [.Return (some e) pos] n :=
  PSs_imp (pss_one (ps_ret h)) fun Dn σ H ⟨U, env, sa, po⟩ => ⟨U, env, sa, by
    cases hm : n env with
    | bad => rw [hm] at po; exact po
    | er x e => rw [hm] at po; exact fun c d H' a q => po c d σ H' a q
    | ok o e => rw [hm] at po; exact fun p H' f => po σ H env (.refl sa) p H' f⟩
end
def AlN (U : Addr → Prop) (H : Hp) : Prop := ∀ a, U a → ∃ o, OH H a o
def spN (K : PySem.W.Frag) (n : Nat) (m : List D → Rs Ob) : Sp := fun vs H Q E => ∃ U ds, vs.length = n ∧ AlN U H ∧ LamX.Tabs Tb.T H ∧ Reps K U H ds vs ∧ match m ds with
  | .ok o _ => ∀ p H', Sm H H' → NoN H p → RepO K (Up U p) H' o p → Q (.ref p) H'
  | _ => False
def mDefN (n N : Nat) (mb : En → Rs Ob) : List D → Rs Ob := fun ds => match mb (ds.map Sl.v ++ List.replicate (N - n) .un) with
  | .ok o e => .ok o e
  | _ => .bad
section
variable {K : PySem.W.Frag} {U : Addr → Prop} {σ : St} {H : Hp} {ds : List D} {vs : List V}
theorem no_chg {a : Addr} : ¬ Chg (ds.map Sl.v) σ a := fun ⟨i, s, o, h1, h2, _⟩ => by
  rw [List.getElem?_map] at h1
  cases e : ds[i]? with
  | none => rw [e] at h1; cases h1
  | some d => rw [e] at h1; cases h1; cases h2
theorem sa_vals (al : AlN U H) (tb : LamX.Tabs Tb.T H) (r : Reps K U H ds vs) : SA K U (ds.map Sl.v) (vs.map some) H where
  len := by rw [List.length_map, List.length_map, r.len]
  tb := tb
  alN := al
  nu := fun a c => (no_chg c).elim
  inj := fun i j s t o p a h1 h2 h3 h4 h5 h6 => (no_chg ⟨i, s, o, h1, h2, h5⟩).elim
  val := fun i d h => by
    rw [List.getElem?_map] at h
    cases e : ds[i]? with
    | none => rw [e] at h; cases h
    | some d' =>
      rw [e] at h
      cases h
      obtain ⟨v, h1, h2⟩ := r.get e
      exact ⟨v, by rw [List.getElem?_map, h1]; rfl, Rep.to (fun _ _ _ q => q) (fun x o n _ q => q.elim n no_chg) d v h2⟩
  ob := fun i s o h1 h2 => by
    rw [List.getElem?_map] at h1
    cases e : ds[i]? with
    | none => rw [e] at h1; cases h1
    | some d => rw [e] at h1; cases h1; cases h2
end
theorem okN {P : Program} {w : World} {K : PySem.W.Frag} {mg : Str → Option Value} {base : Heap} {x qual : Str} {st : Stmt} {f : Addr} {fd : FuncData} {N ps : List Str} {k : Nat} {mb : En → Rs Ob} (F : Fun K x qual st f fd) (S : FnScope N ps (defScope st))
    (hbody : ∀ (cdv : Value) (A : Around) (outer : List PySem.Env) (s : Shared) (H : Hp) (E : XK) (W : WX), Co (cxOf (L2.CX P w) P w K mg base N qual (defScope st) f cdv A outer s H E) k → Takes (cxOf (L2.CX P w) P w K mg base N qual (defScope st) f cdv A outer s H E) W →
      EvSN (cxOf (L2.CX P w) P w K mg base N qual (defScope st) f cdv A outer s H E) W (defBody st) mb) : FnG P w K mg base (k + 1) f fd ps (spN K ps.length (mDefN ps.length N.length mb)) := by
  refine fnG_of F S (fun vs H Q E h => ?_) fun cdv A outer s H vs Q E co h => ⟨tSN K (fun c d _ H' => E c d H') mb, hbody cdv A outer s H E _ co (takes_of rfl rfl rfl rfl), ?_⟩
  · obtain ⟨U, ds, hl, _⟩ := h
    exact hl
  obtain ⟨U, ds, hl, al, tb, r, po⟩ := h
  have sa := sa_vals al tb r
  rw [pad_len]
  have hl2 : N.length - vs.length = N.length - ps.length := by rw [hl]
  rw [hl2]
  refine ⟨U, ds.map Sl.v ++ List.replicate (N.length - ps.length) .un, sa.pad, ?_⟩
  have nc : ∀ a, ¬ Chg (ds.map Sl.v ++ List.replicate (N.length - ps.length) .un) (vs.map some ++ List.replicate (N.length - ps.length) none) a := fun a c => no_chg ((chg_pad sa.len a).mp c)
  unfold mDefN at po
  cases hm : mb (ds.map Sl.v ++ List.replicate (N.length - ps.length) .un) with
  | bad => simp only [hm] at po
  | er y e => simp only [hm] at po
  | ok o e =>
    simp only [hm] at po
    intro σ' H1 env1 a p H' fr
    refine po p H' ⟨fun b u q => ?_, fr.sa.tb⟩ ?_ ?_
    · exact fr.gr b u (fun c => (a.fr b c).elim (nc b) fun z => z.no q) (a.gr b u (nc b) q)
    · rcases fr.nw with q | q
      · exact (a.fr p q).elim (fun c => (nc p c).elim) id
      · exact fun u z => q u (a.gr p u (nc p) z)
    · exact RepO.to (fun _ _ _ q => q) (fun x o n _ q => n (.inl q)) (fun _ q => q) fr.ob
def xCallN (m : List D → Rs Ob) (ma : En → Rs (List D)) : En → Rs Ob := fun env => (ma env).bind fun ds e1 => match m ds with
  | .ok o _ => .ok o e1
  | _ => .bad
section
variable {X : Cx} {W : WX} {k n : Nat} {f : Addr} {fd : FuncData} {ps : List Str} {x : Str} {p pos : Pos} {e : Expr} {es : List Expr} {m : List D → Rs Ob} {ma : En → Rs (List D)}
theorem ef_call (F : FnG X.prog X.w X.K X.mg X.base k f fd ps (spN X.K (n + 1) m)) (c : Co X k) (tk : Takes X W) (hm : X.mg x = some (.ref f)) (hk : PySem.W.keepIn X.K (.ref f) = true) (hb : Binds X.K fd ps [])
    (ha : EvN X W (e :: es) (n + 1) ma) (hg : Gl X x := by rfl) (hdb : (x == ("__debug__" : Str)) = false := by decide) (he : starEach (e :: es) X.env = (false, eval e X.env) :: starEach es X.env := by rfl)
    (hpl : (backTo pos (starEach es X.env)).any (·.1) = false := by rfl) : EvF X W (.Call (.Name x p) (e :: es) [] pos) (xCallN m ma) := by
  refine PE_imp (pe_cg F c tk hm hk hb .nil ha.pa hg hdb he hpl) fun σ H Q ⟨U, env, sa, po⟩ => ⟨U, env, sa, ?_⟩
  unfold xCallN at po
  cases hm : ma env with
  | bad => rw [hm] at po; exact po
  | er x e => rw [hm] at po; exact po
  | ok ds e1 =>
    rw [hm] at po
    simp only [Rs.bind_ok] at po
    intro vs H1 a r
    rw [List.append_nil]
    refine ⟨Ux U e1 σ, ds, by rw [Reps.len r, ha.len _ _ _ hm], (fun _ h => a.sa.alxN h), a.sa.tb, r, ?_⟩
    cases hr : m ds with
    | bad => simp only [hr] at po; exact po
    | er x e => simp only [hr] at po; exact po
    | ok o e2 =>
      simp only [hr] at po
      intro q H' s hq ro
      refine po q H' (Fre.pre a ?_)
      have ng : ∀ x u, HN H1 x u → x ≠ q := fun x u z e => by rw [e] at z; exact hq u z
      have nu : ∀ x u, ¬ Ux U e1 σ x → HN H1 x u → ¬ Ux (Up U q) e1 σ x := fun x u n z c => (ux_up.mp c).elim n (ng x u z)
      refine ⟨.inr hq, fun z => by obtain ⟨u, z⟩ := a.sa.alN q z; exact ng q u z.1 rfl, ⟨a.sa.len, s.tb, fun b z => ?_, fun b c z => ?_, a.sa.inj, fun i d h => ?_, fun i t u h1 h2 => ?_⟩, fun x o _ h => s.keep x o h, fun _ c => .inl c, fun i o h => ⟨o, h⟩, ?_⟩
      · rcases z with z | z
        · obtain ⟨u, z⟩ := a.sa.alN b z
          exact ⟨u, s.keep b u z.1, z.2⟩
        · rw [z]; exact ro.hnO
      · rcases z with z | z
        · exact a.sa.nu b c z
        · obtain ⟨u, y⟩ := a.sa.alxN (.inr c)
          exact ng b u y.1 z
      · obtain ⟨v, e, r⟩ := a.sa.val i d h
        exact ⟨v, e, Rep.to (fun a o _ q => s.keep a o q) nu d v r⟩
      · obtain ⟨b, e, r⟩ := a.sa.ob i t u h1 h2
        exact ⟨b, e, RepO.to (fun a o _ q => s.keep a o q) nu (fun o q => s.keep b o q) r⟩
      · refine RepO.to (fun _ _ _ q => q) (fun x u n _ c => n ?_) (fun _ q => q) ro
        rcases ux_up.mp c with c | c
        · exact .inl c
        · exact .inr c
end
/-! ### facts of defs -/
theorem fun_of_D {K : PySem.W.Frag} {x qual : Str} {st : Stmt} {f : Addr} {fd : FuncData} (F : FunD K x qual (defArgs st) (defBody st) (defScope st) [] [] f fd) : Fun K x qual st f fd := by
  obtain ⟨oc, od, dV, kV, doc, pm, an, cdv, ct, osl, h1, h2, h3, h4, _⟩ := F.ex
  rcases h4 with ⟨_, rfl⟩ | ⟨e, _⟩
  · exact ⟨⟨oc, od, kV, doc, pm, an, cdv, ct, osl, h1, h2, h3⟩, F.kp⟩
  · exact absurd rfl e
theorem Co.blk {X : Cx} {k : Nat} (c : Co X k) (s : Shared) (H : Hp) (scope : Scope) (ce : Env) (fp : List Addr) : Co (X.blk s H scope ce fp) k := ⟨c.hr, c.hg, c.calm⟩
end Mi

set_option Elab.async false
set_option linter.all false
set_option maxRecDepth 100000
set_option maxHeartbeats 4000000
/-! Mi20: a law's end -/
namespace Mi
open PySem PySem.Spec L2
open PyProof.Rows (IntsAre AllBare)
/-- what is tracked ahead of the law's call: the script, where the module does not hold it -/
def scriptH (K : PySem.W.Frag) (a : Addr) (o : Obj) (xs : List V) : Hp := fun b => match K.lookup a with
  | some _ => none
  | none => if b = a then some (.frz o (.lst xs)) else none
section
variable {K : PySem.W.Frag} {a b : Addr} {o : Obj} {xs : List V} {u : HO}
theorem scriptH_inv (h : scriptH K a o xs b = some u) : K.lookup a = none ∧ b = a ∧ u = .frz o (.lst xs) := by
  unfold scriptH at h
  split at h
  · cases h
  · rename_i hk
    rw [Option.ite_none_right_eq_some] at h
    exact ⟨hk, h.1, (Option.some.inj h.2).symm⟩
theorem scriptH_none (h : ¬ (K.lookup a = none ∧ b = a)) : scriptH K a o xs b = none := by
  cases e : scriptH K a o xs b with
  | none => rfl
  | some u => exact absurd ⟨(scriptH_inv e).1, (scriptH_inv e).2.1⟩ h
end
theorem law_run {P : Program} {w : World} {K : PySem.W.Frag} {mg mb : Str → Option Value} {k : Nat} {fa a : Addr} {fd : FuncData} {x : Str} {m : En → Rs D} {st : Shared} {vs : List Value} {ns : List Int}
    (kin : K.In st.heap) (gl : st.heap.Ns mainGlobals mg) (bl : st.heap.Ns builtinsNs mb) (bb : ∀ x : Str, x ≠ "__name__" → mb x = bootBuiltins x) (lim : st.heap.NoLimit) (gn : st.gens = #[])
    (at_ : st.heap.get? a = some { cls := .type "list", data := .seq vs.toArray }) (ai : IntsAre vs ns) (few : ns.length ≤ sizeLine) (room : Room k callerA)
    (F : ∀ base : Heap, K.In base → base.Ns mainGlobals mg → FnG P w K mg base k fa fd [x] (@spM tb0 K 1 m)) (bind : ∀ (s : Shared) (u : Value), BindsTo s fd ⟨[u], []⟩ [(x, u)])
    (good : ∃ e, m [.v (.fz (ns.map .int))] = .ok (.bl true) e) :
    codeAny (model P w) callerA (.call (.ref fa) ⟨[.ref a], []⟩) (fun r s' => r = .ok (.ret (.bool true)) ∧ OldK st.heap s'.heap ∧ s'.os = st.os ∧ AllBare s'.gens) st := by
  letI : Tb := tb0
  have rel := vals_ints ai
  have lens := ai.length
  let ob : Obj := { cls := .type "list", data := .seq vs.toArray }
  let Hs : Hp := scriptH K a ob (ns.map V.int)
  have hok : HOk P w Hs st.heap := fun b u h => by
    obtain ⟨_, rfl, rfl⟩ := scriptH_inv h
    exact ⟨at_, by rw [List.length_map]; exact few, vs, _, rel, at_⟩
  -- what stands in the base: all but the script
  have stay : ∀ {b : Addr} {o : Obj}, st.heap.get? b = some o → Hs b = none → (hidT st.heap Hs).get? b = some o := fun e n => hidT_get e n
  have dictNot : ∀ {b : Addr} {o : Obj} {es : Array DictEntry} {ep : Nat}, st.heap.get? b = some o → o.data = .dict es ep → Hs b = none := fun {b o es ep} e d => scriptH_none fun ⟨_, q⟩ => by
    rw [q, at_] at e
    cases e
    cases d
  have nsAt : ∀ {b : Addr} {m : Str → Option Value}, st.heap.Ns b m → (hidT st.heap Hs).Ns b m := fun {b m} h => by
    obtain ⟨o, es, ep, e, d, r⟩ := h
    exact ⟨o, es, ep, stay e (dictNot e d), d, r⟩
  have kinB : K.In (hidT st.heap Hs) := fun b o e => stay (kin b o e) (scriptH_none fun ⟨n, q⟩ => by rw [q, n] at e; cases e)
  have lim2 : (hidT st.heap Hs).NoLimit := by
    obtain ⟨mc, l1, l2⟩ := lim
    exact ⟨mc, nsAt l1, l2⟩
  have env0 : Env0 P w K mg (hidT st.heap Hs) callerA [] st Hs :=
    { frames := rfl, mod := ⟨kinB, nsAt gl, ⟨mb, nsAt bl, bb⟩, lim2⟩, bs := fun b o e => of_hidT e, bsz := Nat.le_of_eq (hidT_size _ _), funs := trivial, frf := fun b hb => (by cases hb), hok := hok, bare := .of_eq gn }
  -- the script's tree
  have fz : FzAt K (fun _ => False) Hs a (ns.map V.int) := by
    cases hk : K.lookup a with
    | none => exact .inl ⟨ob, by show scriptH _ _ _ _ _ = _; unfold scriptH; rw [hk]; exact if_pos rfl, fun z => z⟩
    | some o =>
      have e := kin a o hk
      rw [at_] at e
      cases e
      exact .inr (.inr ⟨_, vs.toArray, _, hk, rfl, rfl, rfl, by rw [List.size_toArray, lens]; exact few, by simpa using rel⟩)
  have ints2 : ∀ l : List Int, Reps K (fun _ => False) Hs (l.map .int) (l.map V.int) := by
    intro l
    induction l with
    | nil => rfl
    | cons i l ih => exact ⟨_, _, rfl, rfl, ih⟩
  have sa : SA K (fun _ => False) [.v (.fz (ns.map .int))] [some (V.ref a)] Hs := by
    have := sa_vals (K := K) (U := fun _ => False) (H := Hs) (ds := [.fz (ns.map .int)]) (vs := [.ref a]) (fun _ z => z.elim) (fun p hp => nomatch hp) ⟨_, _, rfl, ⟨a, _, rfl, fz, ints2 ns⟩, rfl⟩
    exact this
  have sp : spM K 1 m [.ref a] Hs (fun v H' => v = .bl true ∧ ∀ b u, Hs b = some u → H' b = some u) (fun _ _ _ => False) := by
    refine ⟨fun _ => False, [.v (.fz (ns.map .int))], rfl, sa, fun s hs => by rw [List.mem_singleton.mp hs]; rfl, ?_⟩
    obtain ⟨e, he⟩ := good
    rw [he]
    intro v H' ste rep
    refine ⟨rep, fun b u h => ?_⟩
    obtain ⟨_, _, eu⟩ := scriptH_inv h
    refine (ste.gr b u (fun c => ?_) ⟨h, by rw [eu]; exact nt_frz⟩).1
    obtain ⟨i, s, o, h1, h2, _⟩ := c
    cases i with
    | zero => cases h1; cases h2
    | succ i => simp at h1
  refine codeAny_mono ((F _ kinB (nsAt gl)).run callerA [] st Hs ⟨[.ref a], []⟩ [.ref a] [.ref a] _ _ room rfl env0 (bind st (.ref a)) (.cons rfl .nil) sp) fun r s' h => ?_
  cases r with
  | error e =>
    obtain ⟨_, _, _, _, _, _, _, _, _, _, _, _, z⟩ := h
    exact z.elim
  | ok fl =>
    cases fl with
    | ret u =>
      obtain ⟨v, H', os, bare, un, hok', r', q, keep⟩ := h
      subst q
      obtain rfl : u = Value.bool true := r'
      refine ⟨rfl, OldK.of_keep fun b o e => ?_, os, bare⟩
      cases q : Hs b with
      | none => exact un.keep b o e q (by simp [frs]) (by simp)
      | some z =>
        obtain ⟨_, rfl, rfl⟩ := scriptH_inv q
        obtain ⟨e1, _⟩ := hok' b _ (keep b _ q)
        rw [at_] at e
        cases e
        exact e1
    | next => exact False.elim h
    | brk => exact False.elim h
    | cont => exact False.elim h
/-- the law's end over a head by facts -/
theorem walk_G {l : PySem.W.OpenLaw} {n k : Nat} {q : Program} {loose : List Str} {XP : (Str → Option Value) → Heap → Prop} {YP : World → Heap → Prop} {d : DefRec} {x : Str} {m : En → Rs D}
    (hn : l.most = some n) (hn2 : n ≤ sizeLine) (hdf : d.params.defaults = []) (room : Room k callerA)
    (F : ∀ (w : World) (mg : Str → Option Value) (fa : Addr) (h : Heap), YP w h → h.Ns mainGlobals mg → mg d.name = some (.ref fa) →
      ∃ (K : PySem.W.Frag) (fd : FuncData), K.In h ∧ (∀ (s : Shared) (u : Value), BindsTo s fd ⟨[u], []⟩ [(x, u)]) ∧ ∀ base : Heap, K.In base → base.Ns mainGlobals mg → FnG l.prog w K mg base k fa fd [x] (@spM tb0 K 1 m))
    (good : ∀ ns : List Int, ∃ e, m [.v (.fz (ns.map .int))] = .ok (.bl true) e) :
    PySem.W.WalkO q loose XP YP l.row.toRowW d [] (fun f vs => PySem.call f vs) := by
  refine Att.attach_call hn hdf fun w s₀ s₁ mg mb fa o pm cd doc a vs ns G Y ho hd hcd hmg hobj hints hlen hg => ?_
  obtain ⟨K, fd, kin, hb, hF⟩ := F w mg fa _ Y G.T.g hmg
  exact law_run kin G.T.g G.T.b G.T.builtins G.T.nolimit hg hobj hints (Nat.le_trans hlen hn2) room hF hb (good ns)
end Mi

set_option Elab.async false
set_option linter.all false
set_option maxRecDepth 100000
set_option maxHeartbeats 4000000
/-! Mi21: calls in short; a new object handed to a def -/
namespace Mi
open PySem PySem.Spec L2
variable [Tb]
section
variable {X : Cx} {W : WX} {k : Nat} {x : Str} {id T : String} {p pos : Pos} {e : Expr} {es : List Expr} {g : List D → Option D} {r : List V → Hp → VK → Prop} {ma : En → Rs (List D)} {ms : En → Option (List D)}
theorem ev_b (hc : CallR X (.builtin id) r) (hs : SndN X.K g r) (hm : X.mg x = none) (ha : EvN X W (e :: es) k ma) (hg : Gl X x := by rfl) (hv : bootBuiltins x = some (.builtin id) := by decide +kernel) (hn : x ≠ "__name__" := by decide) (hdb : (x == ("__debug__" : Str)) = false := by decide)
    (he : starEach (e :: es) X.env = (false, eval e X.env) :: starEach es X.env := by rfl) (hpl : (backTo pos (starEach es X.env)).any (·.1) = false := by rfl) : Ev X W (.Call (.Name x p) (e :: es) [] pos) (xN g ma) :=
  ev_n (t := fun t => tCB r t) hs ha (pe_callB hc hg hm hv ha.pa hn hdb he hpl)
theorem ev_t (hc : CallR X (.type T) r) (hs : SndN X.K g r) (hm : X.mg x = none) (ha : EvN X W (e :: es) k ma) (hg : Gl X x := by rfl) (hv : bootBuiltins x = some (.type T) := by decide +kernel) (hn : x ≠ "__name__" := by decide) (hdb : (x == ("__debug__" : Str)) = false := by decide)
    (he : starEach (e :: es) X.env = (false, eval e X.env) :: starEach es X.env := by rfl) (hpl : (backTo pos (starEach es X.env)).any (·.1) = false := by rfl) : Ev X W (.Call (.Name x p) (e :: es) [] pos) (xN g ma) :=
  ev_n (t := fun t => tCB r t) hs ha (pe_callTy hc hg hm hv ha.pa hn hdb he hpl)
theorem ep_b (hc : CallR X (.builtin id) r) (hs : SndN X.K g r) (hm : X.mg x = none) (ha : EvPs X (e :: es) ms) (hg : Gl X x := by rfl) (hv : bootBuiltins x = some (.builtin id) := by decide +kernel) (hn : x ≠ "__name__" := by decide) (hdb : (x == ("__debug__" : Str)) = false := by decide)
    (he : starEach (e :: es) X.env = (false, eval e X.env) :: starEach es X.env := by rfl) (hpl : (backTo pos (starEach es X.env)).any (·.1) = false := by rfl) : EvP X (.Call (.Name x p) (e :: es) [] pos) (pN g ms) :=
  ep_n hs (pe_callB hc hg hm hv ha hn hdb he hpl)
end
/-- BlkOk, by evaluation -/
def blkB (N : List Str) (sc scope : Scope) (own : List (Str × Nat)) : Bool :=
  decide (scope.kind = .function) && (scope.names.all (fun y => decide (scope.names.lookup y.1 = some y.2)) && (own.all (fun p => decide (N[p.2]? = some p.1)) &&
    (scope.names.all (fun y => decide (y.2 = .free → sc.names.lookup y.1 = some .cell ∨ sc.names.lookup y.1 = some .free)) && scope.names.all (fun y => decide (y.2 = .local ∨ y.2 = .cell → y.1 ∈ own.map (·.1) ∨ y.1 ∉ N)))))
theorem blkOk_of {N : List Str} {sc scope : Scope} {own : List (Str × Nat)} (h : blkB N sc scope own = true) : BlkOk N sc scope own := by
  unfold blkB at h
  simp only [Bool.and_eq_true, decide_eq_true_eq, List.all_eq_true] at h
  exact ⟨h.1, h.2.1, h.2.2.1, h.2.2.2.1, h.2.2.2.2⟩
/-- f(a new object), f a def that changes it -/
def xCallF (m : En → Rs D) (mo : En → Rs Ob) : En → Rs D := fun env => (mo env).bind fun o e1 => match m [.io o] with
  | .ok d _ => .ok d e1
  | _ => .bad
section
variable {K : PySem.W.Frag} {U : Addr → Prop} {env e1 : En} {σ : St} {H H1 : Hp} {o : Ob} {p : Addr}
theorem fre_args (f : Fre K U env σ H e1 H1 o p) : SA K (Ux U e1 σ) [.io o] [some (V.ref p)] H1 where
  len := rfl
  tb := f.sa.tb
  alN := fun a h => f.sa.alxN (h.imp .inl id)
  nu := fun a ⟨i, s, q, h1, h2, h3⟩ z => by
    have e : a = p := by
      cases i with
      | zero => cases h3; rfl
      | succ i => simp at h1
    subst e
    rcases z with z | z
    · exact f.nu z
    · exact f.sa.nu a z (.inr rfl)
  inj := fun i j s t q r a h1 h2 h3 h4 h5 h6 => by
    cases i with
    | succ i => simp at h1
    | zero =>
      cases j with
      | succ j => simp at h3
      | zero => rfl
  val := fun i d h => by
    cases i with
    | zero => cases h
    | succ i => simp at h
  ob := fun i s q h1 h2 => by
    cases i with
    | succ i => simp at h1
    | zero =>
      cases h1
      cases h2
      refine ⟨p, rfl, RepO.to (fun _ _ _ q => q) (fun x u n _ z => n ?_) (fun _ q => q) f.ob⟩
      rcases z with z | z
      · exact ux_up.mpr (.inl z)
      · obtain ⟨i, s, q, h1, h2, h3⟩ := z
        cases i with
        | zero => cases h3; exact ux_up.mpr (.inr rfl)
        | succ i => simp at h1
theorem fre_back (sa : SA K U env σ H) (f : Fre K U env σ H e1 H1 o p) {args' : En} {H' : Hp} (st : Ste K (Ux U e1 σ) [.io o] [some (V.ref p)] H1 args' [some (V.ref p)] H') :
    Ste K U env σ H e1 σ H' ∧ ∀ x, Ux U e1 σ x → Ux (Ux U e1 σ) args' [some (V.ref p)] x := by
  have one : ∀ a, Chg [.io o] [some (V.ref p)] a → a = p := fun a ⟨i, s, q, h1, h2, h3⟩ => by
    cases i with
    | zero => cases h3; rfl
    | succ i => simp at h1
  have kept : ∀ a u, a ≠ p → HN H1 a u → HN H' a u := fun a u n h => st.gr a u (fun c => n (one a c)) h
  have sub : ∀ x, Ux U e1 σ x → Ux (Up U p) e1 σ x := fun x h => ux_up.mpr (.inl h)
  have nep : ∀ {x}, ¬ Ux (Up U p) e1 σ x → x ≠ p := fun n e => n (ux_up.mpr (.inr e))
  refine ⟨⟨⟨f.sa.len, st.sa.tb, fun a h => ?_, fun a c h => f.sa.nu a c (.inl h), f.sa.inj, fun i d h => ?_, fun i s q h1 h2 => ?_⟩, fun a u n h => ?_, f.fr, fun i q h => ?_⟩, fun x h => .inl h⟩
  · exact st.sa.alN a (.inl h)
  · obtain ⟨v, e, r⟩ := f.sa.val i d h
    exact ⟨v, e, Rep.to (fun a u n h => kept a u (nep n) h) (fun x u n _ z => n (sub x z)) d v r⟩
  · obtain ⟨a, e, r⟩ := f.sa.ob i s q h1 h2
    refine ⟨a, e, RepO.to (fun a u n h => kept a u (nep n) h) (fun x u n _ z => n (sub x z)) (fun u h => kept a u (fun z => ?_) h) r⟩
    exact f.sa.nu a ⟨i, s, q, h1, h2, e⟩ (.inr z)
  · refine kept a u (fun z => ?_) (f.gr a u n h)
    rcases f.nw with q | q
    · exact n (by rw [z]; exact q)
    · rw [z] at h; exact q.no h
  · obtain ⟨q', e⟩ := f.io i q h
    exact ⟨q', e, rfl⟩
end
section
variable {X : Cx} {W : WX} {k : Nat} {f : Addr} {fd : FuncData} {ps : List Str} {x : Str} {p pos : Pos} {e : Expr} {m : En → Rs D} {mo : En → Rs Ob}
theorem ev_callF (F : FnG X.prog X.w X.K X.mg X.base k f fd ps (spM X.K 1 m)) (c : Co X k) (tk : Takes X W) (hm : X.mg x = some (.ref f)) (hk : PySem.W.keepIn X.K (.ref f) = true) (hb : Binds X.K fd ps [])
    (ha : EvF X W e mo) (hg : Gl X x := by rfl) (hdb : (x == ("__debug__" : Str)) = false := by decide) (he : starEach [e] X.env = (false, eval e X.env) :: starEach [] X.env := by rfl)
    (hpl : (backTo pos (starEach [] X.env)).any (·.1) = false := by rfl) : Ev X W (.Call (.Name x p) [e] [] pos) (xCallF m mo) := by
  refine PE_imp (pe_cg F c tk hm hk hb .nil (pa_cons ha pa_nil he) hg hdb he hpl) fun σ H Q ⟨U, env, sa, po⟩ => ⟨U, env, sa, ?_⟩
  unfold xCallF at po
  cases hm : mo env with
  | bad => rw [hm] at po; exact po
  | er x e => rw [hm] at po; exact po
  | ok o e1 =>
    rw [hm] at po
    simp only [Rs.bind_ok] at po
    intro q H1 fr
    refine ⟨Ux U e1 σ, [.io o], rfl, fre_args fr, fun s hs => by rw [List.mem_singleton.mp hs]; rfl, ?_⟩
    cases hr : m [.io o] with
    | bad => simp only [hr] at po; exact po.elim
    | er x e => simp only [hr] at po; exact po.elim
    | ok d args' =>
      simp only [hr] at po
      intro v H' st rep
      obtain ⟨st2, sub⟩ := fre_back sa fr st
      exact po v H' st2 (Rep.to (fun _ _ _ q => q) (fun x u n _ z => n (sub x z)) d v rep)
end
end Mi

set_option Elab.async false
set_option linter.all false
set_option maxRecDepth 100000
set_option maxHeartbeats 4000000
/-! Mi22: objects: made, asked, their attributes -/
namespace Mi
open PySem PySem.Spec L2
variable [Tb]
section
variable {K : PySem.W.Frag} {U : Addr → Prop} {env e1 : En} {σ : St} {H H1 : Hp} {o : Ob} {p : Addr} {ds : List D} {vs : List V}
end
/-! ### C(..) -/
section
variable {X : Cx} {W : WX} {k : Nat} {C f : Addr} {fd : FuncData} {ps : List Str} {sp : Sp}
end
/-- C(e, ..): the object, when nothing is let out -/
def xMake (c : Str) (m : En → Rs D) (ma : En → Rs (List D)) : En → Rs Ob := fun env => (ma env).bind fun ds e1 => match m (.io (.ins c [] []) :: ds.map Sl.v) with
  | .ok .non args' => match (args'[0]? : Option Sl) with
    | some (.io o) => .ok o e1
    | _ => .bad
  | .er x _ => .er x e1
  | _ => .bad
section
variable {X : Cx} {W : WX} {k n : Nat} {c x : Str} {f : Addr} {fd : FuncData} {ps : List Str} {p pos : Pos} {e : Expr} {es : List Expr} {m : En → Rs D} {ma : En → Rs (List D)}
end
end Mi

set_option Elab.async false
set_option linter.all false
set_option maxRecDepth 100000
set_option maxHeartbeats 4000000
/-! Mi23: attributes and methods -/
namespace Mi
open PySem PySem.Spec L2
variable [Tb]
/-! ### reading an attribute -/
def lookN (f : Str) : List Str → List D → Option D
  | n :: ns, d :: ds => if n = f then some d else lookN f ns ds
  | _, _ => none
def gFld (c f : Str) : D → Option D
  | .obj c' ns vs => if c' = c then lookN f ns vs else none
  | _ => none
section
variable {K : PySem.W.Frag} {U : Addr → Prop} {H : Hp}
end
/-- .. of the object of a name -/
def xFldO (i : Nat) (c f : Str) : En → Rs D := fun env => match (env[i]?).bind Sl.ob with
  | some (.ins c' ns vs) => if c' = c then .of (lookN f ns vs) env else .bad
  | _ => .bad
section
variable {X : Cx} {W : WX} {e : Expr} {c f : Str} {m : En → Rs D} {mp : En → Option D} {pos : Pos} {i : Nat}
end
/-! ### storing -/
def putN (f : Str) (d : D) : List Str → List D → List Str × List D
  | n :: ns, v :: vs => if n = f then (n :: ns, d :: vs) else let r := putN f d ns vs; (n :: r.1, v :: r.2)
  | ns, vs => (ns ++ [f], vs ++ [d])
def mFld (i : Nat) (c f : Str) (m : En → Rs D) : En → Rs Fl := fun env => (m env).bind fun d e1 => match e1[i]? with
  | some s => match s.ob with
    | some (.ins c' ns vs) => if c' = c ∧ ns.length < 1000 then (let r := putN f d ns vs; .ok .nx (e1.set i (s.put (.ins c r.1 r.2)))) else .bad
    | _ => .bad
  | none => .bad
section
variable {K : PySem.W.Frag} {U : Addr → Prop} {H : Hp}
end
section
variable {X : Cx} {W : WX} {o value : Expr} {c f : Str} {m : En → Rs D} {pos pos' : Pos} {i : Nat}
end
end Mi

set_option Elab.async false
set_option linter.all false
set_option maxRecDepth 100000
set_option maxHeartbeats 4000000
/-! Mi24: methods -/
namespace Mi
open PySem PySem.Spec L2
variable [Tb]
/-- a receiver has no such name of its own -/
def hasN (f : Str) (ns : List Str) : Bool := decide (f ∈ ns)
section
variable {X : Cx} {W : WX} {k : Nat} {C f : Addr} {fd : FuncData} {ps : List Str} {sp : Sp} {nm : Str} {o e : Expr} {es : List Expr} {apos pos : Pos} {ta : TE} {t : TA}
end
def callV (m : En → Rs D) (ds : List D) (e : En) : Rs D := match m (ds.map Sl.v) with
  | .ok d _ => .ok d e
  | .er x _ => .er x e
  | .bad => .bad
/-- o.nm(e, ..), o a value -/
def xMth (c nm : Str) (m : En → Rs D) (mo : En → Rs D) (ma : En → Rs (List D)) : En → Rs D := fun env => (mo env).bind fun d e1 => match d with
  | .obj c' ns _ => if c' = c ∧ hasN nm ns = false then (ma e1).bind fun ds e2 => callV m (d :: ds) e2 else .bad
  | _ => .bad
section
variable {X : Cx} {W : WX} {k n i : Nat} {c nm : Str} {f : Addr} {fd : FuncData} {ps : List Str} {o e : Expr} {es : List Expr} {apos pos : Pos} {m mo : En → Rs D} {ma : En → Rs (List D)} {mq : En → Rs (List Ar)}
end
end Mi

set_option Elab.async false
set_option linter.all false
set_option maxRecDepth 100000
set_option maxHeartbeats 4000000
/-! Mi25: methods of texts; sum; divmod -/
namespace Mi
open PySem PySem.Spec L2
variable [Tb]
def isStrT : D → Bool
  | .str _ => true
  | _ => false
/-- a text's method -/
def xTm (g : D → List D → Option D) (mo : En → Rs D) (ma : En → Rs (List D)) : En → Rs D := fun env => (mo env).bind fun d e1 => if isStrT d = true then (ma e1).bind fun ds e2 => .of (g d ds) e2 else .bad
section
variable {X : Cx} {W : WX} {n : Nat} {o e : Expr} {es : List Expr} {mo : En → Rs D} {ma : En → Rs (List D)} {g : D → List D → Option D} {r : V → List V → Hp → VK → Prop} {name : Str} {apos cpos : Pos} {id : String}
end
section
variable {K : PySem.W.Frag}
/-- the texts of a list or a tuple -/
def seqS : D → Option (List Str)
  | .lst ds => strsD ds
  | .tup ds => strsD ds
  | _ => none
def gJoin : D → List D → Option D
  | .str a, [d] => (seqS d).bind fun ys => if (ys.map (·.length)).sum + ys.length * a.length ≤ 1000000 then some (.str (Txt.join a ys)) else none
  | _, _ => none
theorem reps_strs {U : Addr → Prop} {H : Hp} : ∀ ys : List Str, Reps K U H (ys.map .str) (ys.map V.str)
  | [] => rfl
  | y :: ys => ⟨_, _, rfl, rfl, reps_strs ys⟩
def gSplit : D → List D → Option D
  | .str a, [.str b] => if (b.length == 0) = false ∧ a.length ≤ 1000000 then some (.lst ((Txt.split a b).map .str)) else none
  | _, _ => none
def gPart : D → List D → Option D
  | .str a, [.str b] => if (b.length == 0) = false ∧ a.length ≤ 1000000 ∧ mkS b = false then some (.tup [.str (Txt.partition a b).1, .str (Txt.partition a b).2.1, .str (Txt.partition a b).2.2]) else none
  | _, _ => none
/-! ### divmod, sum of a list -/
def gSum : List D → Option D
  | [.lst ds] => (intsD ds).map fun ns => .int ns.sum
  | [.tup ds] => (intsD ds).map fun ns => .int ns.sum
  | _ => none
end
end Mi

set_option Elab.async false
set_option linter.all false
set_option maxRecDepth 100000
set_option maxHeartbeats 4000000
/-! Mi26: sorted of tuples of which some are empty -/
namespace Mi
open PySem PySem.Calls PySem.SeqAt PySem.W PyProof.Rows
variable [Tb]
/-- all are tuples, or none is a tuple or None -/
def SortT (ds : List PyData) : Prop := (∀ d, d ∈ ds → ∃ xs, d = .tuple xs) ∨ ∀ d, d ∈ ds → d ≠ .none ∧ ∀ xs, d ≠ .tuple xs
theorem keyLt'_gen (x y : Value) : keyLt' general' x y = oneLt' false x y := rfl
section
variable {prog : Program} {w : World} {A : Around} {s : Shared}
theorem call_tuple_lt {E : Value → Shared → Prop} {Q : Value → Shared → Prop} {l b : Addr} {items items2 : Array Value} {e r : Nat → Bool} {ol ob : Obj} {n1 n2 : Nat} (hl : s.heap.get? l = some ol) (cl : ol.cls = .type "tuple") (dl : ol.data = .seq items n1) (hb : s.heap.get? b = some ob) (cb : ob.cls = .type "tuple") (db : ob.data = .seq items2 n2)
    (he : ∀ j (h1 : j < items.size) (h2 : j < items2.size), EqAt A.in1 s items[j] items2[j] (e j)) (hr : ∀ j (h1 : j < items.size) (h2 : j < items2.size), e j = false → RcLt A.in1 s items[j] items2[j] (r j))
    (h : Q (.bool (firstLt e r (decide (items.size < items2.size)) (List.range (min items.size items2.size)))) s) : wpAny (model prog w) A (call (.builtin "tuple.__lt__") [.ref l, .ref b]) Q E s := by
  obtain ⟨cls, dd, data, sl⟩ := ol
  obtain ⟨cls2, dd2, data2, sl2⟩ := ob
  subst cl cb dl db
  exact call_meets F.slot_tuple_lt ⟨_, hl, rfl⟩ F.entry_tuple_lt (F.args_tuple_lt_2 _ _) (tuple_ltAt l b items items2 n1 n2 dd dd2 sl sl2 e r)
    ⟨hl, hb, he, hr, h⟩
theorem oneLt_tup {E : Value → Shared → Prop} {xs ys : List PyData} {a b : Value} {as bs : List Addr} {Q : Bool → Shared → Prop} (ra : Reads s.heap a (.tuple xs) as) (rb : Reads s.heap b (.tuple ys) bs) (h : alike (.tuple xs) (.tuple ys) = true)
    (hu : A.units + min (PyData.tuple xs).depth (PyData.tuple ys).depth < cLine) (hq : Q (dataLt (.tuple xs) (.tuple ys)) s) : wpAny (model prog w) A (oneLt' true a b) Q E s := by
  have hal : alikeAll xs ys = true := by simpa [alike] using h
  cases ra with
  | @tuple l o vs n _ as₁ h1 h2 h3 h4 =>
    cases rb with
    | @tuple l' o' vs' n' _ bs₁ k1 k2 k3 k4 =>
      have n1 : vs.size = xs.length := by simpa using SeqAt.ReadsAll.length _ _ _ h4
      have n2 : vs'.size = ys.length := by simpa using SeqAt.ReadsAll.length _ _ _ k4
      rw [dataLt_tuple, ← firstLt_toks xs ys hal, ← n1, ← n2] at hq
      rw [oneLt'_eq]
      simp only [if_true]
      refine wpAny_bind (wpAny_cRoomFor (SeqAt.room_here hu) ?_)
      refine wpAny_bind (wpAny_callSpecialIfBound?_slot (T := "tuple") ⟨_, h1, h2⟩ F.slot_tuple_lt (call_tuple_lt (e := pairEq xs ys) (r := fun j => dataLt (xs.getD j .none) (ys.getD j .none)) h1 h2 h3 k1 k2 k3 (fun j j1 j2 => ?_) (fun j j1 j2 hj => ?_) ?_))
      · have := eqAt_alikeAll xs ys A.in1 s vs.toList vs'.toList _ _ h4 k4 hal (SeqAt.room_in hu) j (by simpa using j1) (by simpa using j2)
        simpa using this
      · have := rcLt_alikeAll xs ys A.in1 s vs.toList vs'.toList _ _ h4 k4 hal (SeqAt.room_in hu) j (by simpa using j1) (by simpa using j2) hj
        simpa using this
      · exact wpAny_truthy_bool hq
/-- what each first item is: some, or none of an empty tuple -/
theorem firsts_tup {M : Model} {E : Value → Shared → Prop} : ∀ (vs : List Value) (ds : List PyData) {Q : List (Option Value) → Shared → Prop}, EachIs (fun v d => ∃ as, Reads s.heap v d as) vs ds → (∀ d, d ∈ ds → ∃ xs, d = .tuple xs) →
    (∀ fs : List (Option Value), fs.length = vs.length → (∀ i : Nat, ds[i]? = some (.tuple []) → fs[i]? = some none) → (∀ (i : Nat) x r, ds[i]? = some (.tuple (x :: r)) → ∃ v, fs[i]? = some (some v)) → Q fs s) → wpAny M A (vs.mapM firstOfTuple') Q E s
  | _, _, Q, .nil, _, h => by rw [List.mapM_nil]; exact wpAny_pure (h [] rfl (fun i q => by simp at q) fun i x r q => by simp at q)
  | v :: vs, d :: ds, Q, .cons ⟨as, r⟩ t, ht, h => by
    obtain ⟨xs, rfl⟩ := ht d (List.mem_cons_self ..)
    rw [List.mapM_cons]
    refine wpAny_bind ?_
    rw [kas_first_eq]
    cases r with
    | @tuple a o us n _ _ ho hc hd hr =>
      refine wpAny_bind (Looks.here (show Looks M s.heap (typeOf (.ref a)) o.cls from (Looks.ld ho).andThen .now) ?_)
      rw [hc, if_neg (by first | decide | simp)]
      refine wpAny_bind (listItems_at ho hd (wpAny_pure ?_))
      refine wpAny_bind (firsts_tup vs ds t (fun d hd => ht d (List.mem_cons_of_mem _ hd)) fun fs h1 h2 h3 => wpAny_pure (h _ (by rw [List.length_cons, List.length_cons, h1]) (fun i q => ?_) fun i x r q => ?_))
      · cases i with
        | zero =>
          simp only [List.getElem?_cons_zero, Option.some.injEq] at q ⊢
          cases q
          have n1 : us.size = 0 := by simpa using SeqAt.ReadsAll.length _ _ _ hr
          exact Array.getElem?_eq_none (by omega)
        | succ i => simpa using h2 i (by simpa using q)
      · cases i with
        | zero =>
          simp only [List.getElem?_cons_zero, Option.some.injEq] at q ⊢
          cases q
          have n1 : us.size = (x :: r).length := by simpa using SeqAt.ReadsAll.length _ _ _ hr
          exact ⟨_, Array.getElem?_eq_getElem (by rw [n1]; exact Nat.succ_pos _)⟩
        | succ i => simpa using h3 i x r (by simpa using q)
theorem kind_tup {M : Model} {E : Value → Shared → Prop} {vs : List Value} {ds : List PyData} {Q : SortKind → Shared → Prop} (e : EachIs (fun v d => ∃ as, Reads s.heap v d as) vs ds) (ht : ∀ d, d ∈ ds → ∃ xs, d = .tuple xs) (hn : .tuple [] ∈ ds)
    (hg : ds[0]? ≠ some (.tuple []) → Q general' s) (h1 : ds[0]? = some (.tuple []) → Q oneType' s) : wpAny M A (keyKind' vs.toArray) Q E s := by
  rw [keyKind'_eq, List.mapM_toArray, map_eq_pure_bind]
  refine wpAny_bind (wpAny_bind (firsts_tup vs ds e ht fun fs hl hf hf2 => wpAny_pure ?_))
  obtain ⟨i, hi, ei⟩ := List.getElem_of_mem hn
  have hfi := hf i (by rw [List.getElem?_eq_getElem hi, ei])
  rw [if_neg (by
    intro q
    rw [List.all_toArray, List.all_eq_true] at q
    exact absurd (q none (List.mem_of_getElem? hfi)) (by simp))]
  cases ds with
  | nil => simp at hn
  | cons d ds =>
    obtain ⟨xs, rfl⟩ := ht d (List.mem_cons_self ..)
    cases xs with
    | cons x r =>
      obtain ⟨v, hv⟩ := hf2 0 x r rfl
      rw [if_pos (by rw [List.getElem?_toArray, hv]; rfl)]
      exact wpAny_pure (hg (by simp))
    | nil =>
      have h0 := hf 0 rfl
      rw [if_neg (by rw [List.getElem?_toArray, h0]; simp)]
      rw [oneTypeOnly'_eq, List.mapM_toArray, map_eq_pure_bind]
      refine wpAny_bind (wpAny_bind (wpAny_bind (kas_mapM (r := Value.type "tuple") _ (fun v hv Q' hq => ?_) (wpAny_pure ?_))))
      · obtain ⟨d, hd, as, r⟩ := e.left v hv
        obtain ⟨xs, rfl⟩ := ht d hd
        exact (looks_reads r).here hq
      · have hvl : 0 < vs.length := by rw [e.length]; exact Nat.succ_pos _
        have hall : ((List.map (fun _ => Value.type "tuple") vs).toArray.all fun x => x == Value.type "tuple") = true := by
          simp
        have h0 : (List.map (fun _ => Value.type "tuple") vs).toArray[0]? = some (Value.type "tuple") := by
          cases vs with
          | nil => simp at hvl
          | cons v vs => simp
        rw [h0]
        simp only [hall, if_true]
        exact wpAny_pure (wpAny_pure (h1 rfl))
theorem sortsT {vs : List Value} {ds : List PyData} (e : EachIs (fun v d => ∃ as, Reads s.heap v d as) vs ds) (hal : AllAlike ds) (hk : SortT ds) (hu : ∀ d, d ∈ ds → A.units + d.depth < cLine) : SortsAt prog w A s (dataKind s.heap ds) vs := by
  rcases hk with ht | hn
  · by_cases he : PyData.tuple [] ∈ ds
    · have room : ∀ {d d' : PyData}, d ∈ ds → A.units + min d.depth d'.depth < cLine := fun {d d'} hd => Nat.lt_of_le_of_lt (Nat.add_le_add_left (Nat.min_le_left _ _) _) (hu d hd)
      refine ⟨fun v hv => ?_, ?_⟩
      · obtain ⟨d, hd, as, r⟩ := e.left v hv
        exact ⟨_, dataKind_some hal hd r⟩
      · by_cases h0 : ds[0]? = some (.tuple [])
        · refine ⟨oneType', ?_, fun h2 E Q hq => kind_tup e ht he (fun z => absurd h0 z) fun _ => hq⟩
          intro E x y a b Q ha hb hq
          obtain ⟨d, as, hd, ra, rfl⟩ := dataKind_inv ha
          obtain ⟨d', as', hd', rb, rfl⟩ := dataKind_inv hb
          have hdd := hal d hd d' hd'
          have hr := room (d' := d') hd
          obtain ⟨xs, rfl⟩ := ht d hd
          obtain ⟨ys, rfl⟩ := ht d' hd'
          rw [keyLt'_oneType]
          exact oneLt_tup ra rb hdd hr hq
        · refine ⟨general', ?_, fun h2 E Q hq => kind_tup e ht he (fun _ => hq) fun z => absurd z h0⟩
          intro E x y a b Q ha hb hq
          obtain ⟨d, as, hd, ra, rfl⟩ := dataKind_inv ha
          obtain ⟨d', as', hd', rb, rfl⟩ := dataKind_inv hb
          have hdd := hal d hd d' hd'
          have hr := room (d' := d') hd
          obtain ⟨xs, rfl⟩ := ht d hd
          rw [keyLt'_gen]
          exact oneLt_alike (fun z => nomatch z) ra rb hdd (fun z => nomatch z) hr hq
    · refine SortsAt.data e hal (.inl fun d hd => ?_) hu
      obtain ⟨xs, rfl⟩ := ht d hd
      cases xs with
      | nil => exact absurd hd he
      | cons x r => exact ⟨x, r, rfl⟩
  · exact SortsAt.data e hal (.inr hn) hu
end
end Mi

set_option Elab.async false
set_option linter.all false
set_option maxRecDepth 100000
set_option maxHeartbeats 4000000
/-! Mi27: sorted -/
namespace Mi
open PySem PySem.Spec PySem.Calls PySem.W PyProof.Rows L2
variable [Tb]
section
variable {K : PySem.W.Frag} {U : Addr → Prop} {H : Hp}
mutual
theorem plD_dp : ∀ (d : D) (v : V), plD d = true → Rep K U H d v → Dp K H v (encD d)
  | .bl b, v, _, r => by cases r; exact .bl b
  | .int b, v, _, r => by cases r; exact .int b
  | .str b, v, _, r => by cases r; exact .str b
  | .tup ds, v, h, r => by
    obtain ⟨a, xs, rfl, ⟨h1, _⟩, rs⟩ := r
    exact .tup (h1.sq) (plDs_dp ds xs h rs)
  | .lst ds, v, h, r => by
    obtain ⟨a, xs, rfl, ⟨h1, _⟩, rs⟩ := r
    exact .lst (.of h1) (plDs_dp ds xs h rs)
  | .non, _, h, _ => by simp [plD] at h
  | .dct _ _ _, _, h, _ => by simp [plD] at h
  | .obj _ _ _, _, h, _ => by simp [plD] at h
  | .fz _, _, h, _ => by simp [plD] at h
theorem plDs_dp : ∀ (ds : List D) (vs : List V), plDs ds = true → Reps K U H ds vs → DpAll K H vs (encDs ds)
  | [], _, _, r => by cases r; exact .nil
  | d :: ds, _, h, r => by
    obtain ⟨x, xs, rfl, r1, r2⟩ := r
    simp only [plDs, Bool.and_eq_true] at h
    exact .cons (plD_dp d x h.1 r1) (plDs_dp ds xs h.2 r2)
end
end
section
variable {X : Cx} {pins : List (Addr × Obj)} {σ : L2.St} {H : Hp} {s : Shared} {U : Addr → Prop}
theorem each_of : ∀ {ds : List D} {vs : List V} {us : List Value}, Reps X.K U H ds vs → Vals vs us → EachIs (fun u d => ∃ v, RelV v u ∧ Rep X.K U H d v) us ds
  | [], _, _, r, q => by cases r; cases q; exact .nil
  | d :: ds, _, _, r, q => by
    obtain ⟨x, xs, rfl, r1, r2⟩ := r
    cases q with
    | cons q1 q2 => exact .cons ⟨x, q1, r1⟩ (each_of r2 q2)
theorem of_each : ∀ {ds : List D} {us : List Value}, EachIs (fun u d => ∃ v, RelV v u ∧ Rep X.K U H d v) us ds → ∃ vs, Reps X.K U H ds vs ∧ Vals vs us
  | _, _, .nil => ⟨[], rfl, .nil⟩
  | _, _, .cons ⟨v, q, r⟩ t => by
    obtain ⟨vs, h1, h2⟩ := of_each t
    exact ⟨v :: vs, ⟨v, vs, rfl, r, h1⟩, .cons q h2⟩
end
end Mi

set_option Elab.async false
set_option linter.all false
set_option maxRecDepth 100000
set_option maxHeartbeats 4000000
/-! Mi28: sorted, of lists and tuples -/
namespace Mi
open PySem PySem.Spec PySem.Calls PySem.W PyProof.Rows L2
variable [Tb]
section
variable {prog : Program} {w : World} {A : Around} {E : Value → Shared → Prop} {s : Shared}
/-- a list or a tuple -/
def IsSeq (h : Heap) (l : Addr) (its : Array Value) : Prop := ∃ o n T, h.get? l = some o ∧ o.cls = .type T ∧ (T = "list" ∨ T = "tuple") ∧ o.data = .seq its n
theorem collect_seq {l : Addr} {vs : List Value} {Q : List Value → Shared → Prop} (hl : IsSeq s.heap l vs.toArray)
    (h : Q vs { s with heap := (s.heap.push (seqObj "list" #[] 0)).update s.heap.objs.size (Obj.mapSeq (· ++ vs.toArray)) }) (hsz : vs.length ≤ sizeLine) :
    wpAny (model prog w) A (collect (.ref l)) Q E s := by
  obtain ⟨o, n, T, ho, hc, hT, hd⟩ := hl
  unfold collect
  refine wpAny_bind (wpAny_runValue (codeAny_builtin entry_proto_collect' ?_))
  show wpAny _ _ (do again (.builtin "list.__iadd__" ⟨[← newList [], .ref l], []⟩)) _ _ s
  refine wpAny_bind (wpAny_newList (wpAny_pure ⟨Code.quiet_builtin _ (by decide +kernel), codeAny_builtin entry_list_iadd' ?_⟩))
  show wpAny _ _ (Builtin.List.listExtendWith (.ref s.heap.objs.size) (.ref l) (.ref s.heap.objs.size)) _ _ { s with heap := s.heap.push (seqObj "list" #[] 0) }
  unfold Builtin.List.listExtendWith
  have ho' : (s.heap.push (seqObj "list" #[] 0)).get? l = some o := Heap.get?_push_of_some _ ho
  refine wpAny_bind (wpAny_typeOf (T := T) ⟨o, ho', hc⟩ ?_)
  have h1 : (Value.type "list" == Value.type "list") = true := by rfl
  have h2 : (Value.type "tuple" == Value.type "tuple") = true := by rfl
  rw [if_pos (by rcases hT with rfl | rfl <;> simp [h1, h2])]
  refine wpAny_bind (listItems_at ho' hd ?_)
  refine wpAny_bind (listItems_at (xs := #[]) (n := 0) (Heap.get?_push_size _ rfl) rfl ?_)
  rw [if_neg (by simp)]
  refine wpAny_bind (listUpdate_at (xs := #[]) (n := 0) (Heap.get?_push_size _ rfl) rfl ?_ (Nat.zero_le _) (by show (#[] ++ vs.toArray).size ≤ sizeLine + 1; simp only [Array.size_append, List.size_toArray, List.length_nil]; omega))
  refine wpAny_pure ?_
  show wpAny (model prog w) A (do
      let o ← load s.heap.objs.size
      match o.data with
      | .seq xs _ => pure xs.toList
      | _ => unsupported "internal:collect") Q E { s with heap := (s.heap.push (seqObj "list" #[] 0)).update s.heap.objs.size (Obj.mapSeq (· ++ vs.toArray)) }
  refine wpAny_bind (wpAny_load (get?_update_seq (Heap.get?_push_size _ rfl) _) ?_)
  show wpAny _ _ (pure ((#[] : Array Value) ++ vs.toArray).toList) Q E _
  rw [show ((#[] : Array Value) ++ vs.toArray).toList = vs by simp]
  exact wpAny_pure h
theorem sorted_seq {l : Addr} {vs : List Value} {κ : KeyKind} {Q : Value → Shared → Prop} (hl : IsSeq s.heap l vs.toArray) (S : SortsAt prog w A.in1.in1 { s with heap := sortingHeap (copyHeap s.heap vs) (s.heap.objs.size + 1) vs } κ vs) (hL : vs.length ≤ sizeLine)
    (h : Q (.ref (s.heap.objs.size + 1)) { s with heap := sortedAll s.heap vs (sortVals κ false vs vs).toArray }) : wpAny (model prog w) A (call (.builtin "sorted") [.ref l]) Q E s := by
  refine call_function_entry kind_sorted plain_sorted entry_sorted (args_sorted1 _) ?_
  unfold Builtin.«sorted»
  refine wpAny_bind (m := checkCount "sorted" 1 1 _) (wpAny_pure ?_)
  refine wpAny_bind (collect_seq hl ?_ hL)
  refine wpAny_bind (wpAny_newList ?_ hL)
  have hsz : ((s.heap.push (seqObj "list" #[] 0)).update s.heap.objs.size (Obj.mapSeq (· ++ vs.toArray))).objs.size = s.heap.objs.size + 1 := by
    rw [Heap.size_update, size_push']
  show wpAny _ _ _ _ _ { s with heap := copyHeap s.heap vs }
  rw [hsz]
  refine wpAny_bind (wpAny_holding (wpAny_call_entry_kw slot_list_sort ⟨_, copyHeap_at s.heap vs, rfl⟩ entry_list_sort ?body (args_list_sort _)))
  case body =>
    show wpAny (model prog w) A.in1.in1 (Builtin.«list.sort» ⟨[.ref (s.heap.objs.size + 1)], []⟩) _ _ _
    exact list_sort_vals (s := { s with heap := copyHeap s.heap vs }) (copyHeap_at s.heap vs) S hL ⟨_, rfl, wpAny_pure ⟨_, rfl, h⟩⟩
end
def rSortM (K : PySem.W.Frag) : List V → Hp → VK → Prop := fun vs H Q => ∃ (U : Addr → Prop) (a : Addr) (xs : List V) (ds : List D), Al U H ∧ vs = [V.ref a] ∧ (SqL K H a xs ∨ SqT K H a xs) ∧ Reps K U H ds xs ∧ sortOk ds = true ∧
  ∀ (ys : List V) (p : Addr), Reps K U H (ds.mergeSort leD) ys → H p = none → Q (.ref p) (upd H p (.lst ys))
theorem sortOk_of {ds : List D} (h : sortOk ds = true) : plDs ds = true ∧ AllAlike (ds.map encD) ∧ SortT (ds.map encD) ∧ ∀ d ∈ ds, (encD d).depth ≤ 8 := by
  simp only [sortOk, Bool.and_eq_true, List.all_eq_true, Bool.or_eq_true, decide_eq_true_eq] at h
  obtain ⟨⟨⟨h1, h2⟩, h3⟩, h4⟩ := h
  refine ⟨h1, fun d hd d' hd' => ?_, ?_, h4⟩
  · obtain ⟨x, hx, rfl⟩ := List.mem_map.mp hd
    obtain ⟨y, hy, rfl⟩ := List.mem_map.mp hd'
    exact h2 x hx y hy
  · have pl : ∀ d ∈ ds, plD d = true := by
      clear h2 h3 h4
      induction ds with
      | nil => intro d hd; cases hd
      | cons e ds ih =>
        simp only [plDs, Bool.and_eq_true] at h1
        intro d hd
        rcases List.mem_cons.mp hd with rfl | hd
        · exact h1.1
        · exact ih h1.2 d hd
    rcases h3 with h3 | h3
    · refine .inl fun d hd => ?_
      obtain ⟨x, hx, rfl⟩ := List.mem_map.mp hd
      have := h3 x hx
      cases x <;> simp [isTp] at this
      exact ⟨_, by rw [encD]⟩
    · refine .inr fun d hd => ?_
      obtain ⟨x, hx, rfl⟩ := List.mem_map.mp hd
      have h5 := h3 x hx
      have h6 := pl x hx
      cases x <;> simp [isTp, plD, encD] at h5 h6 ⊢
section
variable {X : Cx}
theorem seq_list {h : Heap} {a : Addr} {its : Array Value} (p : h.IsList a its) : IsSeq h a its := by
  obtain ⟨o, ho, hc, n, hd⟩ := p
  exact ⟨o, n, "list", ho, hc, .inl rfl, hd⟩
theorem seq_tup {h : Heap} {a : Addr} {its : Array Value} (p : h.IsTuple a its) : IsSeq h a its := by
  obtain ⟨o, ho, hc, n, hd⟩ := p
  exact ⟨o, n, "tuple", ho, hc, .inr rfl, hd⟩
theorem cr_sortM (hu : X.A.units + 64 < cLine) : CallR X (.builtin "sorted") (rSortM X.K) := by
  intro pins s σ H vs us Q I r h
  obtain ⟨U, a, xs, ds, al, rfl, hs, rs, ok, q⟩ := h
  obtain ⟨hp, hal, hk, hd8⟩ := sortOk_of ok
  obtain ⟨its, rv, hl, hlen⟩ : ∃ its : List Value, Vals xs its ∧ IsSeq s.heap a its.toArray ∧ xs.length ≤ sizeLine := by
    rcases hs with hs | hs
    · obtain ⟨its, rv, hl, hz⟩ := I.list hs
      exact ⟨its, rv, seq_list hl.isList, hz⟩
    · obtain ⟨its, rv, hl, hz⟩ := I.tuple hs
      exact ⟨its, rv, seq_tup hl, hz⟩
  rw [Vals.ref1 r]
  have hn := rv.length
  have e := each_of rs rv
  have er0 : EachIs (fun u d => ∃ as, Reads s.heap u (encD d) as) its ds := by
    have : ∀ {ds : List D} {vs : List V} {us : List Value}, plDs ds = true → Reps X.K U H ds vs → Vals vs us → EachIs (fun u d => ∃ as, Reads s.heap u (encD d) as) us ds := by
      intro ds
      induction ds with
      | nil => intro vs us _ r q; cases r; cases q; exact .nil
      | cons d ds ih =>
        intro vs us h r q
        obtain ⟨x, xs, rfl, r1, r2⟩ := r
        simp only [plDs, Bool.and_eq_true] at h
        cases q with
        | cons q1 q2 => exact .cons (Dp.reads I _ _ _ (plD_dp d x h.1 r1) q1) (ih h.2 r2 q2)
    exact this hp rs rv
  have er : EachIs (fun u d => ∃ as, Reads (sortingHeap (copyHeap s.heap its) (s.heap.objs.size + 1) its) u (encD d) as) its ds := er0.mono fun _ _ ⟨as, r⟩ => ⟨as, PyProof.Rows.Reads.keeps (fun _ _ => sorting_copy_old) r⟩
  refine sorted_seq hl (sortsT (s := { s with heap := sortingHeap (copyHeap s.heap its) (s.heap.objs.size + 1) its }) (each_map (R := fun v d => ∃ as, Reads (sortingHeap (copyHeap s.heap its) (s.heap.objs.size + 1) its) v d as) encD er) hal hk (bound_map fun d hd => ?_)) (by omega) ?_
  · have := hd8 d hd
    have e1 : X.A.in1.in1.units = X.A.units + 2 := rfl
    omega
  · have ev := sortVals_data false e er hal
    obtain ⟨ys, h1, h2⟩ := of_each ev
    obtain ⟨ep, he'⟩ := PyProof.Rows.sortedAll_at s.heap its (sortVals (dataKind (sortingHeap (copyHeap s.heap its) (s.heap.objs.size + 1) its) (ds.map encD)) false its its).toArray
    have hlen2 : ys.length ≤ sizeLine := by
      have e1 := h1.len
      have e2 := rs.len
      have e3 : (ds.mergeSort (dataLe false encD)).length = ds.length := List.length_mergeSort ds
      omega
    exact ⟨.ref _, upd H (s.heap.objs.size + 1) (.lst ys), I.laid (t' := s.toks) (fun _ _ => PyProof.Rows.sortedAll_old) (Nat.le_succ _) ⟨hlen2, _, ep, h2, he'⟩, rfl, q ys _ h1 (I.hok.fresh (Nat.le_succ _))⟩
end
theorem n_sort {K : PySem.W.Frag} : SndN K gSort (rSortM K) := by
  intro U H xs ds z Q al r hz q
  match ds, hz, r with
  | [], hz, _ => cases hz
  | _ :: _ :: _, hz, _ => simp [gSort] at hz
  | [d], hz, r =>
    obtain ⟨x, rfl, rx⟩ := r.one
    cases d with
    | lst ds =>
      simp only [gSort] at hz
      split at hz
      · rename_i ok
        cases hz
        obtain ⟨a, vs, rfl, h, _, rs⟩ := rx.lst_sq
        exact ⟨U, a, vs, ds, al, rfl, .inl (.of h), rs, ok, fun ys p r hp => q _ _ (same_new hp) (rep_lst_new al hp r)⟩
      · cases hz
    | tup ds =>
      simp only [gSort] at hz
      split at hz
      · rename_i ok
        cases hz
        obtain ⟨a, vs, rfl, h, _, rs⟩ := rx.tup_sq
        exact ⟨U, a, vs, ds, al, rfl, .inr (h.sq), rs, ok, fun ys p r hp => q _ _ (same_new hp) (rep_lst_new al hp r)⟩
      · cases hz
    | _ => simp [gSort] at hz
end Mi

set_option Elab.async false
set_option linter.all false
set_option maxRecDepth 100000
set_option maxHeartbeats 4000000
/-! Mi29: sum of lists and tuples -/
namespace Mi
open PySem PySem.Spec PySem.Calls PySem.W PyProof.Rows L2
variable [Tb]
section
variable {prog : Program} {w : World} {A : Around} {E : Value → Shared → Prop} {s : Shared}
end
end Mi

set_option Elab.async false
set_option linter.all false
set_option maxRecDepth 100000
set_option maxHeartbeats 4000000
/-! Mi30: properties -/
namespace Mi
open PySem PySem.Spec PyProof.Rows L2
variable [Tb]
section
variable {X : Cx} {W : WX} {k : Nat} {C p g a dx : Addr} {fs : List (Str × V)} {f : Str} {fd : FuncData} {ps : List Str} {sp : Sp} {e : Expr} {pos : Pos} {ta : TE}
theorem in1_guards {A : Around} : A.in1.guards = A.guards := rfl
end
/-- o.f, a property that raises nothing; o a value -/
def xProp (c : Str) (m : En → Rs D) (mo : En → Rs D) : En → Rs D := fun env => (mo env).bind fun d e1 => match d with
  | .obj c' _ _ => if c' = c then callV0 m [d] e1 else .bad
  | _ => .bad
section
variable {X : Cx} {W : WX} {k i : Nat} {c f : Str} {p g : Addr} {fd : FuncData} {ps : List Str} {o : Expr} {pos : Pos} {m mo : En → Rs D}
end
end Mi

set_option Elab.async false
set_option linter.all false
set_option maxRecDepth 100000
set_option maxHeartbeats 4000000
/-! Mi31: a hook that tells of properties, and of any further Bool -/
namespace Mi
open PySem PySem.Spec PyProof.Rows L2 He
variable [Tb]
/-! ### the hook -/
section
variable {fa : List Fa} {fn : List DefD} {ps : List AtD} {ex : PySem.W.Frag → Bool} {K : PySem.W.Frag}
theorem SaysP.fact (c : SaysP fa fn ps ex K) (i : Nat) {f : Fa} (h : fa[i]? = some f := by rfl) : f.ok K = true := c.d.fact i h
theorem SaysP.def_ (c : SaysP fa fn ps ex K) (i : Nat) {d : DefD} (h : fn[i]? = some d := by rfl) : ∃ fd, FunD K d.name d.qual d.params d.body d.scope (d.dvs K) (d.kws K) (fAd K d.at_) fd := c.d.def_ i h
theorem SaysP.more (c : SaysP fa fn ps ex K) : ex K = true := (ba (congrArg (fun z : AlP => z.2.1) c.eq)).2
end
end Mi

set_option Elab.async false
set_option linter.all false
set_option maxRecDepth 100000
set_option maxHeartbeats 4000000
/-! Mi32: dict(zip(a, b)), over lists, tuples and texts -/
namespace Mi
open PySem PySem.Spec PyProof.Rows L2
variable [Tb]
section
variable {prog : Program} {w : World} {A : Around} {E : Value → Shared → Prop} {s : Shared} {z TI TO T i1 i2 : Addr} {f : Bool} {oT : Obj} {fp1 fp2 : List Addr} {n1 n2 i : Nat} {P1 P2 : Nat → Value → Prop} {St1 St2 : Nat → Heap → Prop}
end
end Mi

set_option Elab.async false
set_option linter.all false
set_option maxRecDepth 100000
set_option maxHeartbeats 4000000
/-! Mi33: dict(zip(a, b)) in the layer -/
namespace Mi
open PySem PySem.Spec PyProof.Rows L2
variable [Tb]
section
variable {X : Cx} {pins : List (Addr × Obj)} {σ : L2.St} {H : Hp} {s : Shared}
end
end Mi

set_option Elab.async false
set_option linter.all false
set_option maxRecDepth 100000
set_option maxHeartbeats 4000000
/-! Mi34: dicts made by dict(..); targets in tuples; isinstance with own classes -/
namespace Mi
open PySem PySem.Spec L2
variable [Tb]
/-! ### new objects made by calls -/
def xNF (g : List D → Option Ob) (ma : En → Rs (List D)) : En → Rs Ob := fun env => (ma env).bind fun ds e => .of (g ds) e
section
variable {X : Cx} {W : WX} {e : Expr} {es : List Expr} {ma : En → Rs (List D)} {k : Nat} {pos : Pos}
end
/-! ### pairs -/
def keyPairs : List D → List D → Option (List (Key × D))
  | k :: ks, d :: ds => match keyOf k, keyPairs ks ds with
    | some k, some r => some ((k, d) :: r)
    | _, _ => none
  | _, _ => some []
def tupPairs : List D → Option (List (Key × D))
  | [] => some []
  | .tup [k, d] :: ds => match keyOf k, tupPairs ds with
    | some k, some r => some ((k, d) :: r)
    | _, _ => none
  | _ => none
def dctOf (ps : List (Key × D)) : List Ky × List D := ps.foldl (fun a p => putKy (kyOf p.1) p.2 a.1 a.2) ([], [])
section
variable {K : PySem.W.Frag} {U : Addr → Prop} {H : Hp}
end
/-! ### dict(zip(a, b)) -/
def gZipD : List D → Option Ob
  | [c, d] => match iterL c, iterL d with
    | some a, some b => (keyPairs a b).bind fun ps => if ps.length ≤ 4000 then some (.dct false (dctOf ps).1 (dctOf ps).2) else none
    | _, _ => none
  | _ => none
where iterL : D → Option (List D)
  | .lst ds => some ds
  | .tup ds => some ds
  | _ => none
section
variable {X : Cx} {W : WX} {e e2 : Expr} {ma : En → Rs (List D)} {p p2 pos pos2 : Pos}
end
/-! ### dict(l), l a list of pairs or a dict -/
def gDictL : List D → Option Ob
  | [.lst ds] => (tupPairs ds).bind fun ps => if ps.length ≤ 4000 then some (.dct false (dctOf ps).1 (dctOf ps).2) else none
  | [.dct false ks vs] => some (.dct false ks vs)
  | _ => none
/-! ### a[k], .. = .. -/
def gStoK (i : Nat) (g : Ob → D → D → Option Ob) (kd : D) : D → En → Option En := fun d env => match env[i]? with
  | some s => match s.ob with
    | some o => (g o kd d).map fun o' => env.set i (s.put o')
    | none => none
  | none => none
/-! ### own classes: what isinstance asks -/
section
variable {K : PySem.W.Frag} {cs : List Str} {U : Addr → Prop} {H : Hp}
/-- isinstance(e, c), c an own class -/
def isOwnD (cs : List Str) (c : Str) : D → Option Bool
  | .obj c' _ _ => if c' ∈ cs ∧ c ∈ cs then some (decide (c' = c)) else none
  | .fz _ => none
  | .exn _ _ _ _ => none
  | .dct true _ _ => none
  | _ => if c ∈ cs then some false else none
/-- isinstance(e, T), T built in, e maybe of an own class -/
def isAnyD (cs : List Str) (f : D → Option Bool) : D → Option Bool
  | .obj c _ _ => if c ∈ cs then some false else none
  | d => f d
end
section
variable {X : Cx} {W : WX} {a c : Expr} {m : En → Rs D} {pos p : Pos} {cs : List Str} {T : String} {f : D → Option Bool} {cn : Str}
end
end Mi

set_option Elab.async false
set_option linter.all false
set_option maxRecDepth 100000
set_option maxHeartbeats 4000000
/-! Mi35: a, b = .. with new objects; sorted of a dict -/
namespace Mi
open PySem PySem.Spec PyProof.Rows L2
variable [Tb]
section
variable {K : PySem.W.Frag} {U : Addr → Prop} {env e1 e2 : En} {σ : L2.St} {H H1 H2 : Hp} {o : Ob} {p : Addr}
theorem Fre.own2 {i : Nat} {e3 : En} (sa : SA K U env σ H) (f : Fre K U env σ H e1 H1 o p) (h : ownAt i o e1 = some e3) : Ste K U env σ H e3 (σ.set i (some (.ref p))) H1 ∧ ∀ d v, Rep K (Ux (Up U p) e1 σ) H1 d v → Rep K (Ux U e3 (σ.set i (some (.ref p)))) H1 d v := by
  unfold ownAt at h
  cases hi : e1[i]? with
  | none => rw [hi] at h; cases h
  | some s =>
    rw [hi] at h
    have hl := (List.getElem?_eq_some_iff.mp hi).1
    have key : (∀ o, e1[i]? ≠ some (.io o)) → e3 = e1.set i (.ow o) → Ste K U env σ H e3 (σ.set i (some (.ref p))) H1 ∧ ∀ d v, Rep K (Ux (Up U p) e1 σ) H1 d v → Rep K (Ux U e3 (σ.set i (some (.ref p)))) H1 d v := by
      rintro n rfl
      refine ⟨f.own sa hl n, fun d v r => Rep.to (fun _ _ _ q => q) (fun x u nx _ q => nx ?_) d v r⟩
      refine ux_up.mpr (q.elim (fun z => .inl (.inl z)) fun c => ?_)
      obtain ⟨j, s', q', h1, h2, h3⟩ := c
      by_cases e : i = j
      · subst e
        rw [List.getElem?_set_self (by rw [← f.sa.len]; exact hl)] at h3
        cases h3
        exact .inr rfl
      · rw [List.getElem?_set_ne e] at h1 h3
        exact .inl (.inr ⟨j, s', q', h1, h2, h3⟩)
    cases s with
    | io o' => cases h
    | un => cases h; exact key (fun o q => by rw [hi] at q; cases q) rfl
    | v d => cases h; exact key (fun o q => by rw [hi] at q; cases q) rfl
    | ow d => cases h; exact key (fun o q => by rw [hi] at q; cases q) rfl
end
def mParVF (i j : Nat) (m : En → Rs D) (n : En → Rs Ob) : En → Rs Fl := fun env => (m env).bind fun d e1 => (n e1).bind fun o e2 => match (ownAt j o e2).bind (gSet i d) with
  | some e3 => .ok .nx e3
  | none => .bad
def mParFV (i j : Nat) (n : En → Rs Ob) (m : En → Rs D) : En → Rs Fl := fun env => (n env).bind fun o e1 => (m e1).bind fun d e2 => match (ownAt i o e2).bind (gSet j d) with
  | some e3 => .ok .nx e3
  | none => .bad
section
variable {X : Cx} {W : WX} {st : Stmt} {x1 x2 : Expr} {i j : Nat} {m : En → Rs D} {n n2 : En → Rs Ob}
end
/-! ### sorted(d) -/
theorem sortedS_pw : ∀ {l : List Str}, sortedS l = true → l.Pairwise fun a b => ¬ (b.cps.toList < a.cps.toList)
  | [], _ => .nil
  | [x], _ => by simp
  | x :: y :: r, h => by
    have h : (!ltCps y.cps.toList x.cps.toList && risingS y r) = true := h
    rw [Bool.and_eq_true, Bool.not_eq_true', ltCps_eq, decide_eq_false_iff_not] at h
    have ih := sortedS_pw (l := y :: r) h.2
    refine .cons (fun z hz => ?_) ih
    rcases List.mem_cons.mp hz with rfl | hz
    · exact h.1
    · have h2 := List.rel_of_pairwise_cons ih hz
      intro q
      exact h2 (Std.lt_of_lt_of_le q (Std.not_lt.mp h.1))
theorem str_eq {a b : Str} (h1 : ¬ (b.cps.toList < a.cps.toList)) (h2 : ¬ (a.cps.toList < b.cps.toList)) : a = b := by
  have e : a.cps.toList = b.cps.toList := Std.le_antisymm (Std.not_lt.mp h1) (Std.not_lt.mp h2)
  cases a; cases b
  simp at e
  rw [e]
theorem sortedS_uniq {ys ks : List Str} (p : ys.Perm ks) (h1 : sortedS ys = true) (h2 : sortedS ks = true) : ys = ks :=
  List.Perm.eq_of_pairwise (le := fun a b : Str => ¬ (b.cps.toList < a.cps.toList)) (fun a b _ _ q1 q2 => str_eq q1 q2) (sortedS_pw h1) (sortedS_pw h2) p
def rSortX (K : PySem.W.Frag) : List V → Hp → VK → Prop := fun xs H Q => rSortM K xs H Q ∨ ∃ (a : Addr) (kvs : List (Key × V)) (ks : List Str), xs = [.ref a] ∧ Rd H a (.dK kvs) ∧ kvs.map (·.1) = ks.map Sum.inr ∧ ks.length < 64 ∧
    ∀ ys p, ys.Perm ks → sortedS ys = true → H p = none → Q (.ref p) (upd H p (.lst (ys.map V.str)))
theorem cr_sortX {X : Cx} (hc : X.calm = true) (hu : X.A.units + 64 < cLine) : CallR X (.builtin "sorted") (rSortX X.K) := by
  intro pins s σ H xs us Q I r h
  rcases h with h | h
  · exact cr_sortM hu pins s σ H xs us Q I r h
  · exact call_sortedD hc pins s σ H xs us Q I r h
theorem strKs_v : ∀ {ks : List Ky} {t : List Str} {kvs : List (Key × V)}, strKs ks = some t → ks.map kyK = kvs.map (fun p => some p.1) → kvs.map (·.1) = t.map Sum.inr
  | [], t, kvs, h, e => by
    cases h
    cases kvs with
    | nil => rfl
    | cons p r => simp at e
  | k :: ks, t, [], h, e => by simp at e
  | k :: ks, t, p :: kvs, h, e => by
    cases k with
    | str x =>
      simp only [strKs, Option.map_eq_some_iff] at h
      obtain ⟨t', h', rfl⟩ := h
      simp only [List.map_cons, List.cons.injEq] at e
      rw [List.map_cons, List.map_cons, strKs_v h' e.2]
      have := e.1
      simp only [kyK, Option.some.injEq] at this
      rw [← this]
    | _ => simp [strKs] at h
theorem n_sortX {K : PySem.W.Frag} : SndN K gSortX (rSortX K) := by
  intro U H xs ds z Q al r hz q
  have old : gSort ds = some z → rSortX K xs H Q := fun h => .inl (n_sort U H xs ds z Q al r h q)
  match ds, hz, r with
  | [.dct false ks vs], hz, r =>
    simp only [gSortX, Option.bind_eq_some_iff, Option.ite_none_right_eq_some] at hz
    obtain ⟨t, ht, ⟨hl, hs⟩, hz⟩ := hz
    cases hz
    obtain ⟨x, rfl, rx⟩ := r.one
    obtain ⟨a, ws, rfl, nu, ⟨kvs, h1, h2, rfl⟩, rs⟩ := rx
    refine .inr ⟨a, kvs, t, rfl, h1, strKs_v ht h2, hl, fun ys p pm so hp => ?_⟩
    rw [sortedS_uniq pm so hs]
    exact q _ _ (same_new hp) (rep_lst_new al hp (reps_strs t))
  | [], hz, r => exact old hz
  | [.dct true _ _], hz, r => exact old hz
  | [.non], hz, r => exact old hz
  | [.bl _], hz, r => exact old hz
  | [.int _], hz, r => exact old hz
  | [.str _], hz, r => exact old hz
  | [.tup _], hz, r => exact old hz
  | [.lst _], hz, r => exact old hz
  | [.obj _ _ _], hz, r => exact old hz
  | [.fz _], hz, r => exact old hz
  | _ :: _ :: _, hz, r => exact old (by simpa [gSortX] using hz)
end Mi

set_option Elab.async false
set_option linter.all false
set_option maxRecDepth 100000
set_option maxHeartbeats 4000000
/-! Mi36: objects made, methods called, by keywords -/
namespace Mi
open PySem PySem.Spec L2
variable [Tb]
def xPick (pm : List Nat) (mq : En → Rs (List D)) : En → Rs (List D) := fun env => (mq env).bind fun as e => .ok (pick pm as) e
section
variable {X : Cx} {W : WX} {e : Expr} {kws : List Keyword} {m : En → Rs D} {mq : En → Rs (List D)} {n : Nat} {nm : Option Str} {kpos : Pos}
end
section
variable {K : PySem.W.Frag} {U : Addr → Prop} {H : Hp}
theorem Reps.pick {ds : List D} {vs : List V} (h : Reps K U H ds vs) : ∀ pm : List Nat, Reps K U H (Mi.pick pm ds) (Mi.pick pm vs)
  | [] => rfl
  | j :: pm => by
    have ih := Reps.pick h pm
    unfold Mi.pick at ih ⊢
    rw [List.filterMap_cons, List.filterMap_cons]
    cases ha : ds[j]? with
    | none =>
      have : vs[j]? = none := by
        rw [List.getElem?_eq_none_iff] at ha ⊢
        rw [h.len]
        exact ha
      rw [this]
      exact ih
    | some d =>
      obtain ⟨v, hv, q⟩ := h.get ha
      rw [hv]
      exact ⟨v, _, rfl, q, ih⟩
end
/-! ### C(k = e, ..) -/
section
variable {X : Cx} {W : WX} {k n : Nat} {C f : Addr} {fd : FuncData} {ps ks : List Str} {pm : List Nat} {sp : Sp}
end
section
variable {X : Cx} {W : WX} {k n : Nat} {c x : Str} {f : Addr} {fd : FuncData} {ps ks : List Str} {pm : List Nat} {p pos : Pos} {kws : List Keyword} {m : En → Rs D} {ma : En → Rs (List D)}
end
/-! ### o.nm(k = e, ..) -/
section
variable {X : Cx} {W : WX} {k : Nat} {C f : Addr} {fd : FuncData} {ps ks : List Str} {pm : List Nat} {sp : Sp} {nm : Str} {o : Expr} {kws : List Keyword} {apos pos : Pos} {ta : TE} {t : TA}
end
section
variable {X : Cx} {W : WX} {k n : Nat} {c nm : Str} {f : Addr} {fd : FuncData} {ps ks : List Str} {pm : List Nat} {o : Expr} {kws : List Keyword} {apos pos : Pos} {m mo : En → Rs D} {ma : En → Rs (List D)}
end
end Mi

set_option Elab.async false
set_option linter.all false
set_option maxRecDepth 100000
set_option maxHeartbeats 4000000
/-! Mi37: divmod by wide divisors -/
namespace Mi
open PySem PySem.Spec L2
variable [Tb]
def gDivmodW : List D → Option D
  | [.int i, .int j] => if 0 < j ∧ j.natAbs.log2 < 100 then some (.tup [.int (i / j), .int (i % j)]) else none
  | _ => none
end Mi

set_option Elab.async false
set_option linter.all false
set_option maxRecDepth 100000
set_option maxHeartbeats 4000000
/-! Mi38: defs that return a new object and change what they are handed -/
namespace Mi
open PySem PySem.Spec L2
variable [Tb]
section
variable {K : PySem.W.Frag} {U : Addr → Prop} {args env' : En} {σ0 σ' : St} {H H' : Hp} {n : Nat} {p : Addr}
end
section
variable {K : PySem.W.Frag} {U U' : Addr → Prop} {env : En} {σ : St} {H : Hp} {as : List Ar} {vs : List V}
end
/-! ### the promise of such a def -/
def mDefO (n N : Nat) (mb : En → Rs Ob) : En → Rs Ob := fun args => match mb (args ++ List.replicate (N - n) .un) with
  | .ok o env => .ok o (mergeA args env)
  | .er x env => .er x (mergeA args env)
  | .bad => .bad
def xCallO (m : En → Rs Ob) (ma : En → Rs (List Ar)) : En → Rs Ob := fun env => (ma env).bind fun as env1 =>
  if (inrs as).Nodup then (match mkArgs env1 as with
    | none => .bad
    | some args => match m args with
      | .ok o args' => .ok o (putBack env1 as args')
      | .er x args' => .er x (putBack env1 as args')
      | .bad => .bad) else .bad
section
variable {X : Cx} {W : WX} {k n : Nat} {f : Addr} {fd : FuncData} {ps : List Str} {x : Str} {p pos : Pos} {e : Expr} {es : List Expr} {m : En → Rs Ob} {mq : En → Rs (List Ar)}
end
end Mi

set_option Elab.async false
set_option linter.all false
set_option maxRecDepth 100000
set_option maxHeartbeats 4000000
/-! Mi39: the larger and the smaller of two texts; of a list of ints -/
namespace Mi
open PySem PySem.Spec L2
variable [Tb]
section
variable {prog : Program} {w : World} {A : Around} {E : Value → Shared → Prop} {s : Shared}
def strV : Value → Str
  | .str x _ => x
  | _ => ""
theorem cmpS_gt (vs : Array Value) (hn : ∀ v ∈ vs, ∃ x t, v = .str x t) :
    CmpOf prog w A .Gt (fun i v => vs[i]? = some v) (fun i j => sLt (strV (vs.getD j .none)) (strV (vs.getD i .none))) := fun i j vi vj s Q E hi hj h => by
  have e1 : vs.getD i .none = vi := by simp [Array.getD_eq_getD_getElem?, hi]
  have e2 : vs.getD j .none = vj := by simp [Array.getD_eq_getD_getElem?, hj]
  simp only [e1, e2] at h
  obtain ⟨x, t, rfl⟩ := hn _ (Array.mem_of_getElem? hi)
  obtain ⟨y, t', rfl⟩ := hn _ (Array.mem_of_getElem? hj)
  exact PySem.P.gt_str h
theorem cmpS_lt (vs : Array Value) (hn : ∀ v ∈ vs, ∃ x t, v = .str x t) :
    CmpOf prog w A .Lt (fun i v => vs[i]? = some v) (fun i j => sLt (strV (vs.getD i .none)) (strV (vs.getD j .none))) := fun i j vi vj s Q E hi hj h => by
  have e1 : vs.getD i .none = vi := by simp [Array.getD_eq_getD_getElem?, hi]
  have e2 : vs.getD j .none = vj := by simp [Array.getD_eq_getD_getElem?, hj]
  simp only [e1, e2] at h
  obtain ⟨x, t, rfl⟩ := hn _ (Array.mem_of_getElem? hi)
  obtain ⟨y, t', rfl⟩ := hn _ (Array.mem_of_getElem? hj)
  exact PyProof.Rows.lt_str h
theorem max_two_str {Q : Value → Shared → Prop} {x y : Str} {t t' : Tok} (hh : A.handled = none)
    (h : ∀ h' tk, (∀ c o, s.heap.get? c = some o → h'.get? c = some o) → Q (if sLt x y then .str y t' else .str x t) { s with heap := h', toks := tk }) :
    wpAny (model prog w) A (call (.builtin "max") [.str x t, .str y t']) Q E s := by
  have hT : (s.heap.push { cls := .type "tuple", data := .seq #[.str x t, .str y t'] }).IsTuple s.heap.objs.size #[.str x t, .str y t'] := ⟨_, Heap.get?_push_size _ rfl, rfl, 0, rfl⟩
  refine call_max_two (wpAny_pyIter_tuple hT ?_)
  have hsz : (s.heap.push { cls := .type "tuple", data := .seq #[.str x t, .str y t'] }).objs.size = s.heap.objs.size + 1 := Heap.size_push ..
  refine ⟨_, [_, s.heap.objs.size], [_], _, _, _, _, rfl, Walks.tuple (A := A.in1) hh _ s.heap.objs.size (by rw [hsz]; exact Nat.ne_of_lt (Nat.lt_succ_self _)) #[.str x t, .str y t'],
    ⟨⟨_, Heap.get?_push_size _ rfl, rfl, rfl⟩, hT.push _⟩, fun c hc => ?_, by simp, cmpS_gt #[.str x t, .str y t'] (by simp), fun v h' tk hP hk => ?_⟩
  · show c < ((s.heap.push _).push _).objs.size
    rw [Heap.size_push, hsz]
    rcases List.mem_cons.mp hc with rfl | hc
    · rw [hsz]; exact Nat.lt_succ_self _
    · rcases List.mem_cons.mp hc with rfl | hc
      · exact Nat.lt_succ_of_lt (Nat.lt_succ_self _)
      · cases hc
  · have hold : ∀ c o, s.heap.get? c = some o → h'.get? c = some o := fun c o e => by
      refine hk c o (fun hm => ?_) (Heap.get?_push_of_some _ (Heap.get?_push_of_some _ e))
      rcases List.mem_cons.mp hm with e1 | hm
      · have := Heap.lt_size e; rw [e1, hsz] at this; exact Nat.lt_irrefl _ (Nat.lt_of_succ_lt this)
      · cases hm
    have := h h' tk hold
    have hv : v = if sLt x y then .str y t' else .str x t := by
      cases hc : sLt x y <;> simp [argBest, strV, hc] at hP <;> simp [hP]
    rw [hv]; exact this
theorem min_two_str {Q : Value → Shared → Prop} {x y : Str} {t t' : Tok} (hh : A.handled = none)
    (h : ∀ h' tk, (∀ c o, s.heap.get? c = some o → h'.get? c = some o) → Q (if sLt y x then .str y t' else .str x t) { s with heap := h', toks := tk }) :
    wpAny (model prog w) A (call (.builtin "min") [.str x t, .str y t']) Q E s := by
  have hT : (s.heap.push { cls := .type "tuple", data := .seq #[.str x t, .str y t'] }).IsTuple s.heap.objs.size #[.str x t, .str y t'] := ⟨_, Heap.get?_push_size _ rfl, rfl, 0, rfl⟩
  refine call_min_two (wpAny_pyIter_tuple hT ?_)
  have hsz : (s.heap.push { cls := .type "tuple", data := .seq #[.str x t, .str y t'] }).objs.size = s.heap.objs.size + 1 := Heap.size_push ..
  refine ⟨_, [_, s.heap.objs.size], [_], _, _, _, _, rfl, Walks.tuple (A := A.in1) hh _ s.heap.objs.size (by rw [hsz]; exact Nat.ne_of_lt (Nat.lt_succ_self _)) #[.str x t, .str y t'],
    ⟨⟨_, Heap.get?_push_size _ rfl, rfl, rfl⟩, hT.push _⟩, fun c hc => ?_, by simp, cmpS_lt #[.str x t, .str y t'] (by simp), fun v h' tk hP hk => ?_⟩
  · show c < ((s.heap.push _).push _).objs.size
    rw [Heap.size_push, hsz]
    rcases List.mem_cons.mp hc with rfl | hc
    · rw [hsz]; exact Nat.lt_succ_self _
    · rcases List.mem_cons.mp hc with rfl | hc
      · exact Nat.lt_succ_of_lt (Nat.lt_succ_self _)
      · cases hc
  · have hold : ∀ c o, s.heap.get? c = some o → h'.get? c = some o := fun c o e => by
      refine hk c o (fun hm => ?_) (Heap.get?_push_of_some _ (Heap.get?_push_of_some _ e))
      rcases List.mem_cons.mp hm with e1 | hm
      · have := Heap.lt_size e; rw [e1, hsz] at this; exact Nat.lt_irrefl _ (Nat.lt_of_succ_lt this)
      · cases hm
    have := h h' tk hold
    have hv : v = if sLt y x then .str y t' else .str x t := by
      cases hc : sLt y x <;> simp [argBest, strV, hc] at hP <;> simp [hP]
    rw [hv]; exact this
end
/-! two ints or two texts -/
def gBest2 (f : Int → Int → Int) (g : Str → Str → Str) : List D → Option D
  | [.int i, .int j] => some (.int (f i j))
  | [.str i, .str j] => some (.str (g i j))
  | _ => none
def rBest2 (f : Int → Int → Int) (g : Str → Str → Str) : List V → Hp → VK → Prop := fun xs H Q => (∃ i j, xs = [.int i, .int j] ∧ Q (.int (f i j)) H) ∨ ∃ i j, xs = [.str i, .str j] ∧ Q (.str (g i j)) H
theorem n_best {K : PySem.W.Frag} {f : Int → Int → Int} {g : Str → Str → Str} : SndN K (gBest2 f g) (rBest2 f g) := by
  intro U H xs ds z Q al r hz q
  match ds, hz, r with
  | [], hz, _ => cases hz
  | [_], hz, _ => simp [gBest2] at hz
  | _ :: _ :: _ :: _, hz, _ => simp [gBest2] at hz
  | [d, e], hz, r =>
    obtain ⟨x, y, rfl, rx, ry⟩ := r.two
    cases d <;> cases e <;> simp [gBest2] at hz
    · subst hz
      exact .inl ⟨_, _, by rw [show x = _ from rx, show y = _ from ry], q _ H (Same.refl H) rfl⟩
    · subst hz
      exact .inr ⟨_, _, by rw [show x = _ from rx, show y = _ from ry], q _ H (Same.refl H) rfl⟩
def sMax (x y : Str) : Str := if sLt x y then y else x
def sMin (x y : Str) : Str := if sLt y x then y else x
abbrev gMaxB : List D → Option D := gBest2 (fun i j => if j > i then j else i) sMax
abbrev gMinB : List D → Option D := gBest2 (fun i j => if j < i then j else i) sMin
theorem call_maxB {X : Cx} (hc : X.calm = true) : CallR X (.builtin "max") (rBest2 (fun i j => if j > i then j else i) sMax) := by
  refine CallR.or (call_max2 hc) ?_
  intro pins s σ H xs us Q I r h
  obtain ⟨i, j, rfl, q⟩ := h
  obtain ⟨u, w', rfl, ⟨t, rfl⟩, ⟨t', rfl⟩⟩ := vals2 r
  refine max_two_str (I.ok.hd hc) fun h' tk k => ⟨_, H, I.kept k, ?_, q⟩
  unfold sMax
  by_cases hj : sLt i j = true
  · rw [if_pos hj, if_pos hj]; exact ⟨_, rfl⟩
  · rw [if_neg hj, if_neg hj]; exact ⟨_, rfl⟩
theorem call_minB {X : Cx} (hc : X.calm = true) : CallR X (.builtin "min") (rBest2 (fun i j => if j < i then j else i) sMin) := by
  refine CallR.or (call_min2 hc) ?_
  intro pins s σ H xs us Q I r h
  obtain ⟨i, j, rfl, q⟩ := h
  obtain ⟨u, w', rfl, ⟨t, rfl⟩, ⟨t', rfl⟩⟩ := vals2 r
  refine min_two_str (I.ok.hd hc) fun h' tk k => ⟨_, H, I.kept k, ?_, q⟩
  unfold sMin
  by_cases hj : sLt j i = true
  · rw [if_pos hj, if_pos hj]; exact ⟨_, rfl⟩
  · rw [if_neg hj, if_neg hj]; exact ⟨_, rfl⟩
/-! of a list, of a tuple -/
section
variable {prog : Program} {w : World} {A : Around} {E : Value → Shared → Prop} {s : Shared}
open PyProof.Rows PyProof.V PySem.W
end
end Mi

set_option Elab.async false
set_option linter.all false
set_option maxRecDepth 100000
set_option maxHeartbeats 4000000
/-! Mi40: a target a[x], x a name -/
namespace Mi
open PySem PySem.Spec L2
variable [Tb]
end Mi

set_option Elab.async false
set_option linter.all false
set_option maxRecDepth 100000
set_option maxHeartbeats 4000000
/-! Mi41: len(o), o of an own class with __len__ -/
namespace Mi
open PySem PySem.Spec PyProof.Rows L2
variable [Tb]
section
variable {X : Cx} {W : WX} {k : Nat} {C g : Addr} {fd : FuncData} {ps : List Str} {sp : Sp}
end
section
variable {X : Cx} {W : WX} {k n : Nat} {c x : Str} {g : Addr} {fd : FuncData} {ps : List Str} {e : Expr} {p pos : Pos} {m : En → Rs D} {ma : En → Rs (List D)}
end
end Mi

set_option Elab.async false
set_option linter.all false
set_option maxRecDepth 100000
set_option maxHeartbeats 4000000
/-! Mi42: a comprehension over the keys of a dict: the dict is locked meanwhile -/
namespace Mi
open PySem PySem.Spec L2
variable [Tb]
section
variable {K : PySem.W.Frag} {U : Addr → Prop} {d : Addr} {kvs : List (Key × V)} {H H' : Hp}
mutual
theorem Rep.lk (l : Lk d kvs H H') : ∀ (x : D) (v : V), Rep K U H x v → Rep K U H' x v
  | .non, _, h => h
  | .bl _, _, h => h
  | .int _, _, h => h
  | .str _, _, h => h
  | .tup ds, v, h => by
    obtain ⟨a, xs, e, ⟨h1, h3⟩, h2⟩ := h
    refine ⟨a, xs, e, ⟨?_, h3⟩, Reps.lk l ds xs h2⟩
    rcases h1 with ⟨m, h1⟩ | ⟨m, o, h1, ho⟩
    · exact .inl ⟨m, l.to h1 (fun e => nomatch e) (fun _ e => nomatch e)⟩
    · exact .inr ⟨m, o, l.to h1 (fun e => nomatch e) (fun _ e => by cases e), ho⟩
  | .lst ds, v, h => by
    obtain ⟨a, xs, e, ⟨h1, h3⟩, h2⟩ := h
    exact ⟨a, xs, e, ⟨l.to h1 (fun e => nomatch e) (fun _ e => nomatch e), h3⟩, Reps.lk l ds xs h2⟩
  | .dct false ks ds, v, h => by
    obtain ⟨a, xs, e, h3, ⟨kvs2, h1, q⟩, h2⟩ := h
    refine ⟨a, xs, e, h3, ⟨kvs2, ?_, q⟩, Reps.lk l ds xs h2⟩
    by_cases hd : a = d
    · subst hd
      have : kvs2 = kvs := by
        rcases l.a with q1 | ⟨o, q1⟩ <;> rcases h1 with q2 | ⟨o2, q2⟩ <;> rw [q1] at q2 <;> cases q2 <;> rfl
      rw [this]
      exact l.b
    · exact rd_to nt_dK h1 fun o q => ⟨by rw [l.ne a hd]; exact q.1, q.2⟩
  | .dct true ks ds, v, h => by
    obtain ⟨a, xs, e, h3, ⟨kvs2, h1, q⟩, h2⟩ := h
    refine ⟨a, xs, e, h3, ⟨kvs2, ?_, q⟩, Reps.lk l ds xs h2⟩
    rcases h1 with h1 | ⟨o, h1⟩
    · exact .inl (l.to h1 (fun e => nomatch e) (fun _ e => nomatch e))
    · exact .inr ⟨o, l.to h1 (fun e => nomatch e) (fun _ e => by cases e)⟩
  | .obj c ns ds, v, h => by
    obtain ⟨a, dx, xs, e, h3, h1, hl, h2⟩ := h
    exact ⟨a, dx, xs, e, h3, l.to h1 (fun e => nomatch e) (fun _ e => nomatch e), hl, Reps.lk l ds xs h2⟩
  | .fz ds, v, h => by
    obtain ⟨a, xs, e, h1, h2⟩ := h
    refine ⟨a, xs, e, ?_, Reps.lk l ds xs h2⟩
    rcases h1 with ⟨o, h1, n⟩ | h1
    · exact .inl ⟨o, l.to h1 (fun e => nomatch e) (fun _ e => by cases e), n⟩
    · exact .inr h1
  | .exn p c ns ds, v, h => by
    obtain ⟨a, cls, dd, xs, e, h1, h2, h3, h4⟩ := h
    refine ⟨a, cls, dd, xs, e, h1, h2, ?_, Reps.lk l ds xs h4⟩
    rcases h3 with h3 | ⟨b, e2, n, h3, hl⟩
    · exact .inl h3
    · exact .inr ⟨b, e2, n, l.to h3 (fun e => nomatch e) (fun _ e => nomatch e), hl⟩
theorem Reps.lk (l : Lk d kvs H H') : ∀ (ds : List D) (xs : List V), Reps K U H ds xs → Reps K U H' ds xs
  | [], _, h => h
  | x :: ds, xs, h => by
    obtain ⟨y, r, e, h1, h2⟩ := h
    exact ⟨y, r, e, Rep.lk l x y h1, Reps.lk l ds r h2⟩
end
theorem RepO.lk (l : Lk d kvs H H') {o : Ob} {a : Addr} (ha : a ≠ d) (h : RepO K U H o a) : RepO K U H' o a := by
  cases o with
  | lst ds => obtain ⟨xs, h, r⟩ := h; exact ⟨xs, by rw [l.ne a ha]; exact h, Reps.lk l _ _ r⟩
  | dct t ks ds => obtain ⟨xs, h, r⟩ := h; exact ⟨xs, h.to fun o q => ⟨by rw [l.ne a ha]; exact q.1, q.2⟩, Reps.lk l _ _ r⟩
  | ins c ns ds => obtain ⟨dx, xs, h, hl, r⟩ := h; exact ⟨dx, xs, by rw [l.ne a ha]; exact h, hl, Reps.lk l _ _ r⟩
theorem SA.lk {env : En} {σ : St} (sa : SA K U env σ H) (l : Lk d kvs H H') (nd : ¬ Ux U env σ d) : SA K U env σ H' := by
  refine ⟨sa.len, fun p hp => ?_, fun a h => ?_, sa.nu, sa.inj, fun i x h => ?_, fun i s o h1 h2 => ?_⟩
  · obtain ⟨ps, h1, h2, h3⟩ := sa.tb p hp
    refine ⟨ps, l.to h1 (fun e => nomatch e) (fun _ e => nomatch e), h2, fun pos cv hc => ?_⟩
    obtain ⟨c, e1, e2⟩ := h3 pos cv hc
    exact ⟨c, e1, l.to e2 (fun e => by unfold LamX.CodeO at e; cases e) (fun _ e => by unfold LamX.CodeO at e; cases e)⟩
  · obtain ⟨o, q⟩ := sa.alN a h
    exact ⟨o, ⟨by rw [l.ne a fun e => nd (.inl (e ▸ h))]; exact q.1.1, q.1.2⟩, q.2⟩
  · obtain ⟨v, e, r⟩ := sa.val i x h
    exact ⟨v, e, Rep.lk l x v r⟩
  · obtain ⟨a, e, r⟩ := sa.ob i s o h1 h2
    exact ⟨a, e, RepO.lk l (fun z => nd (.inr ⟨i, s, o, h1, h2, z ▸ e⟩)) r⟩
end
/-! ### the keys -/
def xIterK (j : Nat) : En → Rs (List D) := fun env => match env[j]? with
  | some (.v d) => .of (keysD d) env
  | _ => .bad
section
variable {X : Cx} {W : WX} {elt tg : Expr} {ifs : List Expr} {scope : Scope} {own : List (Str × Nat)} {pos p : Pos} {x : Str} {j : Nat} {is : List Nat} {mg : D → En → Option En} {mt : En → Rs Bool} {me : En → Rs D}
end
end Mi

set_option Elab.async false
set_option linter.all false
set_option maxRecDepth 100000
set_option maxHeartbeats 4000000
/-! Mi43: for over the keys of a dict: the dict is locked meanwhile -/
namespace Mi
open PySem PySem.Spec L2
variable [Tb]
section
variable {K : PySem.W.Frag} {W : WX} {U : Addr → Prop} {d : Addr} {kvs : List (Key × V)} {H H' : Hp}
end
section
variable {X : Cx} {W : WX} {tg : Expr} {body : List Stmt} {mi : En → Rs (List D)} {is : List Nat} {mg : D → En → Option En} {mb : En → Rs Fl} {pos p : Pos} {x : Str} {j : Nat}
end
end Mi

set_option Elab.async false
set_option linter.all false
set_option maxRecDepth 100000
set_option maxHeartbeats 4000000
/-! Mi44: dict comprehensions of one clause, by keys of any kind -/
namespace Mi
open PySem PySem.Spec PyProof.Rows L2
variable [Tb]
section
variable {X : Cx} {kx vx tg iter : Expr} {ifs : List Expr} {scope : Scope} {own : List (Str × Nat)} {pos : Pos} {wi : TI} {g : TG} {tt : TT} {tk tv : TE}
end

/-! ### the mirror -/
section
variable {K : PySem.W.Frag} {U : Addr → Prop} {env : En} {σ : L2.St} {H : Hp}
variable {p : Addr} {e e2 : En} {σ' σ2 : L2.St} {H' H2 : Hp} {o : Ob}
theorem NwI.step (l : NwI K U env σ H p e σ' H' o) (st : Ste K (Up U p) e σ' H' e2 σ2 H2) : NwI K U env σ H p e2 σ2 H2 o where
  sa := st.sa
  gr := fun a u n h => st.gr a u (fun c => (l.fr a c).elim n fun z => z.no h) (l.gr a u n h)
  fr := fun a c => by
    rcases st.fr a c with q | q
    · exact l.fr a q
    · by_cases n : Chg env σ a
      · exact .inl n
      · exact .inr fun o h => q o (l.gr a o n h)
  io := fun i u h => by
    obtain ⟨o1, h1, e1⟩ := l.io i u h
    obtain ⟨o2, h2, e2⟩ := st.io i o1 h1
    exact ⟨o2, h2, e2.trans e1⟩
  ob := RepO.to (fun x u n h => st.gr x u (fun c => n (.inr c)) h) (fun x u n h q => q.elim (fun z => n (.inl z)) fun c => (st.fr x c).elim (fun z => n (.inr z)) fun z => z.no h) (fun u h => st.gr p u (fun c => l.sa.nu p c (.inr rfl)) h) l.ob
  nw := l.nw
theorem NwI.wipe (l : NwI K U env σ H p e σ' H' o) (vs : List Nat) (ok : okVs env vs = true) : NwI K U env σ H p (wipeE e vs) (wipe σ' vs) H' o where
  sa := l.sa.wipe vs
  gr := l.gr
  fr := fun a c => l.fr a (chg_wipe c)
  io := fun i u h => by
    have n : i ∉ vs := fun m => by
      have := List.all_eq_true.mp ok i m
      rw [h] at this
      cases this
    obtain ⟨o', h1, h2⟩ := l.io i u h
    exact ⟨o', by rw [wipeE_out n]; exact h1, by rw [wipe_out n]; exact h2⟩
  ob := RepO.to (fun _ _ _ q => q) (fun x u n _ q => n (q.imp id chg_wipe)) (fun _ q => q) l.ob
  nw := l.nw
theorem NwI.fin {vs : List Nat} (sa : SA K U env σ H) (ok : okVs env vs = true) (l : NwI K U env σ H p e (L2.wipe σ vs) H' o) : Fre K U env σ H (backE env e vs) H' o p := by
  have notob : ∀ {i : Nat} {s : Sl} {o : Ob}, env[i]? = some s → i ∈ vs → s.ob = some o → False := fun {i s o} h1 h2 h3 => by
    have := List.all_eq_true.mp ok i h2
    rw [h1] at this
    cases s <;> first | (cases h3; done) | (simp at this; done)
  -- an object's slot is outside vs
  have obs : ∀ {i : Nat} {s : Sl} {o : Ob}, (backE env e vs)[i]? = some s → s.ob = some o → e[i]? = some s ∧ (i ∉ vs ∨ env[i]? = none) := fun {i s o} h1 h2 => by
    rcases backE_get h1 with q | ⟨q, m⟩
    · exact q
    · exact (notob q m h2).elim
  have le : e.length = env.length := by rw [l.sa.len, wipe_length, sa.len]
  have none_lt : ∀ {i : Nat} {s : Sl}, e[i]? = some s → env[i]? = none → False := fun {i s} h1 h2 => by
    have a := (List.getElem?_eq_some_iff.mp h1).1
    have b := List.getElem?_eq_none_iff.mp h2
    omega
  have obs2 : ∀ {i : Nat} {s : Sl} {o : Ob}, (backE env e vs)[i]? = some s → s.ob = some o → e[i]? = some s ∧ i ∉ vs := fun {i s o} h1 h2 => by
    obtain ⟨a, b⟩ := obs h1 h2
    exact ⟨a, b.resolve_right fun n => none_lt a n⟩
  have ch : ∀ a, Chg (backE env e vs) σ a → Chg e (L2.wipe σ vs) a := fun a ⟨i, s, o, h1, h2, h3⟩ => by
    obtain ⟨q, n⟩ := obs2 h1 h2
    exact ⟨i, s, o, q, h2, by rw [wipe_out n]; exact h3⟩
  have sub : ∀ {V : Addr → Prop} x, Ux V (backE env e vs) σ x → Ux V e (L2.wipe σ vs) x := fun x h => h.imp id (ch x)
  have kp : ∀ a o, ¬ Ux U env σ a → HN H a o → HN H' a o := fun a o n h => l.gr a o (fun c => n (.inr c)) h
  have ku : ∀ a o, ¬ Ux U env σ a → HN H a o → ¬ Ux (Up U p) (backE env e vs) σ a := fun a o n h q => by
    rcases ux_up.mp (sub a q) with q | q
    · rcases q with q | q
      · exact n (.inl q)
      · exact (l.fr a q).elim (fun c => n (.inr c)) fun z => z.no h
    · have h := h.1
      rw [q, l.nw] at h
      cases h
  refine ⟨.inr (.of l.nw), fun h => ?_, ⟨by rw [backE_len, le, sa.len], l.sa.tb, l.sa.alN, fun a c => l.sa.nu a (ch a c), fun i j s t o q a h1 h2 h3 h4 h5 h6 => ?_, fun i d h => ?_, fun i s o h1 h2 => ?_⟩, l.gr, fun a c => l.fr a (ch a c), fun i o h => ?_, ?_⟩
  · obtain ⟨o, z⟩ := sa.al p h
    rw [l.nw] at z
    cases z
  · obtain ⟨q1, n1⟩ := obs2 h1 h2
    obtain ⟨q2, n2⟩ := obs2 h3 h4
    exact l.sa.inj i j s t o q a q1 h2 q2 h4 (by rw [wipe_out n1]; exact h5) (by rw [wipe_out n2]; exact h6)
  · rcases backE_get h with ⟨q, n⟩ | ⟨q, m⟩
    · have n := n.resolve_right fun z => none_lt q z
      obtain ⟨v, e1, r⟩ := l.sa.val i d q
      rw [wipe_out n] at e1
      exact ⟨v, e1, Rep.to (fun _ _ _ q => q) (fun x o n _ q => n (sub x q)) d v r⟩
    · obtain ⟨v, e1, r⟩ := sa.val i d q
      exact ⟨v, e1, Rep.to kp ku d v r⟩
  · obtain ⟨q, n⟩ := obs2 h1 h2
    obtain ⟨a, e1, r⟩ := l.sa.ob i s o q h2
    rw [wipe_out n] at e1
    exact ⟨a, e1, RepO.to (fun _ _ _ q => q) (fun x o n _ q => n (sub x q)) (fun _ q => q) r⟩
  · obtain ⟨o', h1, _⟩ := l.io i o h
    refine ⟨o', ?_⟩
    rw [backE_out (fun m => notob h m rfl)]
    exact h1
  · exact RepO.to (fun _ _ _ q => q) (fun x o n _ q => n (sub x q)) (fun _ q => q) l.ob

theorem NwI.put {t : Bool} {ks : List Ky} {ds : List D} {kd d : D} {kv v : V} {o' : Ob} (l : NwI K U env σ H p e σ' H' (.dct t ks ds)) (rk : Rep K (Ux (Up U p) e σ') H' kd kv) (rd : Rep K (Ux (Up U p) e σ') H' d v) (hg : gSto (.dct t ks ds) kd d = some o') :
    ∃ H2, DPut H' p kv v H2 ∧ NwI K U env σ H p e σ' H2 o' := by
  have up : Up U p p := .inr rfl
  have st : rSetM (.ref p) kv v H' fun H2 => NwI K U env σ H p e σ' H2 o' := st_m (K := K) (Ux (Up U p) e σ') H' p _ kd d kv v o' _ l.sa.alU (.inl up) l.ob rk rd hg fun ho r => ⟨l.sa.updU up l.ob.own (by obtain ⟨u, q⟩ := r.hnO; have q1 := q.1.1; rw [upd_same] at q1; cases q1; exact q.2), fun a u n h => ⟨by
    rw [upd_ne (fun z => by have h := h.1; rw [z, l.nw] at h; cases h)]
    exact (l.gr a u n h).1, h.2⟩, l.fr, l.io, r, l.nw⟩
  rcases st with ⟨a, xs, k0, j0, ea, _, h1, _⟩ | ⟨a, H2, ea, dp, q⟩
  · cases ea
    obtain ⟨ys, dat, _⟩ := l.ob
    cases t with
    | false => obtain ⟨kvs, h2, _⟩ := dat; rw [h1] at h2; cases h2
    | true => obtain ⟨kvs, h2, _⟩ := dat; rw [h1] at h2; cases h2
  · cases ea
    exact ⟨H2, dp, q⟩
end
def dcStep (vs : List Nat) (mg : D → En → Option En) (mt : En → Rs Bool) (mk mv : En → Rs D) (d : D) (o : Ob) (e : En) : Rs Ob := match mg d e with
  | none => .bad
  | some e2 => match mt e2 with
    | .ok false e3 => .ok o (wipeE e3 vs)
    | .ok true e3 => match mk e3 with
      | .ok k e4 => match mv e4 with
        | .ok z e5 => match gSto o k z with
          | some o' => .ok o' (wipeE e5 vs)
          | none => .bad
        | _ => .bad
      | _ => .bad
    | _ => .bad
def dcL (vs : List Nat) (mg : D → En → Option En) (mt : En → Rs Bool) (mk mv : En → Rs D) : List D → Ob → En → Rs Ob
  | [], o, e => .ok o e
  | d :: r, o, e => match dcStep vs mg mt mk mv d o e with
    | .ok o' e' => dcL vs mg mt mk mv r o' e'
    | _ => .bad
/-- {k: v for .. in .. if ..} -/
def mDc (t : Bool) (vs : List Nat) (mi : En → Rs (List D)) (mg : D → En → Option En) (mt : En → Rs Bool) (mk mv : En → Rs D) : En → Rs Ob := fun env => (mi env).bind fun ds e1 => if okVs e1 vs = true then (match dcL vs mg mt mk mv ds (.dct t [] []) (wipeE e1 vs) with
  | .ok o e2 => .ok o (backE e1 e2 vs)
  | _ => .bad) else .bad
section
variable {X : Cx} {W : WX} {kx vx tg iter : Expr} {ifs : List Expr} {scope : Scope} {own : List (Str × Nat)} {pos : Pos} {mi : En → Rs (List D)} {is : List Nat} {mg : D → En → Option En} {mt : En → Rs Bool} {mk mv : En → Rs D}
end
end Mi

set_option Elab.async false
set_option linter.all false
set_option maxRecDepth 100000
set_option maxHeartbeats 4000000
/-! Mi45: f-strings; d.get(k, x) -/
namespace Mi
open PySem PySem.Spec PyProof.Rows L2
variable [Tb]
/-- {x} in an f-string -/
def gFmt : D → Option D
  | .str y => if y.length ≤ sizeLine then some (.str y) else none
  | .int i => if i.natAbs.log2 < 1920 then some (.str (toString i : String)) else none
  | _ => none
section
variable {X : Cx} {W : WX} {e v1 v2 : Expr} {es : List Expr} {m : En → Rs D} {pos : Pos}
/-! ### several parts -/
def jNil : Str → En → Rs Str := fun acc env => .ok acc env
def jCons (m : En → Rs D) (r : Str → En → Rs Str) : Str → En → Rs Str := fun acc env => (m env).bind fun d e1 => match d with
  | .str y => if (acc ++ y).length ≤ sizeLine then r (acc ++ y) e1 else .bad
  | _ => .bad
def xFstr (mj : Str → En → Rs Str) : En → Rs D := fun env => (mj Str.empty env).bind fun s e => .ok (.str s) e
/-! ### d.get(k, x) -/
def gGet2 (d k z : D) : Option D := (getK d k).map fun o => o.getD z
section
variable {o f : Expr} {apos cpos : Pos} {md mk mz : En → Rs D} {k : Nat}
def pGet2 (md mk mz : En → Option D) : En → Option D := fun env => (md env).bind fun d => match d with
  | .dct _ _ _ => (mk env).bind fun k => (mz env).bind fun z => gGet2 d k z
  | _ => none
end
end
end Mi

set_option Elab.async false
set_option linter.all false
set_option maxRecDepth 100000
set_option maxHeartbeats 4000000
/-! Mi46: a list turned about, xs[::-1] -/
namespace Mi
open PySem PySem.Spec PyProof.Rows L2
variable [Tb]
section
variable {X : Cx} {W : WX} {a st : Expr} {m : En → Rs D} {ms : En → Rs (Option Int)} {te : TE} {ts : TO} {pos p2 : Pos}
end
end Mi

set_option Elab.async false
set_option linter.all false
set_option maxRecDepth 100000
set_option maxHeartbeats 4000000
/-! Mi47: list(d): the keys of a dict of texts -/
namespace Mi
open PySem PySem.Spec PyProof.Rows L2
variable [Tb]
def gListD : List D → Option D
  | [.dct false ks vs] => (strKs ks).map fun t => .lst (t.map .str)
  | _ => none
end Mi

set_option Elab.async false
set_option linter.all false
set_option maxRecDepth 100000
set_option maxHeartbeats 4000000
/-! Mi48: list(x), sorted(x), x an own list -/
namespace Mi
open PySem PySem.Spec PyProof.Rows L2
variable [Tb]
section
variable {X : Cx} {W : WX} {i : Nat} {x : Str} {id T : String} {p pos : Pos} {e a : Expr} {g : List D → Option D} {r : List V → Hp → VK → Prop}
end
/-! ### for the plain side -/
end Mi

set_option Elab.async false
set_option linter.all false
set_option maxRecDepth 100000
set_option maxHeartbeats 4000000
/-! Mi49: a global tuple of texts behind in; a dict display of texts -/
namespace Mi
open PySem PySem.Spec PyProof.Rows L2
variable [Tb]
/-! ### x in WORDS -/
def gInW (neg : Bool) (l : List Str) : D → Option D
  | .str y => some (.bl (if neg then !decide (y ∈ l) else decide (y ∈ l)))
  | _ => none
section
variable {X : Cx} {W : WX} {a b : Expr} {m : En → Rs D} {pos : Pos} {x : Str} {l : List Str}
/-! ### {"a": "b", ..} -/
end
end Mi

set_option Elab.async false
set_option linter.all false
set_option maxRecDepth 100000
set_option maxHeartbeats 4000000
/-! Mi50: x is True, x is not False, x a truth -/
namespace Mi
open PySem PySem.Spec PyProof.Rows L2
variable [Tb]
section
variable {X : Cx} {K : PySem.W.Frag}
end
end Mi

set_option Elab.async false
set_option linter.all false
set_option maxRecDepth 100000
set_option maxHeartbeats 4000000
/-! Mi51: len of a new dict -/
namespace Mi
open PySem PySem.Spec PyProof.Rows L2
variable [Tb]
def lenOb (o : Ob) (e : En) : Rs D := match o with
  | .dct true ks _ => .ok (.int (ks.length : Nat)) e
  | .dct false ks _ => .ok (.int (ks.length : Nat)) e
  | _ => .bad
/-- len of what is new -/
def xLenN (m : En → Rs Ob) : En → Rs D := fun env => (m env).bind lenOb
section
variable {X : Cx} {W : WX} {e : Expr} {p pos : Pos} {m : En → Rs Ob}
end
end Mi

set_option Elab.async false
set_option linter.all false
set_option maxRecDepth 100000
set_option maxHeartbeats 4000000
/-! Mi52: ==, !=, str and truth of an object of an own class -/
namespace Mi
section
open PySem PySem.Spec PyProof.Rows
variable [Tb]
section
variable {prog : Program} {w : World} {A : Around} {E : Value → Shared → Prop} {s : Shared}
end
end
open PySem PySem.Spec PyProof.Rows L2
variable [Tb]
section
variable {X : Cx} {k : Nat} {C g : Addr} {fd : FuncData} {ps : List Str} {sp : Sp}
end
/-! ### the mirrors -/
section
variable {X : Cx} {W : WX} {k n : Nat} {c x : Str} {g : Addr} {fd : FuncData} {ps : List Str} {a b e : Expr} {p pos : Pos} {m ma mb : En → Rs D} {mn : En → Rs (List D)} {op : CmpOp} {neg : Bool}
end
end Mi

set_option Elab.async false
set_option linter.all false
set_option maxRecDepth 100000
set_option maxHeartbeats 4000000
/-! Mi53: C.m(..), m a classmethod that makes an object -/
namespace Mi
open PySem PySem.Spec PyProof.Rows L2 He
variable [Tb]
/-! ### the facts -/
/-! ### the call -/
section
variable {X : Cx} {W : WX} {k : Nat} {C p g : Addr} {mc : Value} {fd : FuncData} {ps ks : List Str} {pm : List Nat} {sp : Sp} {nm : Str} {o e : Expr} {es : List Expr} {kws : List Keyword} {apos pos : Pos} {ta : TE} {t : TA}
end
/-! ### the rules -/
section
variable {X : Cx} {W : WX} {k n : Nat} {C p g : Addr} {mc : Value} {fd : FuncData} {ps ks : List Str} {pm : List Nat} {nm : Str} {o e : Expr} {es : List Expr} {kws : List Keyword} {apos pos : Pos} {m : En → Rs D} {ma : En → Rs (List D)}
end
end Mi

set_option Elab.async false
set_option linter.all false
set_option maxRecDepth 100000
set_option maxHeartbeats 4000000
/-! Mi54: a classmethod: p = e; if t: raise; return cls(..) -/
namespace Mi
open PySem PySem.Spec PyProof.Rows L2
variable [Tb]
def readV (m1 : En → Rs D) (mt : En → Rs Bool) (mr : En → Rs D) : En → Rs D := fun env => (m1 env).bind fun p e1 => match gSet 2 p e1 with
  | some e2 => (mt e2).bind fun b e3 => match b with
    | true => .bad
    | false => mr e3
  | none => .bad
def readM (m1 : En → Rs D) (mt : En → Rs Bool) (mr : En → Rs D) : En → Rs D := fun args => match args with
  | [.v d] => match readV m1 mt mr [.un, .v d, .un] with
    | .ok z _ => .ok z [.v d]
    | _ => .bad
  | _ => .bad
section
variable {K : PySem.W.Frag} {U : Addr → Prop} {H H' : Hp} {d : D} {v : V} {C : Addr} {σ : L2.St} {env : En}
end
section
variable {X : Cx} {W : WX} {C : Addr} {m1 mr : En → Rs D} {mt : En → Rs Bool} {s1 s2 s3 : Stmt}
end
/-! ### cls(..) -/
section
variable {X : Cx} {W : WX} {k n : Nat} {c x : Str} {f : Addr} {fd : FuncData} {ps : List Str} {p pos : Pos} {e : Expr} {es : List Expr} {m : En → Rs D} {ma : En → Rs (List D)}
end
end Mi

set_option Elab.async false
set_option linter.all false
set_option maxRecDepth 100000
set_option maxHeartbeats 4000000
/-! Mi55: the hook with the statics in sight -/
namespace Mi
open PySem PySem.Spec PyProof.Rows L2 He
variable [Tb]
end Mi

set_option Elab.async false
set_option linter.all false
set_option maxRecDepth 100000
set_option maxHeartbeats 4000000
/-! Mi56: x in l for values of any depth; t[::k] of a tuple, k 1 or -1 -/
namespace Mi
open PySem PySem.Spec PyProof.Rows L2
variable [Tb]
theorem hu65 {A : Around} {k : Nat} (hr : Room k A) : A.units + 65 < cLine := by have := hr.un; omega
section
variable {X : Cx}
end
section
variable {K : PySem.W.Frag}
end
/-! ### t[::k] -/
section
variable {prog : Program} {w : World} {A : Around} {E : Value → Shared → Prop} {s : Shared}
end
section
variable {X : Cx} {W : WX} {a st : Expr} {m : En → Rs D} {ms : En → Rs (Option Int)} {te : TE} {ts : TO} {pos p2 : Pos}
end
end Mi

set_option Elab.async false
set_option linter.all false
set_option maxRecDepth 100000
set_option maxHeartbeats 4000000
/-! Mi57: the index -1 of an own list, as a target -/
namespace Mi
open PySem PySem.Spec PyProof.Rows L2
variable [Tb]
end Mi

set_option Elab.async false
set_option linter.all false
set_option maxRecDepth 100000
set_option maxHeartbeats 4000000
/-! Mi58: the place of a name in a tuple of names -/
namespace Mi
open PySem PySem.Spec PyProof.Rows L2
variable [Tb]
section
variable {X : Cx} {W : WX}
end
end Mi

set_option Elab.async false
set_option linter.all false
set_option maxRecDepth 100000
set_option maxHeartbeats 4000000
/-! Mi59: raise -/
namespace Mi
open PySem PySem.Spec PyProof.Rows L2
variable [Tb]
theorem xiB_ok {K : PySem.W.Frag} {c f : Str} (h : xiB K c f = true) : Xi K c f := by
  unfold xiB at h
  obtain ⟨h0, h⟩ := He.ba h
  obtain ⟨h1, h⟩ := He.ba h
  obtain ⟨h2, h⟩ := He.ba h
  obtain ⟨h3, h⟩ := He.ba h
  obtain ⟨h4, h⟩ := He.ba h
  obtain ⟨h5, h⟩ := He.ba h
  obtain ⟨h6, h7⟩ := He.ba h
  refine ⟨⟨?_, He.eqO_ok h1, of_decide_eq_true h2, of_decide_eq_true h3, h4⟩, He.eqO_ok h5, He.eqO_ok h6, of_decide_eq_true h7⟩
  split at h0
  · rename_i dd cd sl ho
    split at h0
    · rename_i C' bm k0 k1 k2 k3 n k5 hm hs
      simp only [Bool.and_eq_true, beq_iff_eq, Bool.not_eq_true'] at h0
      obtain ⟨⟨⟨⟨e1, e2⟩, hdel⟩, hdict⟩, hr⟩ := h0
      obtain ⟨nm, bs, mro, ns, qn, hd, sn, sub, ab, col, del⟩ := cd
      dsimp only at hm hdel hdict
      subst hm hdel hdict e2
      have hsl : sl = #[k0, k1, k2, k3, some (.builtin "ValueError.__new__"), k5] := by
        obtain ⟨l⟩ := sl
        simp only at hs
        rw [hs]
      subst hsl
      subst e1
      exact ⟨nm, qn, ns, bs, bm, sn, sub, ab, col, dd, k0, k1, k2, k3, k5, ho, hr⟩
    · cases h0
  · cases h0
/-- the promise of such an __init__ -/
def spX (K : PySem.W.Frag) (f : Str) : Sp := fun vs H Q _ => ∃ a C y, vs = [.ref a, y] ∧ OexC K C ∧ PySem.W.findIn K (.ref C) f = some none ∧ H a = some (exo a C none) ∧ ∀ dx, H dx = none → dx ≠ a → Q .non (upd (upd H dx (exd dx [(f, y)])) a (exo a C (some dx)))
theorem okInit {P : Program} {w : World} {K : PySem.W.Frag} {mg : Str → Option Value} {base : Heap} {x qual fld self par : Str} {st : Stmt} {f : Addr} {fd : FuncData} {N : List Str} {k : Nat} (F : Fun K x qual st f fd) (S : FnScope N [self, par] (defScope st)) (hN : N.length = 2)
    (hbody : ∀ (cdv : Value) (A : Around) (outer : List PySem.Env) (s : Shared) (H : Hp) (E : XK), PSs (cxOf (L2.CX P w) P w K mg base N qual (defScope st) f cdv A outer s H E) (defBody st) (tOst K fld (tVar 0) (tVar 1))) :
    FnOk P w K mg base (L2.CX P w) (k + 1) f fd [self, par] (spX K fld) := by
  refine Fun.okX F S (fun vs H Q E h => ?_) fun cdv A outer s H vs Q E _ h => ⟨_, hbody cdv A outer s H E, ?_⟩
  · obtain ⟨a, C, y, rfl, _⟩ := h; rfl
  · obtain ⟨a, C, y, rfl, T, no, ea, q⟩ := h
    refine ⟨y, rfl, .ref a, rfl, a, C, rfl, T, no, .inl ⟨ea, fun dx n ne => q dx n ne⟩⟩
def mRaise (c f : Str) (m : En → Rs D) : En → Rs Fl := fun env => (m env).bind fun d e1 => .er ⟨true, c, [f], [d]⟩ e1
def mRaise0 (c : Str) : En → Rs Fl := fun env => .er ⟨true, c, [], []⟩ env
section
variable {X : Cx} {W : WX} {k : Nat} {c x fld self par : Str} {fd : FuncData} {e : Expr} {m : En → Rs D} {p pos pos2 : Pos}
theorem xd_eq {H : Hp} {a dx C : Addr} {f : Str} {y : V} (ha : H a = none) (hne : dx ≠ a) :
    upd (del (upd (upd (upd H a (exo a C none)) dx (exd dx [(f, y)])) a (exo a C (some dx))) a) dx (.xd [(f, y)]) = upd H dx (.xd [(f, y)]) := by
  funext b
  by_cases h1 : b = dx
  · subst h1; rw [upd_same, upd_same]
  · rw [upd_ne h1, upd_ne h1]
    by_cases h2 : b = a
    · subst h2; rw [del_same, ha]
    · rw [del_ne h2, upd_ne h2, upd_ne h1, upd_ne h2]
theorem es_raise (T : Xi X.K c fld) (F1 : FnOk X.prog X.w X.K X.mg X.base (L2.CX X.prog X.w) k (He.ma X.K (He.ga X.K c) "__init__") fd [self, par] (spX X.K fld)) (co : Co X (k + 1)) (tk : Takes X W) (hb : Binds X.K fd [self, par] []) (hm : X.mg c = some (.ref (He.ga X.K c)))
    (ha : Ev X W e m) (hg : Gl X c := by rfl) (hdb : (c == ("__debug__" : Str)) = false := by decide) (he : starEach [e] X.env = (false, eval e X.env) :: starEach [] X.env := by rfl) (hpl : (backTo pos (starEach [] X.env)).any (·.1) = false := by rfl) :
    EvS X W (.Raise (some (.Call (.Name c p) [e] [] pos)) none pos2) (mRaise c fld m) := by
  refine PS_imp (ps_raise co.calm tk (pmk_oex (CX := L2.CX X.prog X.w) T.ox T.ini T.ty F1 co.hr hb .nil (fun _ _ _ _ _ _ I c => takes0 X _ _ (XE.of_call I (fun _ _ _ z => z) c)) hg hm (pa_cons ha pa_nil he) hdb he hpl)) fun Dn σ H ⟨U, env, sa, po⟩ => ?_
  unfold mRaise at po
  refine ⟨U, env, sa, PoS.step po fun y H1 d e1 a r po1 => ?_⟩
  refine ⟨by simp, fun b hb1 => ⟨b, He.ga X.K c, y, rfl, T.ox, T.no, upd_same, fun dx hdx hne => ⟨rfl, dx, [(fld, y)], upd_same, by rw [upd_ne hne, upd_same], ?_, ?_⟩⟩⟩
  · rw [upd_ne hne] at hdx; exact hdx
  · rw [xd_eq hb1 hne]
    have hd1 : H1 dx = none := by rw [upd_ne hne] at hdx; exact hdx
    have s : Same H1 (upd H1 dx (.xd [(fld, y)])) := same_new hd1
    refine po1 _ _ _ _ ((Ste.refl a.sa).same s) ⟨rfl, [y], .inr ⟨dx, rfl, a.sa.fresh hd1, upd_same, rfl⟩, ⟨y, [], rfl, Rep.same s r, rfl⟩⟩
end
section
variable {X : Cx} {W : WX} {c : Str} {p pos pos2 : Pos} {B newId initId : String} {bm : List Value}
end
end Mi

set_option Elab.async false
set_option linter.all false
set_option maxRecDepth 100000
set_option maxHeartbeats 4000000
/-! Mi60: an exception that is handled: its class, its fields; defs called meanwhile -/
namespace Mi
open PySem PySem.Spec PyProof.Rows L2
variable [Tb]
/-! ### the classes of the program's exceptions -/
/-! ### the context of a handled exception -/
theorem CoH.u1 {X : Cx} {k : Nat} (c : CoH X k) : X.A.units + 1 < cLine := by have := c.hr.un; omega
theorem CoH.mono {X : Cx} {j k : Nat} (c : CoH X k) (h : j ≤ k) : CoH X j := ⟨c.hr.mono h, c.hg, c.hx⟩
/-! ### its fields, its class -/
section
variable {X : Cx} {W : WX} {cs fs ts : List Str} {bs : List String} {e c : Expr} {m : En → Rs D} {pos p : Pos} {n : Str}
end
/-! ### defs called while an exception is handled -/
section
variable {X : Cx} {W : WX} {k n : Nat} {f : Addr} {fd : FuncData} {ps : List Str} {sp : Sp} {x : Str} {p pos : Pos} {e : Expr} {es : List Expr} {m : En → Rs D} {mq : En → Rs (List Ar)}
end
end Mi

set_option Elab.async false
set_option linter.all false
set_option maxRecDepth 100000
set_option maxHeartbeats 4000000
/-! Mi61: try with clauses of any kind -/
namespace Mi
open PySem PySem.Spec PyProof.Rows L2
variable [Tb]
section
variable {X : Cx} {pins : List (Addr × Obj)} {σ : L2.St} {H : Hp}
end
section
variable {X : Cx} {body : List Stmt} {h₀ : ExceptHandler} {hds : List ExceptHandler} {l : List Hd} {pos : Pos} {tb : WX → L2.TS} {Wout : WX}
end
end Mi

set_option Elab.async false
set_option linter.all false
set_option maxRecDepth 100000
set_option maxHeartbeats 4000000
/-! Mi62: what holds whichever exception is handled; clauses' mirrors -/
namespace Mi
open PySem PySem.Spec PyProof.Rows L2
/-! ### no exception within -/
section
variable {t t2 : Tb} {K : PySem.W.Frag} {U : Addr → Prop} {H : Hp}
end
variable [T0 : Tb]
/-! ### clauses -/
end Mi

set_option Elab.async false
set_option linter.all false
set_option maxRecDepth 100000
set_option maxHeartbeats 4000000
/-! Mi63: x(lambda: e), x a def that tries to call what it got -/
namespace Mi
open PySem PySem.Spec PyProof.Rows L2
variable [T0 : Tb]
/-! ### the mirror -/
/-! ### the lambda called, in the def that got it -/
section
variable {X : Cx} {pins : List (Addr × Obj)} {σ : L2.St} {H HZ : Hp} {s s1 : Shared}
end
/-! ### the slots of the callee -/
section
variable {K : PySem.W.Frag} {U : Addr → Prop} {H H' H'' : Hp} {σ σZ σ2 : L2.St} {e e2 : En} {n : Nat}
end
/-! ### x(lambda: e) -/
section
variable {X : Cx} {W : WX} {k n : Nat} {io : Option Nat} {cs fs ts : List Str} {bs : List String} {hs : List HM} {mr : En → Rs Fl} {m : En → Rs D} {x a : Str} {g c P : Addr} {fd : FuncData} {params : Arguments} {body : Expr} {scope : Scope} {lpos p pos : Pos}
end
end Mi

set_option Elab.async false
set_option linter.all false
set_option maxRecDepth 100000
set_option maxHeartbeats 4000000
/-! Mi64: the hook and the law's end where defs make lambdas -/
namespace Mi
open PySem PySem.Spec PyProof.Rows L2 He
/-! ### the hook -/
/-! ### the law's end -/
/-! ### a def that makes lambdas: its body knows its own code object -/
end Mi

set_option Elab.async false
set_option linter.all false
set_option maxRecDepth 100000
set_option maxHeartbeats 4000000
/-! Mi65: what a walk over lambdas knows of the tables; clauses for any handled exception -/
namespace Mi
open PySem PySem.Spec PyProof.Rows L2
variable [T0 : Tb]
end Mi

set_option Elab.async false
set_option linter.all false
set_option maxRecDepth 100000
set_option maxHeartbeats 4000000
/-! Mi66: what the hook tells, for the law's end; runs in parts -/
namespace Mi
open PySem PySem.Spec PyProof.Rows L2 He
/-! ### a run in parts -/
end Mi

set_option Elab.async false
set_option linter.all false
set_option maxRecDepth 100000
set_option maxHeartbeats 4000000
/-! Mi67: an own list compared with what is reckoned meanwhile; index and count in lists of truths -/
namespace Mi
open PySem PySem.Spec PyProof.Rows L2
variable [T0 : Tb]
section
variable {X : Cx} {W : WX} {a b : Expr} {m : En → Rs D} {pos : Pos} {i : Nat} {K : PySem.W.Frag} {U : Addr → Prop} {env : En} {σ : L2.St} {H : Hp} {g : D → D → Option D} {r : R2}
end
/-! ### the place and the number of a flat value in a list -/
end Mi

set_option Elab.async false
set_option linter.all false
set_option maxRecDepth 100000
set_option maxHeartbeats 4000000
/-! Mi68: an item, of any kind, of an own list -/
namespace Mi
open PySem PySem.Spec PyProof.Rows L2
variable [T0 : Tb]
end Mi

set_option Elab.async false
set_option linter.all false
set_option maxRecDepth 100000
set_option maxHeartbeats 4000000
/-! Mi69: list(range(n)) -/
namespace Mi
open PySem PySem.Spec PyProof.Rows L2
variable [T0 : Tb]
end Mi

set_option Elab.async false
set_option linter.all false
set_option maxRecDepth 100000
set_option maxHeartbeats 4000000
/-! Mi70: a text, times an int -/
namespace Mi
open PySem PySem.Spec L2
variable [Tb]
section
variable {K : PySem.W.Frag}
end
end Mi

set_option Elab.async false
set_option linter.all false
set_option maxRecDepth 100000
set_option maxHeartbeats 4000000
/-! Mi71: a tuple of anything, and the empty one -/
namespace Mi
open PySem PySem.Spec L2
variable [Tb]
section
variable {K : PySem.W.Frag}
end
end Mi

set_option Elab.async false
set_option linter.all false
set_option maxRecDepth 100000
set_option maxHeartbeats 4000000
/-! Mi72: a tuple, times an int that may be one -/
namespace Mi
open PySem PySem.Spec L2
variable [Tb]
section
variable {K : PySem.W.Frag}
end
end Mi

set_option Elab.async false
set_option linter.all false
set_option maxRecDepth 100000
set_option maxHeartbeats 4000000
/-! Mi73: repr, of an empty dict too -/
namespace Mi
open PySem PySem.Spec L2
variable [Tb]
section
variable {K : PySem.W.Frag}
end
end Mi

set_option Elab.async false
set_option linter.all false
set_option maxRecDepth 100000
set_option maxHeartbeats 4000000
/-! Mi74: for over the items of a dict that an object holds -/
namespace Mi
open PySem PySem.Spec L2
variable [Tb]
section
variable {X : Cx} {W : WX} {tg : Expr} {body : List Stmt} {is : List Nat} {mg : D → En → Option En} {mb : En → Rs Fl} {pos p : Pos} {x : Str} {j : Nat} {c f : Str}
end
end Mi

set_option Elab.async false
set_option linter.all false
set_option maxRecDepth 100000
set_option maxHeartbeats 4000000
/-! Mi75: d[k] += e, in an own dict of ints -/
namespace Mi
open PySem PySem.Spec L2
variable [Tb]
section
variable {X : Cx} {W : WX} {o ke ve : Expr} {i : Nat} {m mk : En → Rs D} {pos tpos : Pos}
end
end Mi

set_option Elab.async false
set_option linter.all false
set_option maxRecDepth 100000
set_option maxHeartbeats 4000000
/-! Mi76: sorted(d), d an own dict of texts -/
namespace Mi
open PySem PySem.Spec PyProof.Rows L2
variable [Tb]
section
variable {X : Cx} {W : WX} {i : Nat} {x : Str} {p pos : Pos} {e a : Expr}
end
end Mi

set_option Elab.async false
set_option linter.all false
set_option maxRecDepth 100000
set_option maxHeartbeats 4000000
/-! Mi77: != of two lists whose items are equal by their own == -/
namespace Mi
section
open PySem PySem.Spec PyProof.Rows PySem.SeqAt GQ
open AutoSeq1 (wpAny_loadPart')
open MeetsSeq MeetsSeq2 MeetsSeq3 SeqRoads2
variable [Tb]
section
variable {prog : Program} {w : World} {A : Around} {R : Result → Shared → Prop}
end
section
variable {prog : Program} {w : World} {A : Around} {E : Value → Shared → Prop} {s : Shared}
end
end
open PySem PySem.Spec PyProof.Rows L2
variable [Tb]
section
variable {X : Cx} {k : Nat} {C g : Addr} {fd : FuncData} {ps : List Str} {sp : Sp}
end
/-! ### the mirror -/
section
variable {X : Cx} {W : WX} {c : Str} {a b : Expr} {pos : Pos} {m ma mb : En → Rs D}
end
end Mi

set_option Elab.async false
set_option linter.all false
set_option maxRecDepth 100000
set_option maxHeartbeats 4000000
/-! Mi78: tuple(zip(a, b)): the pairs are kept -/
namespace Mi
open PySem PySem.Spec PyProof.Rows
open AutoSeq1 (wpAny_loadPart')
variable [Tb]
/-- an iterator whose items are new pairs, while at S a list is being filled -/
structure ZSrc (prog : Program) (w : World) (A : Around) (I S : Addr) (wr : List Addr) (n : Nat) (Rel : Nat → Value → Value → Prop) (St : Nat → Heap → Prop) : Prop where
  off : S ∉ wr
  frame : ∀ i h h', St i h → (∀ b o, b ≠ S → h.get? b = some o → h'.get? b = some o) → St i h'
  live : ∀ i h, St i h → ∀ b ∈ wr, ∃ o, h.get? b = some o
  item : ∀ i (s : Shared) (Q : Option Value → Shared → Prop) (E : Value → Shared → Prop), i < n → St i s.heap →
    (∀ x y h' tk, Rel i x y → IsTupOf2 h' s.heap.objs.size x y → St (i + 1) h' → (∀ b o, b ∉ wr → s.heap.get? b = some o → h'.get? b = some o) → Q (some (.ref s.heap.objs.size)) { s with heap := h', toks := tk }) →
    S < s.heap.objs.size → wpAny (model prog w) A (pyNext (.ref I)) Q E s
  done : ∀ (s : Shared) (Q : Option Value → Shared → Prop) (E : Value → Shared → Prop), St n s.heap →
    (∀ h' tk, (∀ b o, b ∉ wr → s.heap.get? b = some o → h'.get? b = some o) → Q none { s with heap := h', toks := tk }) → wpAny (model prog w) A (pyNext (.ref I)) Q E s
section
variable {prog : Program} {w : World} {A : Around} {z TI TO i1 i2 d : Addr} {fp1 fp2 : List Addr} {n1 n2 : Nat} {P1 P2 : Nat → Value → Prop} {St1 St2 : Nat → Heap → Prop}
end
/-! ### the list is filled -/
/-- what was handed out so far: rising addresses behind S -/
def ZIt (S : Addr) (wr : List Addr) (Rel : Nat → Value → Value → Prop) (acc : Array Value) (i : Nat) (h : Heap) : Prop :=
  acc.size = i ∧ (∀ j v, acc[j]? = some v → ∃ T x y, v = .ref T ∧ IsTupOf2 h T x y ∧ Rel j x y ∧ T ∉ wr ∧ S < T) ∧ ∀ (j k : Nat) (T U : Addr), j < k → acc[j]? = some (Value.ref T) → acc[k]? = some (Value.ref U) → T < U
section
variable {prog : Program} {w : World} {A : Around} {R : Result → Shared → Prop} {I S : Addr} {wr : List Addr} {n i : Nat} {Rel : Nat → Value → Value → Prop} {St : Nat → Heap → Prop} {acc : Array Value} {h h' : Heap}
theorem ZIt.keep (q : ZIt S wr Rel acc i h) (hk : ∀ b o, b ∉ wr → b ≠ S → h.get? b = some o → h'.get? b = some o) : ZIt S wr Rel acc i h' :=
  ⟨q.1, fun j v hj => by
    obtain ⟨T, x, y, e, hT, r, nw, lt⟩ := q.2.1 j v hj
    exact ⟨T, x, y, e, hk _ _ nw (Nat.ne_of_gt lt) hT, r, nw, lt⟩, q.2.2⟩
end
section
variable {prog : Program} {w : World} {A : Around} {E : Value → Shared → Prop} {s : Shared} {z TI TO i1 i2 : Addr} {fp1 fp2 : List Addr} {n1 n2 : Nat} {P1 P2 : Nat → Value → Prop} {St1 St2 : Nat → Heap → Prop}
end
end Mi

set_option Elab.async false
set_option linter.all false
set_option maxRecDepth 100000
set_option maxHeartbeats 4000000
/-! Mi79: tuple(zip(a, b)) in the layer -/
namespace Mi
open PySem PySem.Spec PyProof.Rows L2
variable [Tb]
section
variable {X : Cx} {pins : List (Addr × Obj)} {σ : L2.St} {H : Hp} {s : Shared} {c : Sc} {it : Addr} {xs : List V}
end
section
variable {X : Cx} {W : WX} {e e2 : Expr} {p p2 pos pos2 : Pos} {ta : TA}
/-! ### its mirror -/
end
end Mi

set_option Elab.async false
set_option linter.all false
set_option maxRecDepth 100000
set_option maxHeartbeats 4000000
/-! Mi80: list(zip(a, b)) -/
namespace Mi
open PySem PySem.Spec PyProof.Rows
open AutoSeq1 (wpAny_loadPart')
variable [Tb]
section
variable {prog : Program} {w : World} {A : Around} {E : Value → Shared → Prop} {s : Shared} {z TI TO i1 i2 : Addr} {fp1 fp2 : List Addr} {n1 n2 : Nat} {P1 P2 : Nat → Value → Prop} {St1 St2 : Nat → Heap → Prop}
end
open L2
section
variable {X : Cx} {W : WX} {e e2 : Expr} {p p2 pos pos2 : Pos} {ta : TA}
/-! ### its mirror -/
end
end Mi

set_option Elab.async false
set_option linter.all false
set_option maxRecDepth 100000
set_option maxHeartbeats 4000000
/-! Mi81: a, b = x, y with a name that inner scopes know -/
namespace Mi
open PySem PySem.Spec PyProof.Rows L2
variable [Tb]
section
variable {X : Cx} {pos : Pos}
end
end Mi

set_option Elab.async false
set_option linter.all false
set_option maxRecDepth 100000
set_option maxHeartbeats 4000000
/-! Mi82: dict comprehensions of two clauses (as HandS.Comp's lists of two clauses and Mi44) -/
namespace Mi
open PySem PySem.Spec PyProof.Rows L2
variable [Tb]
section
variable {prog : Program} {w : World} {A : Around} {R : Result → Shared → Prop} {s : Shared} {kx vx t0 i0 t1 i1 : Expr} {ifs0 ifs1 : List Expr} {scope : Scope} {pos : Pos} {it acc : Value} {env : Env}
end

section
variable {X : Cx}
end
end Mi

set_option Elab.async false
set_option linter.all false
set_option maxRecDepth 100000
set_option maxHeartbeats 4000000
/-! Mi83: dict comprehensions of two clauses: their mirror (as in Mi14 and Mi44); list of a new dict, of an own dict -/
namespace Mi
open PySem PySem.Spec PyProof.Rows L2
variable [Tb]
section
variable {X : Cx} {W : WX} {kx vx tg iter tg1 iter1 : Expr} {ifs ifs1 : List Expr} {scope : Scope} {own : List (Str × Nat)} {vs1 : List Nat} {pos : Pos} {mi mi1 : En → Rs (List D)} {is is1 : List Nat} {mg mg1 : D → En → Option En} {mt mt1 : En → Rs Bool} {mk mv : En → Rs D}
end
end Mi

set_option Elab.async false
set_option linter.all false
set_option maxRecDepth 100000
set_option maxHeartbeats 4000000
/-! Mi84: list(new dict), list(own dict); for over a dict that stands in a list -/
namespace Mi
open PySem PySem.Spec PyProof.Rows L2
variable [Tb]
section
variable {X : Cx} {W : WX} {e : Expr} {te : TE} {p pos : Pos} {m : En → Rs Ob} {i : Nat}
end
/-! ### for x in t[i], a dict -/
section
variable {X : Cx} {W : WX} {tg e b : Expr} {body : List Stmt} {mi : En → Rs (List D)} {is : List Nat} {mg : D → En → Option En} {mb : En → Rs Fl} {pos p : Pos} {x : Str} {j : Nat} {i : Int}
end
/-! ### a, b = {}, {} -/
end Mi

set_option Elab.async false
set_option linter.all false
set_option maxRecDepth 100000
set_option maxHeartbeats 4000000
/-! Mi85: methods of own objects (they may change them) -/
namespace Mi
open PySem PySem.Spec L2
variable [Tb]
section
variable {X : Cx} {W : WX} {k n i : Nat} {c nm : Str} {f : Addr} {fd : FuncData} {ps : List Str} {o e : Expr} {es : List Expr} {apos pos : Pos} {m mo : En → Rs D} {ma : En → Rs (List D)} {mq : En → Rs (List Ar)}
end
end Mi

set_option Elab.async false
set_option linter.all false
set_option maxRecDepth 100000
set_option maxHeartbeats 4000000
/-! Mi86: new objects whose making is handed own objects -/
namespace Mi
open PySem PySem.Spec L2
variable [Tb]
section
variable {K : PySem.W.Frag} {U : Addr → Prop} {e : En} {σ : St} {H : Hp} {o : Ob} {p : Addr}
end
end Mi

set_option Elab.async false
set_option linter.all false
set_option maxRecDepth 100000
set_option maxHeartbeats 4000000
/-! Mi87: C(.., an own object, ..) -/
namespace Mi
open PySem PySem.Spec L2
variable [Tb]
section
variable {K : PySem.W.Frag} {U U' : Addr → Prop} {e env : En} {σ : St} {H H' H1 H2 : Hp} {o o' : Ob} {p : Addr} {as : List Ar} {vs : List V} {args : En} {s : Sl}
end
section
variable {X : Cx} {W : WX} {k n : Nat} {c x : Str} {f : Addr} {fd : FuncData} {ps : List Str} {p pos : Pos} {e : Expr} {es : List Expr} {m : En → Rs D} {mq : En → Rs (List Ar)}
end
end Mi

set_option Elab.async false
set_option linter.all false
set_option maxRecDepth 100000
set_option maxHeartbeats 4000000
/-! Mi88: two names, two new objects of their own -/
namespace Mi
open PySem PySem.Spec L2
variable [Tb]
section
variable {K : PySem.W.Frag} {U : Addr → Prop} {env e1 e3 e4 : En} {σ σ3 : L2.St} {H H1 H2 : Hp} {o : Ob} {p : Addr} {i : Nat}
end
section
variable {X : Cx} {W : WX} {st : Stmt} {x1 x2 : Expr} {i j : Nat} {n n2 : En → Rs Ob}
end
end Mi

set_option Elab.async false
set_option linter.all false
set_option maxRecDepth 100000
set_option maxHeartbeats 4000000
/-! Mi89: methods of own objects by keywords; len of an own object -/
namespace Mi
open PySem PySem.Spec L2
variable [Tb]
section
variable {K : PySem.W.Frag} {W : WX} {U : Addr → Prop} {σ : St} {H : Hp} {n : Nat} {pm : List Nat} {ma : En → Rs (List D)} {Q : List V → Hp → Prop}
end
section
variable {X : Cx} {W : WX} {k n i : Nat} {c nm : Str} {f : Addr} {fd : FuncData} {ps ks : List Str} {pm : List Nat} {o : Expr} {kws : List Keyword} {apos pos : Pos} {m : En → Rs D} {ma : En → Rs (List D)}
end
section
variable {X : Cx} {W : WX} {k i : Nat} {c : Str} {g : Addr} {fd : FuncData} {ps : List Str} {e : Expr} {p pos : Pos} {m : En → Rs D}
end
end Mi

set_option Elab.async false
set_option linter.all false
set_option maxRecDepth 100000
set_option maxHeartbeats 4000000
/-! Mi90: bool(an own object), by its __len__ -/
namespace PySem
end PySem
namespace Mi
open PySem PySem.Spec L2
variable [Tb]
section
variable {X : Cx} {W : WX} {k : Nat} {C g : Addr} {fd : FuncData} {ps : List Str} {sp : Sp}
end
section
variable {X : Cx} {W : WX} {k i : Nat} {c : Str} {g : Addr} {fd : FuncData} {ps : List Str} {e : Expr} {p pos : Pos} {m : En → Rs D}
end
end Mi

set_option Elab.async false
set_option linter.all false
set_option maxRecDepth 100000
set_option maxHeartbeats 4000000
/-! Mi91: three names that inner scopes know: a new object of its own, two values -/
namespace Mi
open PySem PySem.Spec PyProof.Rows L2
variable [Tb]
section
variable {X : Cx} {pos : Pos}
end
section
variable {X : Cx} {W : WX} {st : Stmt} {x1 x2 x3 : Expr} {i j l : Nat} {m m2 : En → Rs D} {n : En → Rs Ob}
end
end Mi

set_option Elab.async false
set_option linter.all false
set_option maxRecDepth 100000
set_option maxHeartbeats 4000000
/-! Mi92: try with clauses, in any def -/
namespace Mi
open PySem PySem.Spec PyProof.Rows L2
variable [Tb]
section
variable {X : Cx} {W : WX} {k i : Nat} {c : Str} {g : Addr} {fd : FuncData} {ps : List Str} {a : Expr} {m : En → Rs D}
end
end Mi

set_option Elab.async false
set_option linter.all false
set_option maxRecDepth 100000
set_option maxHeartbeats 4000000
/-! Mi93: a def that tries to call what it got, with a last clause for a built-in class that no exception of the program comes to -/
namespace Mi
open PySem PySem.Spec PyProof.Rows L2
variable [T0 : Tb]
section
variable {X : Cx} {W : WX} {k n : Nat} {io : Option Nat} {cs fs ts : List Str} {bs : List String} {hs : List HM} {mr : En → Rs Fl} {m : En → Rs D} {x a : Str} {g c P : Addr} {fd : FuncData} {params : Arguments} {body : Expr} {scope : Scope} {lpos p pos : Pos}
end
end Mi

set_option Elab.async false
set_option linter.all false
set_option maxRecDepth 100000
set_option maxHeartbeats 4000000
/-! Mi94: a classmethod that makes an object, or raises -/
namespace Mi
open PySem PySem.Spec PyProof.Rows L2 He
variable [Tb]
section
variable {X : Cx} {W : WX} {k : Nat} {C p g : Addr} {mc : Value} {fd : FuncData} {ps ks : List Str} {pm : List Nat} {sp : Sp} {nm : Str} {o e : Expr} {es : List Expr} {kws : List Keyword} {apos pos : Pos} {ta : TE} {t : TA}
end
section
variable {X : Cx} {W : WX} {k n : Nat} {C p g : Addr} {mc : Value} {fd : FuncData} {ps ks : List Str} {pm : List Nat} {nm : Str} {o e : Expr} {es : List Expr} {kws : List Keyword} {apos pos : Pos} {m : En → Rs D} {ma : En → Rs (List D)}
end
/-! ### p = e; if t: raise ..; return cls(..) -/
section
variable {X : Cx} {C : Addr} {E : XK} {m1 mr : En → Rs D} {mt : En → Rs Bool} {mx : En → Rs Fl} {s1 s2 s3 : Stmt}
end
end Mi

set_option Elab.async false
set_option linter.all false
set_option maxRecDepth 100000
set_option maxHeartbeats 4000000
/-! Mi95: a list of anything, and the empty one -/
namespace Mi
open PySem PySem.Spec L2
variable [Tb]
section
variable {K : PySem.W.Frag}
end
end Mi

set_option Elab.async false
set_option linter.all false
set_option maxRecDepth 100000
set_option maxHeartbeats 4000000
/-! Mi96: ==, != and truth of an object of a class without __eq__, __len__, __bool__ -/
namespace Mi
section
open PySem PySem.Spec PyProof.Rows
variable [Tb]
variable {prog : Program} {w : World} {A : Around} {E : Value → Shared → Prop} {s : Shared} {K : W.Frag} {x y C D f : Addr} {ox oy : Obj} {od od2 : Option Obj}
end
end Mi

set_option Elab.async false
set_option linter.all false
set_option maxRecDepth 100000
set_option maxHeartbeats 4000000
/-! Mi97: the rules of Mi96 in a law -/
namespace Mi
open PySem PySem.Spec PyProof.Rows L2
variable [Tb]
section
variable {X : Cx} {k : Nat} {c c2 : Str} {g : Addr} {fd : FuncData} {ps : List Str} {sp : Sp}
end
/-! ### the mirrors -/
section
variable {X : Cx} {W : WX} {k i j : Nat} {c c2 : Str} {g : Addr} {fd : FuncData} {ps : List Str} {a b : Expr} {pos : Pos} {m ma mb : En → Rs D}
end
end Mi

set_option Elab.async false
set_option linter.all false
set_option maxRecDepth 100000
set_option maxHeartbeats 4000000
/-! Mi98: two lists put together, as a new list of one's own -/
namespace Mi
open PySem PySem.Spec L2
variable [Tb]
section
variable {X : Cx} {W : WX} {a b : Expr} {ma mb : En → Rs D} {pos : Pos}
end
end Mi

set_option Elab.async false
set_option linter.all false
set_option maxRecDepth 100000
set_option maxHeartbeats 4000000
/-! Mi99: an attribute of an own object as a target among others -/
namespace Mi
open PySem PySem.Spec PyProof.Rows L2
variable [Tb]
section
variable {X : Cx} {W : WX} {o : Expr} {c f : Str} {pos : Pos} {i : Nat}
end
end Mi

set_option Elab.async false
set_option linter.all false
set_option maxRecDepth 100000
set_option maxHeartbeats 4000000
/-! Mi100: try .. finally, where nothing is raised and both come to their end -/
namespace Mi
open PySem PySem.Spec PyProof.Rows L2
variable [Tb]
section
variable {X : Cx} {W : WX} {k : Nat} {body fs : List Stmt} {f0 : Stmt} {pos : Pos} {mb mf : En → Rs Fl}
end
end Mi

set_option Elab.async false
set_option linter.all false
set_option maxRecDepth 100000
set_option maxHeartbeats 4000000
/-! Mi101: a method of an own object whose last parameter, keyword-only, is left at its default None -/
namespace Mi
open PySem PySem.Spec PyProof.Rows L2
variable [Tb]
section
variable {X : Cx} {W : WX} {k n i : Nat} {c nm : Str} {C : Addr} {f : Addr} {fd : FuncData} {ps : List Str} {o e : Expr} {es : List Expr} {apos pos : Pos} {m : En → Rs D} {mq : En → Rs (List Ar)} {sp : Sp} {ta : TE} {t : TA} {dvs : List V} {ds : List Value}
end
end Mi

set_option Elab.async false
set_option linter.all false
set_option maxRecDepth 100000
set_option maxHeartbeats 4000000
/-! Mi102: what the written part says of a method's keyword-only default None -/
namespace Mi
open PySem PySem.Spec PyProof.Rows L2
end Mi

set_option Elab.async false
set_option linter.all false
set_option maxRecDepth 100000
set_option maxHeartbeats 4000000
/-! Mi103: for each in [a, b]: names' own objects, by a body that stores no name -/
namespace Mi
open PySem PySem.Spec L2
variable [Tb]
/-- as PoS, of a part that stores no name -/
def PoQ (K : PySem.W.Frag) (W : WX) (U : Addr → Prop) (env : En) (σ : St) (H : Hp) (r : Rs Fl) (Dn : Ends) : Prop := match r with
  | .ok fl env' => ∀ H', Ste K U env σ H env' σ H' → PoF K Dn U fl env' σ H'
  | .er x env' => ∀ cls dd H', Ste K U env σ H env' σ H' → ExR K (Ux U env' σ) H' x cls dd → W cls dd σ H'
  | .bad => False
section
variable {K : PySem.W.Frag} {W : WX} {U : Addr → Prop} {env env1 : En} {σ σ1 : St} {H H1 : Hp}
theorem PoQ.shift {r : Rs Fl} {Dn : Ends} (a : Ste K U env σ H env1 σ H1) (h : PoQ K W U env σ H r Dn) : PoQ K W U env1 σ H1 r Dn := by
  cases r with
  | ok d e => exact fun H' b => h H' (a.trans b)
  | er x e => exact fun c d H' b q => h c d H' (a.trans b) q
  | bad => exact h
theorem PoQ.step {α β : Type} {R1 : (Addr → Prop) → St → Hp → α → β → Prop} {r : Rs α} {f : α → En → Rs Fl} {Dn : Ends} {Q1 : β → Hp → Prop} (h : PoQ K W U env σ H (r.bind f) Dn)
    (k : ∀ v H1 d env1, Ste K U env σ H env1 σ H1 → R1 (Ux U env1 σ) σ H1 d v → PoQ K W U env1 σ H1 (f d env1) Dn → Q1 v H1) : Po R1 K W U env σ H r Q1 := by
  cases r with
  | ok d e => exact fun v H' a q => k v H' d e a q (PoQ.shift a h)
  | er x e => exact fun c d H' a q => h c d H' a q
  | bad => exact h
end
section
variable {X : Cx} {W : WX} {st : Stmt} {rest a b : List Stmt} {m n ms ns : En → Rs Fl} {c e : Expr} {t : En → Rs Bool} {me : En → Rs D} {pos : Pos}
end
/-- the object of slot j goes to slot i -/
theorem Ste.mv {K : PySem.W.Frag} {U : Addr → Prop} {env e4 : En} {σ : St} {H : Hp} {i j : Nat} {o : Ob} {p : Addr} (sa : SA K U env σ H) (h : env[j]? = some (.ow o)) (hp : σ[j]? = some (some (V.ref p))) (h4 : ownAt i o (env.set j .un) = some e4) :
    Ste K U env σ H e4 (σ.set i (some (.ref p))) H := (Fre.own2 sa (Fre.take sa h hp) h4).1
end Mi

set_option Elab.async false
set_option linter.all false
set_option maxRecDepth 100000
set_option maxHeartbeats 4000000
/-! Mi104: the loop over a display of names' own objects -/
namespace Mi
open PySem PySem.Spec L2
variable [Tb]
end Mi

set_option Elab.async false
set_option linter.all false
set_option maxRecDepth 100000
set_option maxHeartbeats 4000000
/-! Mi105: a def whose last parameter, keyword-only, has the default None -/
namespace Mi
open PySem PySem.Spec PyProof.Rows L2
end Mi

set_option Elab.async false
set_option linter.all false
set_option maxRecDepth 100000
set_option maxHeartbeats 4000000
/-! Mi106: a tuple turned round by [::-1] -/
namespace HT
open PySem PyProof.Rows
section
variable {prog : Program} {w : World} {A : Around} {E : Value → Shared → Prop} {s : Shared}
end
end HT
namespace Mi
open PySem PySem.Spec PyProof.Rows L2
variable [Tb]
section
variable {X : Cx} {W : WX} {a st : Expr} {m : En → Rs D} {ms : En → Rs (Option Int)} {te : TE} {ts : TO} {pos p2 : Pos}
end
end Mi

set_option Elab.async false
set_option linter.all false
set_option maxRecDepth 100000
set_option maxHeartbeats 4000000
/-! Mi107: raise of a class with an __init__ of its own over another root than ValueError -/
namespace Mi
open PySem PySem.Spec PyProof.Rows L2
variable [Tb]
section
variable {X : Cx} {pins : List (Addr × Obj)} {σ : L2.St} {H : Hp} {s : Shared} {a C : Addr} {f : Str} {y : V} {u : Value} {Q : Unit → Shared → Prop} {E : Value → Shared → Prop} {A : Around} {R : Str} {bt : List Value} {B nid : String}
end
end Mi

set_option Elab.async false
set_option linter.all false
set_option maxRecDepth 100000
set_option maxHeartbeats 4000000
/-! Mi108: list(d.items()) of a dict that is a value -/
namespace Mi
open PySem PySem.Spec PyProof.Rows L2
variable [Tb]
section
variable {X : Cx} {W : WX} {e : Expr} {apos cpos p2 pos2 : Pos} {te : TE}
/-! ### its mirror -/
end
end Mi

set_option Elab.async false
set_option linter.all false
set_option maxRecDepth 100000
set_option maxHeartbeats 4000000
/-! Mi109: y = [.. for x in d], d a dict that is a value -/
namespace Mi
open PySem PySem.Spec L2
variable [Tb]
end Mi

set_option Elab.async false
set_option linter.all false
set_option maxRecDepth 100000
set_option maxHeartbeats 4000000
/-! Mi110: the hook of Mi64 with a quicker list of addresses (what was met stands as bits of one number) -/
namespace Mi
open PySem PySem.Spec PyProof.Rows L2 He
end Mi

set_option Elab.async false
set_option linter.all false
set_option maxRecDepth 100000
set_option maxHeartbeats 4000000
/-! Mi111: a def that returns a new object at more than one place: if c: ..return; rest -/
namespace Mi
open PySem PySem.Spec PyProof.Rows L2
variable [T0 : Tb]
section
variable {X : Cx} {W : WX} {c : Expr} {body rest : List Stmt} {t : En → Rs Bool} {m n : En → Rs Ob} {pos : Pos}
end
end Mi

set_option Elab.async false
set_option linter.all false
set_option maxRecDepth 100000
set_option maxHeartbeats 4000000
/-! Mi112: tuple != tuple where the items are alike by their own __eq__ -/
namespace GN
open PySem PySem.SeqAt
open AutoSeq1 (wpAny_loadPart')
open MeetsSeq MeetsSeq2 MeetsSeq3 SeqRoads2 GQ
section
variable {prog : Program} {w : World} {A : Around} {R : Result → Shared → Prop}
end
section
variable {prog : Program} {w : World} {A : Around} {E : Value → Shared → Prop} {s : Shared}
end
end GN
namespace L2
open PySem PySem.Spec PyProof.Rows
section
variable {X : Cx} {n : Nat} {D : Eqv}
end
end L2
namespace Mi
open PySem PySem.Spec PyProof.Rows L2
variable [T0 : Tb]
theorem SubM.in1 {X : Cx} {n : Nat} {A : Around} (s : SubM X (n + 1) A) : SubM X n A.in1 := ⟨s.room.in1, s.fr, in1_guards.trans s.hg⟩
theorem SubM.mono {X : Cx} {n m : Nat} {A : Around} (s : SubM X n A) (h : m ≤ n) : SubM X m A := ⟨s.room.mono h, s.fr, s.hg⟩
def EqM (X : Cx) (n : Nat) (D : Eqv) : Prop :=
  ∀ (A : Around) (pins : List (Addr × Obj)) (s : Shared) (σ : L2.St) (H : Hp) (x y : V) (u v : Value), SubM X n A → Inv X pins σ H s → RelV x u → RelV y v → LamX.Tabs Tb.T H → D x y H →
    wpAny (model X.prog X.w) A (eqBool u v) (fun r s' => r = true ∧ ∃ H', Inv X pins σ H' s' ∧ Sm H H') X.xe s
section
variable {X : Cx} {n m : Nat} {D D' : Eqv}
theorem EqM.mono (h : EqM X n D) (hn : n ≤ m) : EqM X m D := fun A pins s σ H x y u v sb => h A pins s σ H x y u v (sb.mono hn)
end
/-! ### in data trees -/
section
variable {K : PySem.W.Frag} {U : Addr → Prop} {H : Hp} {c : Str} {m : En → Rs D}
end
section
variable {X : Cx} {W : WX} {k j n : Nat} {c : Str} {g : Addr} {fd : FuncData} {ps : List Str} {a b : Expr} {pos : Pos} {m ma mb : En → Rs D}
end
end Mi

set_option Elab.async false
set_option linter.all false
set_option maxRecDepth 100000
set_option maxHeartbeats 4000000
/-! Mi113: list(d.values()) of a dict that is a value -/
namespace Mi
open PySem PySem.Spec PyProof.Rows L2
variable [Tb]
section
variable {X : Cx} {W : WX} {e : Expr} {apos cpos p2 pos2 : Pos} {te : TE}
/-! ### its mirror -/
end
end Mi

set_option Elab.async false
set_option linter.all false
set_option maxRecDepth 100000
set_option maxHeartbeats 4000000
/-! Mi114: a def that calls itself, so deep at most: the def that is never called -/
namespace Mi
open PySem PySem.Spec PyProof.Rows L2
variable [T0 : Tb]
end Mi

set_option Elab.async false
set_option linter.all false
set_option maxRecDepth 100000
set_option maxHeartbeats 4000000
/-! Mi115: an instance whose attributes hold dicts of its own, changed by its methods: what lies, what moves -/
namespace Mi
open PySem PySem.Spec L2
variable [Tb]
section
variable {K : PySem.W.Frag} {U U' : Addr → Prop} {H H' : Hp} {ds : List D} {vs : List V} {ws : List (Option Addr)}
end
section
variable {K : PySem.W.Frag} {U U' : Addr → Prop} {H H' : Hp} {a : Addr} {ws : List (Option Addr)} {F : D}
theorem VAt.na (v : VAt K U H a ws F) : some a ∉ ws := fun m => by
  obtain ⟨c, ns, ds, dx, xs, e, h, l, f⟩ := v.ex
  obtain ⟨t, ks, ys, q⟩ := f.at m
  cases t with
  | false => obtain ⟨kvs, q, _⟩ := q; rw [h] at q; cases q
  | true => obtain ⟨kvs, q, _⟩ := q; rw [h] at q; cases q
theorem VAt.hn (v : VAt K U H a ws F) {x : Addr} (m : VA a ws x) : ∃ o, HN H x o := by
  obtain ⟨c, ns, ds, dx, xs, e, h, l, f⟩ := v.ex
  rcases m with rfl | m
  · exact ⟨_, h, nt_ins⟩
  · obtain ⟨t, ks, ys, q⟩ := f.at m
    exact q.hn
end
/-! values made of tuples and lists alone -/
section
variable {K : PySem.W.Frag} {U U' : Addr → Prop} {H : Hp}
end
/-! ### a state with such an instance in slot i0 -/
section
variable {K : PySem.W.Frag} {U : Addr → Prop} {i0 : Nat} {a : Addr} {ws ws' ws1 ws2 : List (Option Addr)} {env env' env1 env2 : En} {σ σ' σ1 σ2 : St} {H H' H1 H2 : Hp}
theorem SteV.trans (p : SteV K U i0 a ws env σ H ws1 env1 σ1 H1) (q : SteV K U i0 a ws1 env1 σ1 H1 ws2 env2 σ2 H2) : SteV K U i0 a ws env σ H ws2 env2 σ2 H2 where
  vs := q.vs
  gr := fun x o n h => q.gr x o (fun c => (p.fr x c).elim n fun z => z.no h) (p.gr x o n h)
  fr := fun x c => by
    rcases q.fr x c with z | z
    · exact p.fr x z
    · by_cases n : Chg (hid i0 env) σ x ∨ VA a ws x
      · exact .inl n
      · exact .inr fun o h => z o (p.gr x o n h)
theorem SteV.ku (p : SteV K U i0 a ws env σ H ws1 env1 σ1 H1) {x : Addr} {o : HO} (n : ¬ Ux (VU U a ws) (hid i0 env) σ x) (h : HN H x o) : ¬ Ux (VU U a ws1) (hid i0 env1) σ1 x := by
  have n' : ¬ (Chg (hid i0 env) σ x ∨ VA a ws x) := fun z => n (z.elim .inr fun z => .inl (.inr z))
  rintro ((q | q) | q)
  · exact n (.inl (.inl q))
  · exact (p.fr x (.inr q)).elim n' fun z => z.no h
  · exact (p.fr x (.inl q)).elim n' fun z => z.no h
theorem SteV.kp (p : SteV K U i0 a ws env σ H ws1 env1 σ1 H1) {x : Addr} {o : HO} (n : ¬ Ux (VU U a ws) (hid i0 env) σ x) (h : HN H x o) : HN H1 x o := p.gr x o (fun z => n (z.elim .inr fun z => .inl (.inr z))) h
end
end Mi

set_option Elab.async false
set_option linter.all false
set_option maxRecDepth 100000
set_option maxHeartbeats 4000000
/-! Mi116: looking at such an instance; its statements -/
namespace Mi
open PySem PySem.Spec L2
variable [Tb]
section
variable {K : PySem.W.Frag} {W : WX} {U : Addr → Prop} {i0 : Nat} {a : Addr} {ws : List (Option Addr)} {env : En} {σ : St} {H : Hp}
end
/-! ### mirrors -/
section
variable {K : PySem.W.Frag} {U : Addr → Prop} {i0 : Nat} {a : Addr} {ws ws1 : List (Option Addr)} {env env1 : En} {σ σ1 : St} {H H1 : Hp}
end
section
variable {X : Cx} {W : WX} {i0 : Nat} {a : Addr} {st : Stmt} {rest : List Stmt} {m n : En → Rs Fl} {e c : Expr} {t : En → Rs Bool} {me : En → Rs D} {pos : Pos}
end
end Mi

set_option Elab.async false
set_option linter.all false
set_option maxRecDepth 100000
set_option maxHeartbeats 4000000
/-! Mi117: stores into the dicts of such an instance -/
namespace Mi
open PySem PySem.Spec L2
variable [Tb]
/-- the dict of attribute f changed -/
def updF (f : Str) (g : Ob → Option Ob) : List Str → List D → Option (List D)
  | n :: ns, d :: ds => if n = f then (match d with
      | .dct t ks vs => (match g (.dct t ks vs) with
        | some (.dct t2 ks2 vs2) => some (.dct t2 ks2 vs2 :: ds)
        | _ => none)
      | _ => none) else (updF f g ns ds).map fun r => d :: r
  | _, _ => none
section
variable {K : PySem.W.Frag} {U : Addr → Prop} {H : Hp}
theorem Flds.store {f : Str} {g : Ob → Option Ob} : ∀ {ns : List Str} {ds : List D} {xs : List V} {ws : List (Option Addr)} {ds' : List D}, Flds K U H ds xs ws → ns.length = xs.length → updF f g ns ds = some ds' →
    ∃ b t ks vs t2 ks2 vs2, (ns.zip xs).lookup f = some (.ref b) ∧ some b ∈ ws ∧ RepO K U H (.dct t ks vs) b ∧ lookN f ns ds = some (.dct t ks vs) ∧ g (.dct t ks vs) = some (.dct t2 ks2 vs2) ∧
      ∀ ho, U b → (ws.filterMap id).Nodup → RepO K U (upd H b ho) (.dct t2 ks2 vs2) b → Flds K U (upd H b ho) ds' xs ws
  | [], ds, xs, ws, ds', fl, hl, h => by simp [updF] at h
  | n :: ns, [], xs, ws, ds', fl, hl, h => by simp [updF] at h
  | n :: ns, d :: ds, xs, ws, ds', fl, hl, h => by
    have keep : ∀ {ws' : List (Option Addr)} {b : Addr} {ho : HO} {es : List D} {ys : List V}, Flds K U H es ys ws' → U b → some b ∉ ws' → Flds K U (upd H b ho) es ys ws' := fun {ws' b ho es ys} q ub nb =>
      q.to (fun x o n z => ⟨by rw [upd_ne (show x ≠ b from fun e => n (e ▸ ub))]; exact z.1, z.2⟩) (fun _ _ n _ => n) fun c o m z => ⟨by rw [upd_ne (show c ≠ b from fun e => nb (e ▸ m))]; exact z.1, z.2⟩
    simp only [updF] at h
    by_cases hn : n = f
    · rw [if_pos hn] at h
      cases fl with
      | val hd r t => cases d <;> first | cases h | cases hd
      | @own t ks es ys b _ vs ws hd r q =>
        simp only at h
        cases hg : g (.dct t ks es) with
        | none => simp only [hg] at h; cases h
        | some o2 =>
          cases o2 with
          | lst _ => simp only [hg] at h; cases h
          | ins _ _ _ => simp only [hg] at h; cases h
          | dct t2 ks2 vs2 =>
            simp only [hg] at h
            cases h
            refine ⟨b, t, ks, es, t2, ks2, vs2, by simp [List.lookup, hn], List.mem_cons_self, ⟨_, hd, r⟩, by simp [lookN, hn], hg, fun ho ub nd ro => ?_⟩
            obtain ⟨zs, h1, h2⟩ := ro
            refine .own h1 h2 (keep q ub fun m => ?_)
            rw [show (some b :: ws).filterMap id = b :: ws.filterMap id from rfl] at nd
            exact (List.nodup_cons.mp nd).1 (List.mem_filterMap.mpr ⟨_, m, rfl⟩)
    · rw [if_neg hn] at h
      obtain ⟨r, h1, rfl⟩ := Option.map_eq_some_iff.mp h
      have hnf : (f == n) = false := by simpa using Ne.symm hn
      cases fl with
      | @val _ v _ vs ws hd rd q =>
        obtain ⟨b, t, ks, vs', t2, ks2, vs2, e1, e2, e3, e4, e5, k⟩ := Flds.store q (by simpa using hl) h1
        refine ⟨b, t, ks, vs', t2, ks2, vs2, by simp only [List.zip_cons_cons, List.lookup, hnf]; exact e1, List.mem_cons_of_mem _ e2, e3, by simp [lookN, hn]; exact e4, e5, fun ho ub nd ro => ?_⟩
        exact .val hd (Rep.updU ub rd) (k ho ub (by simpa using nd) ro)
      | @own t ks es ys c _ vs ws hd rd q =>
        obtain ⟨b, t', ks', vs', t2, ks2, vs2, e1, e2, e3, e4, e5, k⟩ := Flds.store q (by simpa using hl) h1
        refine ⟨b, t', ks', vs', t2, ks2, vs2, by simp only [List.zip_cons_cons, List.lookup, hnf]; exact e1, List.mem_cons_of_mem _ e2, e3, by simp [lookN, hn]; exact e4, e5, fun ho ub nd ro => ?_⟩
        rw [show (some c :: ws).filterMap id = c :: ws.filterMap id from rfl] at nd
        obtain ⟨n1, n2⟩ := List.nodup_cons.mp nd
        have ncb : c ≠ b := fun e => n1 (List.mem_filterMap.mpr ⟨_, e ▸ e2, rfl⟩)
        exact .own (hd.to fun o z => ⟨by rw [upd_ne ncb]; exact z.1, z.2⟩) (Reps.updU ub rd) (k ho ub n2 ro)
end
section
variable {K : PySem.W.Frag} {U : Addr → Prop} {i0 : Nat} {a : Addr} {ws : List (Option Addr)} {env : En} {σ : St} {H : Hp}
/-- the dict of an attribute, to be read and written -/
theorem VS.dict (v : VS K U i0 a ws env σ H) {c f : Str} {ns : List Str} {ds ds' : List D} {g : Ob → Option Ob} (he : env[i0]? = some (.v (.obj c ns ds))) (hg : updF f g ns ds = some ds') :
    ∃ b dx xs t ks vs t2 ks2 vs2, H a = some (.ins (He.ga K c) dx (ns.zip xs)) ∧ (ns.zip xs).lookup f = some (.ref b) ∧ VA a ws b ∧ RepO K (Ux (VU U a ws) (hid i0 env) σ) H (.dct t ks vs) b ∧ lookN f ns ds = some (.dct t ks vs) ∧ g (.dct t ks vs) = some (.dct t2 ks2 vs2) ∧
      ∀ ho, RepO K (Ux (VU U a ws) (hid i0 env) σ) (upd H b ho) (.dct t2 ks2 vs2) b → SteV K U i0 a ws env σ H ws (env.set i0 (.v (.obj c ns ds'))) σ (upd H b ho) := by
  obtain ⟨F, e, q⟩ := v.ex
  rw [he] at e
  cases e
  obtain ⟨c', ns', ds1, dx, xs, e, h, l, fl⟩ := q.ex
  cases e
  obtain ⟨b, t, ks, vs, t2, ks2, vs2, e1, e2, e3, e4, e5, k⟩ := fl.store l hg
  have vb : VA a ws b := .inr e2
  have ub : Ux (VU U a ws) (hid i0 env) σ b := .inl (.inr vb)
  have hi : i0 < env.length := (List.getElem?_eq_some_iff.mp he).1
  have hid2 : ∀ F', hid i0 (env.set i0 (.v F')) = hid i0 env := fun F' => by simp [hid, List.set_set]
  refine ⟨b, dx, xs, t, ks, vs, t2, ks2, vs2, h, e1, vb, e3, e4, e5, fun ho ro => ?_⟩
  have nab : a ≠ b := fun z => q.na (z ▸ e2)
  obtain ⟨u, hu, ou⟩ := e3.own
  have nth : OwnO ho := by
    obtain ⟨o, z⟩ := ro.hnO
    have z1 := z.1.1
    rw [upd_same] at z1
    cases z1
    exact z.2
  refine ⟨⟨?_, v.sl, ⟨_, by rw [List.getElem?_set_self hi], ?_⟩, v.dj⟩, fun x o n z => ?_, fun x z => ?_⟩
  · rw [hid2]
    exact v.sa.updU (.inr vb) ⟨u, hu, ou⟩ nth
  · rw [hid2]
    exact ⟨⟨c, ns, ds', dx, xs, rfl, by rw [upd_ne nab]; exact h, l, k ho ub q.nd ro⟩, q.nd⟩
  · exact ⟨by rw [upd_ne (show x ≠ b from fun e => n (.inr (e ▸ vb)))]; exact z.1, z.2⟩
  · rw [hid2] at z
    exact .inl z
end
section
variable {X : Cx} {W : WX} {i0 : Nat} {a : Addr} {st : Stmt} {me mk : En → Rs D} {c f : Str}
end
end Mi

set_option Elab.async false
set_option linter.all false
set_option maxRecDepth 100000
set_option maxHeartbeats 4000000
/-! Mi118: self.f[k] op= e; self.f = a value, a new dict -/
namespace Mi
open PySem PySem.Spec L2
variable [Tb]
section
variable {X : Cx} {W : WX} {i0 : Nat} {a : Addr} {st : Stmt} {me mk : En → Rs D} {c f : Str} {o ke ve : Expr} {pos tpos : Pos} {aop : Operator} {op : Int → Int → Int} {rd : V → V → Hp → VK → Prop}
end
/-! ### attributes laid -/
theorem putF_new {f : Str} {y : V} : ∀ {ns : List Str} {xs : List V}, ns.length = xs.length → hasN f ns = false → putF f y (ns.zip xs) = (ns ++ [f]).zip (xs ++ [y])
  | [], [], _, _ => rfl
  | [], x :: xs, h, _ => by simp at h
  | n :: ns, [], h, _ => by simp at h
  | n :: ns, x :: xs, h, h2 => by
    simp only [hasN, List.mem_cons, not_or, decide_eq_false_iff_not] at h2
    have ih := putF_new (f := f) (y := y) (ns := ns) (xs := xs) (by simpa using h) (by simpa [hasN] using h2.2)
    simp only [List.zip_cons_cons, List.cons_append, putF]
    rw [if_neg (Ne.symm h2.1), ih]
theorem Flds.snoc {K : PySem.W.Frag} {U : Addr → Prop} {H : Hp} {ds : List D} {vs : List V} {ws : List (Option Addr)} {d : D} {x : V} {w : Option Addr} (f : Flds K U H ds vs ws) (h : Flds K U H [d] [x] [w]) : Flds K U H (ds ++ [d]) (vs ++ [x]) (ws ++ [w]) := by
  induction f with
  | nil => exact h
  | val hd r t ih => exact .val hd r ih
  | own h' r q ih => exact .own h' r ih
section
variable {K : PySem.W.Frag} {U : Addr → Prop} {i0 : Nat} {a : Addr} {ws : List (Option Addr)} {env : En} {σ : St} {H : Hp}
theorem hid_self {F : D} : hid i0 (env.set i0 (.v F)) = hid i0 env := by simp [hid, List.set_set]
theorem VS.lay (v : VS K U i0 a ws env σ H) {c f : Str} {ns : List Str} {ds : List D} {d : D} {y : V} (he : env[i0]? = some (.v (.obj c ns ds))) (hf : hasN f ns = false) (hd : isDct d = false) (r : Rep K (Ux (VU U a ws) (hid i0 env) σ) H d y) :
    ∃ dx xs, H a = some (.ins (He.ga K c) dx (ns.zip xs)) ∧ (ns.zip xs).length ≤ ns.length ∧ SteV K U i0 a ws env σ H (ws ++ [none]) (env.set i0 (.v (.obj c (ns ++ [f]) (ds ++ [d])))) σ (upd H a (.ins (He.ga K c) dx (putF f y (ns.zip xs)))) := by
  obtain ⟨F, e, q⟩ := v.ex
  rw [he] at e
  cases e
  obtain ⟨c', ns', ds1, dx, xs, e, h, l, fl⟩ := q.ex
  cases e
  have hi : i0 < env.length := (List.getElem?_eq_some_iff.mp he).1
  have va : VA a ws a := .inl rfl
  have ua : Ux (VU U a ws) (hid i0 env) σ a := .inl (.inr va)
  have e1 : ∀ x, VA a (ws ++ [none]) x ↔ VA a ws x := fun x => by unfold VA; simp
  have e2 : VU U a (ws ++ [none]) = VU U a ws := funext fun x => propext (by unfold VU; rw [e1])
  refine ⟨dx, xs, h, by rw [List.length_zip]; omega, ⟨⟨?_, v.sl, ⟨_, List.getElem?_set_self hi, ?_⟩, fun x m => v.dj x ((e1 x).mp m)⟩, fun x o n z => ?_, fun x z => ?_⟩⟩
  · rw [hid_self, e2]
    exact v.sa.updU (.inr va) ⟨_, h, trivial⟩ trivial
  · rw [hid_self, e2]
    refine ⟨⟨c, ns ++ [f], ds ++ [d], dx, xs ++ [y], rfl, by rw [upd_same, putF_new l hf], by simp [l], ?_⟩, by rw [List.filterMap_append]; simpa using q.nd⟩
    have f2 : Flds K (Ux (VU U a ws) (hid i0 env) σ) (upd H a (.ins (He.ga K c) dx (putF f y (ns.zip xs)))) ds xs ws := fl.to (fun x o n z => ⟨by rw [upd_ne (show x ≠ a from fun e => n (e ▸ ua))]; exact z.1, z.2⟩) (fun _ _ n _ => n) fun b o m z => ⟨by rw [upd_ne (show b ≠ a from fun e => q.na (e ▸ m))]; exact z.1, z.2⟩
    exact f2.snoc (.val hd (Rep.updU ua r) .nil)
  · exact ⟨by rw [upd_ne (show x ≠ a from fun e => n (.inr (e ▸ va)))]; exact z.1, z.2⟩
  · rw [hid_self] at z
    exact .inl (z.imp id (e1 x).mp)
end
section
variable {X : Cx} {W : WX} {i0 : Nat} {a : Addr} {me : En → Rs D} {mo : En → Rs Ob} {c f : Str} {o value : Expr} {pos pos' : Pos}
end
end Mi

set_option Elab.async false
set_option linter.all false
set_option maxRecDepth 100000
set_option maxHeartbeats 4000000
/-! Mi119: methods that change such an instance; an instance made, used, given up -/
namespace Mi
open PySem PySem.Spec L2
variable [Tb]
/-! ### the promise of a method whose first parameter is such an instance -/
def allVal (args : En) : Bool := args.all fun s => match s with
  | .v _ => true
  | _ => false
theorem allVal_ob {args : En} (h : allVal args = true) {i : Nat} {s : Sl} {o : Ob} (h1 : (hid 0 args)[i]? = some s) (h2 : s.ob = some o) : False := by
  by_cases e : i = 0
  · subst e
    rw [hid, List.getElem?_set] at h1
    split at h1
    · split at h1
      · cases h1; cases h2
      · cases h1
    · omega
  · rw [hid, List.getElem?_set_ne (Ne.symm e)] at h1
    have := List.all_eq_true.mp h s (List.mem_of_getElem? h1)
    cases s with
    | un => cases h2
    | v _ => cases h2
    | ow _ => simp at this
    | io _ => simp at this
theorem allVal_chg {args : En} (h : allVal args = true) {σ : St} {x : Addr} : ¬ Chg (hid 0 args) σ x := fun ⟨_, _, _, h1, h2, _⟩ => allVal_ob h h1 h2
section
variable {K : PySem.W.Frag} {U : Addr → Prop} {a : Addr} {ws ws' : List (Option Addr)} {args env' : En} {σ0 σ' : St} {H H' : Hp} {n : Nat}
theorem VS.lt {i0 : Nat} {env : En} {σ : St} (v : VS K U i0 a ws env σ H) : i0 < env.length := by
  obtain ⟨F, e, _⟩ := v.ex
  exact (List.getElem?_eq_some_iff.mp e).1
end
/-! ### a call of such a method -/
section
variable {K : PySem.W.Frag} {U : Addr → Prop} {i0 : Nat} {a : Addr} {ws ws' : List (Option Addr)} {env args' : En} {σ : St} {H H' : Hp} {F d : D} {x : V}
theorem VS.two (v : VS K U i0 a ws env σ H) (he : env[i0]? = some (.v F)) (r : Rep K (Ux (VU U a ws) (hid i0 env) σ) H d x) : VS K (fun y => U y ∨ Chg (hid i0 env) σ y) 0 a ws [.v F, .v d] [some (.ref a), some x] H := by
  have ux : ∀ y, Ux (VU (fun y => U y ∨ Chg (hid i0 env) σ y) a ws) (hid 0 [.v F, .v d]) [some (.ref a), some x] y ↔ Ux (VU U a ws) (hid i0 env) σ y := fun y => by
    constructor
    · rintro (((z | z) | z) | z)
      · exact .inl (.inl z)
      · exact .inr z
      · exact .inl (.inr z)
      · exact (allVal_chg (args := [.v F, .v d]) rfl z).elim
    · rintro ((z | z) | z)
      · exact .inl (.inl (.inl z))
      · exact .inl (.inr z)
      · exact .inl (.inl (.inr z))
  obtain ⟨F', ef, q⟩ := v.ex
  rw [he] at ef
  cases ef
  refine ⟨⟨rfl, v.sa.tb, fun y z => ?_, fun y c => (allVal_chg (args := [.v F, .v d]) rfl c).elim, fun i j s t o p y h1 h2 => (allVal_ob (args := [.v F, .v d]) rfl h1 h2).elim, fun i e h => ?_, fun i s o h1 h2 => (allVal_ob (args := [.v F, .v d]) rfl h1 h2).elim⟩, rfl, ⟨F, rfl, q.to (fun _ _ _ h => h) (fun y o m _ z => m ((ux y).mp z)) fun _ _ _ h => h⟩, fun y m z => ?_⟩
  · rcases z with (z | z) | z
    · exact v.sa.alN y (.inl z)
    · exact v.sa.alxN (.inr z)
    · exact v.sa.alN y (.inr z)
  · match i, h with
    | 1, h =>
      cases h
      exact ⟨x, rfl, Rep.to (fun _ _ _ h => h) (fun y o m _ z => m ((ux y).mp z)) _ _ r⟩
    | 0, h => cases h
    | i + 2, h => cases h
  · exact z.elim (v.dj y m) fun z => v.sa.nu y z (.inr m)
theorem SteV.two (v : VS K U i0 a ws env σ H) {s : Sl} (hs : args'[0]? = some s) (p : SteV K (fun y => U y ∨ Chg (hid i0 env) σ y) 0 a ws [.v F, .v d] [some (.ref a), some x] H ws' args' [some (.ref a), some x] H') :
    SteV K U i0 a ws env σ H ws' (env.set i0 s) σ H' := by
  have nc : ∀ {y}, ¬ Chg (hid 0 [.v F, .v d]) [some (.ref a), some x] y := allVal_chg rfl
  have gr : ∀ y o, ¬ VA a ws y → HN H y o → HN H' y o := fun y o m h => p.gr y o (fun z => z.elim nc m) h
  have fr : ∀ y, VA a ws' y → VA a ws y ∨ NoN H y := fun y m => (p.fr y (.inr m)).imp (fun z => z.elim (fun z => (nc z).elim) id) id
  have eh : hid i0 (env.set i0 s) = hid i0 env := by simp [hid, List.set_set]
  obtain ⟨F', ef, q⟩ := p.vs.ex
  rw [hs] at ef
  cases ef
  have ku : ∀ y o, ¬ Ux (VU U a ws) (hid i0 env) σ y → HN H y o → ¬ Ux (VU U a ws') (hid i0 env) σ y := fun y o m h z => by
    rcases z with (z | z) | z
    · exact m (.inl (.inl z))
    · exact (fr y z).elim (fun z => m (.inl (.inr z))) fun z => z.no h
    · exact m (.inr z)
  have kp : ∀ y o, ¬ Ux (VU U a ws) (hid i0 env) σ y → HN H y o → HN H' y o := fun y o m h => gr y o (fun z => m (.inl (.inr z))) h
  refine ⟨⟨?_, v.sl, ⟨F', List.getElem?_set_self v.lt, ?_⟩, fun y m z => p.vs.dj y m (.inl z)⟩, fun y o m h => gr y o (fun z => m (.inr z)) h, fun y z => ?_⟩
  · rw [eh]
    refine ⟨v.sa.len, p.vs.sa.tb, fun y z => ?_, fun y c z => ?_, v.sa.inj, fun i e h => ?_, fun i s o h1 h2 => ?_⟩
    · rcases z with z | z
      · exact p.vs.sa.alN y (.inl (.inl z))
      · exact p.vs.sa.alN y (.inr z)
    · rcases z with z | z
      · exact v.sa.nu y c (.inl z)
      · rcases fr y z with z | z
        · exact v.sa.nu y c (.inr z)
        · obtain ⟨o, h⟩ := v.sa.alxN (.inr c)
          exact z o h.1
    · obtain ⟨w, e1, r⟩ := v.sa.val i e h
      exact ⟨w, e1, Rep.to kp ku _ _ r⟩
    · obtain ⟨b, e1, r⟩ := v.sa.ob i s o h1 h2
      exact ⟨b, e1, RepO.to kp ku (fun o h => gr b o (fun z => v.sa.nu b ⟨i, s, _, h1, h2, e1⟩ (.inr z)) h) r⟩
  · rw [eh]
    refine q.to (fun _ _ _ h => h) (fun y o m _ z => m ?_) fun _ _ _ h => h
    rcases z with (z | z) | z
    · exact .inl (.inl (.inl z))
    · exact .inl (.inr z)
    · exact .inl (.inl (.inr z))
  · rw [eh] at z
    rcases z with z | z
    · exact .inl (.inl z)
    · exact (fr y z).imp .inr id
end
section
variable {X : Cx} {W : WX} {k i0 : Nat} {a : Addr} {c nm : Str} {f : Addr} {fd : FuncData} {ps : List Str} {o e : Expr} {apos pos epos : Pos} {m me : En → Rs D}
end
end Mi

set_option Elab.async false
set_option linter.all false
set_option maxRecDepth 100000
set_option maxHeartbeats 4000000
/-! Mi120: a def that makes such an instance first, uses it and gives it up -/
namespace Mi
open PySem PySem.Spec L2
variable [Tb]
section
variable {X : Cx} {W : WX} {k : Nat} {c x : Str} {f : Addr} {fd : FuncData} {ps : List Str} {p pos : Pos} {e : Expr} {es : List Expr} {sp : Sp} {t : TA}
end
theorem noOb.chg {env : En} {σ : St} {x : Addr} (h : noOb env) : ¬ Chg env σ x := fun ⟨i, s, o, h1, h2, _⟩ => h i s o h1 h2
section
variable {K : PySem.W.Frag} {U : Addr → Prop} {env : En} {σ : St} {H H1 : Hp} {c : Str} {y dx : Addr} {ds : List D} {vs : List V}
/-- .. and stands in slot i0 behind it -/
theorem VS.made {σ0 : St} {H' : Hp} {i0 : Nat} {F : D} {ws' : List (Option Addr)} {args0 args' : En} {H2 : Hp} (sa : SA K U env σ H) (nob : noOb env) (hi : i0 < env.length) (k1 : ∀ x o, HN H x o → HN H2 x o) (ny : NoN H y)
    (nob0 : noOb (hid 0 args0)) (p : SteV K U 0 y [] args0 σ0 H2 ws' args' σ0 H') (h0 : args'[0]? = some (.v F)) :
    VS K U i0 y ws' (env.set i0 (.v F)) (σ.set i0 (some (.ref y))) H' ∧ (∀ x o, HN H x o → HN H' x o) ∧ ∀ x, VA y ws' x → NoN H x := by
  have va : ∀ x, VA y [] x ↔ x = y := fun x => by unfold VA; simp
  have fr : ∀ x, VA y ws' x → NoN H x := fun x m => by
    rcases p.fr x (.inr m) with (z | z) | z
    · exact (nob0.chg z).elim
    · rw [(va x).mp z]; exact ny
    · exact fun o h => z o (k1 x o h)
  have kp : ∀ x o, HN H x o → HN H' x o := fun x o h => p.gr x o (fun z => z.elim nob0.chg fun z => ny o ((va x).mp z ▸ h)) (k1 x o h)
  have his : i0 < σ.length := by rw [← sa.len]; exact hi
  have eh : hid i0 (env.set i0 (.v F)) = env.set i0 .un := by simp [hid, List.set_set]
  have nob1 : noOb (env.set i0 .un) := nob.set rfl
  obtain ⟨F', ef, q⟩ := p.vs.ex
  rw [h0] at ef
  cases ef
  refine ⟨⟨?_, List.getElem?_set_self his, ⟨F, List.getElem?_set_self hi, ?_⟩, p.vs.dj⟩, kp, fr⟩
  · rw [eh]
    refine ⟨by simp [sa.len], p.vs.sa.tb, p.vs.sa.alN, fun x c => (nob1.chg c).elim, fun i j s t o r x h1 h2 => (nob1 i s o h1 h2).elim, fun i d h => ?_, fun i s o h1 h2 => (nob1 i s o h1 h2).elim⟩
    by_cases e : i0 = i
    · subst e
      rw [List.getElem?_set_self hi] at h
      cases h
    · rw [List.getElem?_set_ne e] at h
      obtain ⟨w, e1, r⟩ := sa.val i d h
      refine ⟨w, by rw [List.getElem?_set_ne e]; exact e1, Rep.to (fun x o _ h => kp x o h) (fun x o n h z => ?_) d w r⟩
      rcases z with (z | z) | z
      · exact n (.inl z)
      · exact fr x z o h
      · exact nob1.chg z
  · rw [eh]
    refine q.to (fun _ _ _ h => h) (fun x o m _ z => m ?_) fun _ _ _ h => h
    rcases z with (z | z) | z
    · exact .inl (.inl z)
    · exact .inl (.inr z)
    · exact (nob1.chg z).elim
end
end Mi

set_option Elab.async false
set_option linter.all false
set_option maxRecDepth 100000
set_option maxHeartbeats 4000000
/-! Mi121: range(a, b, c); the items of a dict whose keys are tuples, walked -/
namespace Mi
open PySem PySem.Spec L2 PyProof.Rows
variable [Tb]
/-! ### range(a, b, c) -/
/-! ### the items of a dict with tuple keys -/
section
variable {P : Program} {w : World} {K : PySem.W.Frag} {d : Addr} {o : Obj} {es : Array DictEntry} {ep : Nat}
end
end Mi

set_option Elab.async false
set_option linter.all false
set_option maxRecDepth 100000
set_option maxHeartbeats 4000000
/-! Mi122: comprehensions over x.f.values() and x.f.items(), x a value -/
namespace Mi
open PySem PySem.Spec L2
variable [Tb]
def isDk : HO → Prop
  | .dK _ => True
  | .dT _ => True
  | _ => False
/-- the dict u at d, locked or not -/
structure LkG (d : Addr) (u : HO) (H H' : Hp) : Prop where
  ne : ∀ a, a ≠ d → H' a = H a
  a : Rd H d u
  b : Rd H' d u
  dk : isDk u
section
variable {K : PySem.W.Frag} {U : Addr → Prop} {d : Addr} {u : HO} {H H' : Hp}
theorem LkG.keep (l : LkG d u H H') {a : Addr} {w : HO} (h : H a = some w) (n1 : ¬ isDk w) (n2 : ∀ o w', w = .frz o w' → ¬ isDk w') : H' a = some w := by
  rw [l.ne a fun e => ?_]
  · exact h
  · subst e
    rcases l.a with q | ⟨o, q⟩
    · rw [h] at q; cases q; exact n1 l.dk
    · rw [h] at q; cases q; exact n2 o u rfl l.dk
theorem LkG.rd (l : LkG d u H H') {a : Addr} {w : HO} (hw : isDk w) (h : Rd H a w) : Rd H' a w := by
  by_cases e : a = d
  · subst e
    have ew : w = u := by
      rcases l.a with q | ⟨o, q⟩
      · rcases h with z | ⟨o2, z⟩
        · rw [q] at z; cases z; rfl
        · rw [q] at z; cases z; exact l.dk.elim
      · rcases h with z | ⟨o2, z⟩
        · rw [q] at z; cases z; exact hw.elim
        · rw [q] at z; cases z; rfl
    rw [ew]
    exact l.b
  · rcases h with z | ⟨o2, z⟩
    · exact .inl (by rw [l.ne a e]; exact z)
    · exact .inr ⟨o2, by rw [l.ne a e]; exact z⟩
end
/-! ### what is walked -/
section
variable {K : PySem.W.Frag} {W : WX} {j : Nat} {c f : Str} {σ : St} {H : Hp}
end
section
variable {X : Cx} {W : WX} {elt tg : Expr} {ifs elts : List Expr} {scope : Scope} {own : List (Str × Nat)} {pos p apos bpos cpos tpos : Pos} {x : Str} {j kk : Nat} {c f : Str} {is : List Nat} {mg : D → En → Option En} {mt : En → Rs Bool} {me : En → Rs D}
end
end Mi

set_option Elab.async false
set_option linter.all false
set_option maxRecDepth 100000
set_option maxHeartbeats 4000000
/-! Mi123: x = [..] beside such an instance; list(d) of an own dict whose keys are tuples -/
namespace Mi
open PySem PySem.Spec PyProof.Rows L2
variable [Tb]
section
variable {X : Cx} {W : WX} {elt tg iter : Expr} {ifs : List Expr} {scope : Scope} {own : List (Str × Nat)} {pos py spos : Pos} {y : Str} {i i0 : Nat} {a : Addr} {is : List Nat} {mi : En → Rs (List D)} {mg : D → En → Option En} {mt : En → Rs Bool} {me : En → Rs D}
end
/-! ### list(d), d an own dict with tuple keys -/
end Mi

set_option Elab.async false
set_option linter.all false
set_option maxRecDepth 100000
set_option maxHeartbeats 4000000
/-! Mi124: a tuple <= a tuple -/
namespace Mi
open PySem PySem.Spec PySem.Calls PySem.W PyProof.Rows L2
variable [Tb]
end Mi

set_option Elab.async false
set_option linter.all false
set_option maxRecDepth 100000
set_option maxHeartbeats 4000000
/-! Mi125: a list turned round, as a new list of one's own; a tuple as a key beside what is one's own -/
namespace Mi
open PySem PySem.Spec L2
variable [Tb]
section
variable {X : Cx} {W : WX} {a st : Expr} {m : En → Rs D} {ms : En → Rs (Option Int)} {pos p2 : Pos}
end
section
variable {X : Cx} {es : List Expr} {ms : En → Option (List D)} {k : Nat} {pos : Pos}
end
end Mi

set_option Elab.async false
set_option linter.all false
set_option maxRecDepth 100000
set_option maxHeartbeats 4000000
/-! Mi126: dict(list of pairs) whose keys are tuples, no two alike -/
namespace Mi
open PySem PySem.Spec PyProof.Rows L2
end Mi

set_option Elab.async false
set_option linter.all false
set_option maxRecDepth 100000
set_option maxHeartbeats 4000000
/-! Mi127: dict(list of pairs) whose keys are tuples, as a dict of one's own -/
namespace Mi
open PySem PySem.Spec PyProof.Rows L2
variable [Tb]
end Mi

set_option Elab.async false
set_option linter.all false
set_option maxRecDepth 100000
set_option maxHeartbeats 4000000
/-! Mi128: sorted(d) of a dict whose keys are tuples -/
namespace Mi
open PySem PySem.Spec PySem.Calls PySem.W PyProof.Rows L2
variable [Tb]
section
variable {X : Cx}
end
end Mi

set_option Elab.async false
set_option linter.all false
set_option maxRecDepth 100000
set_option maxHeartbeats 4000000
/-! Mi129: sorted(d), d an own dict whose keys are tuples -/
namespace Mi
open PySem PySem.Spec PyProof.Rows L2
variable [Tb]
section
variable {X : Cx} {W : WX} {i : Nat} {x : Str} {p pos : Pos} {e a : Expr}
end
end Mi

set_option Elab.async false
set_option linter.all false
set_option maxRecDepth 100000
set_option maxHeartbeats 4000000
/-! Mi130: len(set(x)), x a tuple or list of tuples of texts and whole numbers, no two alike -/
namespace Mi
open PySem PySem.Spec PySem.Calls PySem.W PyProof.Rows L2 Ts
variable [Tb]
def kyV : L2.Key → V
  | .inl i => .int i
  | .inr x => .str x
def kyD : D → Option L2.Key
  | .int i => some (.inl i)
  | .str x => some (.inr x)
  | _ => none
def kyDs : List D → Option (List L2.Key)
  | [] => some []
  | d :: ds => (kyD d).bind fun k => (kyDs ds).map (k :: ·)
def kyTD : D → Option (List L2.Key)
  | .tup ds => kyDs ds
  | _ => none
def kyTs : List D → Option (List (List L2.Key))
  | [] => some []
  | d :: ds => (kyTD d).bind fun k => (kyTs ds).map (k :: ·)
def lenS (ds : List D) : Option D := (kyTs ds).bind fun ks => if ks.length ≤ 200 ∧ ks.Nodup then some (.int ks.length) else none
def gLenS : D → Option D
  | .tup ds => lenS ds
  | .lst ds => lenS ds
  | _ => none
section
variable {K : PySem.W.Frag} {U : Addr → Prop} {H : Hp}
theorem kyDs_v : ∀ {ds : List D} {ks : List L2.Key} {xs : List V}, kyDs ds = some ks → Reps K U H ds xs → xs = ks.map kyV
  | [], ks, xs, h, r => by
    cases h
    exact r
  | d :: ds, ks, xs, h, ⟨x, t, e, r1, r2⟩ => by
    obtain ⟨k, h1, h2⟩ := Option.bind_eq_some_iff.mp h
    obtain ⟨l, h3, rfl⟩ := Option.map_eq_some_iff.mp h2
    rw [e, kyDs_v h3 r2, List.map_cons]
    congr 1
    cases d with
    | int i => cases h1; exact r1
    | str y => cases h1; exact r1
    | _ => cases h1
theorem kyTs_v : ∀ {ds : List D} {kss : List (List L2.Key)} {xs : List V}, kyTs ds = some kss → Reps K U H ds xs → ∃ ks : Rw, ks.map (·.2) = kss ∧ xs = ks.map (fun p => V.ref p.1) ∧ ∀ p ∈ ks, SqT K H p.1 (p.2.map kyV)
  | [], kss, xs, h, r => by
    cases h
    exact ⟨[], rfl, r, fun p hp => by cases hp⟩
  | d :: ds, kss, xs, h, ⟨x, t, e, r1, r2⟩ => by
    obtain ⟨k, h1, h2⟩ := Option.bind_eq_some_iff.mp h
    obtain ⟨l, h3, rfl⟩ := Option.map_eq_some_iff.mp h2
    obtain ⟨ks, e1, e2, e3⟩ := kyTs_v h3 r2
    cases d with
    | tup vs =>
      obtain ⟨a, ys, rfl, h4, _, rs⟩ := r1.tup_sq
      obtain rfl := kyDs_v (show kyDs vs = some k from h1) rs
      refine ⟨(a, k) :: ks, by rw [List.map_cons, e1], by rw [e, e2]; rfl, fun p hp => ?_⟩
      rcases List.mem_cons.mp hp with rfl | hp
      · exact h4.sq
      · exact e3 p hp
    | _ => cases h1
end
theorem items_key {P : Program} {w : World} : ∀ {ks : List L2.Key} {us : List Value}, Vals (ks.map kyV) us → PySem.ItemsAre (mixKind P w) ks us
  | [], _, .nil => .nil
  | k :: ks, _, .cons r t => by
    cases k with
    | inl i =>
      obtain ⟨tk, rfl⟩ := r
      exact .cons (mixKind_int P w i tk) (items_key t)
    | inr x =>
      obtain ⟨tk, rfl⟩ := r
      exact .cons (mixKind_str P w x tk) (items_key t)
theorem refs_key : ∀ {ks : Rw} {us : List Value}, Vals (ks.map fun p => V.ref p.1) us → us = ks.map fun p => Value.ref p.1
  | [], _, .nil => rfl
  | p :: ks, _, .cons r t => by
    cases r
    rw [refs_key t] <;> rfl
section
variable {X : Cx}
theorem isX_of {pins : List (Addr × Obj)} {σ : L2.St} {H : Hp} {s : Shared} {b : Addr} {k : List L2.Key} (I : Inv X pins σ H s) (h : SqT X.K H b (k.map kyV)) : IsX X.prog X.w s.heap k b := by
  obtain ⟨its, r, ⟨o, ho, hc, n, hd⟩, _⟩ := I.tuple h
  exact ⟨o, its.toArray, n, ho, hc, hd, by simpa using items_key r⟩
theorem got_len {ks L : Rw} (nk : (ks.map (·.2)).Nodup) (nl : (L.map (·.2)).Nodup) (g : GotX ks ks.length L) : L.length = ks.length := by
  have p : (L.map (·.2)).Perm (ks.map (·.2)) := (List.perm_ext_iff_of_nodup nl nk).mpr fun k => ⟨fun h => by
    obtain ⟨q, hq, rfl⟩ := List.mem_map.mp h
    exact List.mem_map.mpr ⟨q, List.mem_of_mem_take (g.sub q hq), rfl⟩, fun h => by
    obtain ⟨q, hq, rfl⟩ := List.mem_map.mp h
    exact g.all q (by rw [List.take_length]; exact hq)⟩
  have := p.length_eq
  rw [List.length_map, List.length_map] at this
  exact this
def tLenSetX (K : PySem.W.Frag) (ta : TE) : TE := fun σ H Q => ta σ H fun x H1 => ∃ (l : Addr) (ks : Rw), x = V.ref l ∧ (SqL K H1 l (ks.map fun p => V.ref p.1) ∨ SqT K H1 l (ks.map fun p => V.ref p.1)) ∧ (∀ p ∈ ks, SqT K H1 p.1 (p.2.map kyV)) ∧ ks.length ≤ 200 ∧ (ks.map (·.2)).Nodup ∧ Q (.int ks.length) H1
theorem pe_lenSetX {a : Expr} {ta : TE} {p p2 q pos : Pos} (hc : X.calm = true) (hu : X.A.units + 64 < cLine) (hg : Gl X "len") (hm : X.mg "len" = none) (hg2 : Gl X "set") (hm2 : X.mg "set" = none) (ha : PE X a ta)
    (na : starEach [a] X.env = (false, eval a X.env) :: starEach [] X.env := by rfl) : PE X (.Call (.Name "len" p) [.Call (.Name "set" p2) [a] [] q] [] pos) (tLenSetX X.K ta) := by
  refine ⟨fun pins s σ H Q I h => ?_⟩
  refine Call_ (ld_blt I hg hm PySem.boot_len ?_)
  refine PyProof.Rows.callWith_builtin1 (PyProof.Rows.args_cons ?_ rfl) rfl rfl
  refine Call_ (ld_blt I hg2 hm2 PyProof.Rows.boot_set ?_)
  refine PyProof.Rows.callWith_type1 (PyProof.Rows.args_cons (thn (ha.run pins s σ H _ I h) fun v s1 ⟨x, H1, I1, r1, q1⟩ => PyProof.Rows.args_nil ?_) na) na rfl
  obtain ⟨l, ks, rfl, hq, hk, h1, hnd, q1⟩ := q1
  cases r1
  have hx : ∀ p ∈ ks, IsX X.prog X.w s1.heap p.2 p.1 := fun p hp => isX_of I1 (hk p hp)
  rcases hq with hq | hq
  · obtain ⟨its, rv, pl, hz⟩ := I1.list hq
    refine call_set_x (P := X.prog) (w := X.w) ks (I1.ok.hd hc) pl.isList (by simpa using refs_key rv) hx h1 (by show X.A.units + _ < _; omega) fun s' m => ?_
    obtain ⟨h', tk, L, es, ep, t, rfl, R, g, k⟩ := m
    refine PyProof.Rows.args_nil ?_
    obtain ⟨o, ho, hex, hd⟩ := R.ob
    have hn : es.size = ks.length := (rows_size R.rows).trans (got_len hnd R.nd g)
    have I2 : Inv X pins σ H1 { s1 with heap := h', toks := tk } := I1.kept fun b o e => k b o e
    exact call_len_set ho hex hd (SetX.fits (s := { s1 with heap := h', toks := tk }) R) (by rw [hn]; omega) ⟨.int ks.length, H1, I2.tok _, ⟨_, by rw [hn]⟩, q1⟩
  · obtain ⟨its, rv, pl, hz⟩ := I1.tuple hq
    refine call_set_t (P := X.prog) (w := X.w) ks (I1.ok.hd hc) pl (by simpa using refs_key rv) hx h1 (by show X.A.units + _ < _; omega) fun s' m => ?_
    obtain ⟨h', tk, L, es, ep, t, rfl, R, g, k⟩ := m
    refine PyProof.Rows.args_nil ?_
    obtain ⟨o, ho, hex, hd⟩ := R.ob
    have hn : es.size = ks.length := (rows_size R.rows).trans (got_len hnd R.nd g)
    have I2 : Inv X pins σ H1 { s1 with heap := h', toks := tk } := I1.kept fun b o e => k b o e
    exact call_len_set ho hex hd (SetX.fits (s := { s1 with heap := h', toks := tk }) R) (by rw [hn]; omega) ⟨.int ks.length, H1, I2.tok _, ⟨_, by rw [hn]⟩, q1⟩
variable {W : WX} {a : Expr} {m : En → Rs D} {p p2 q pos : Pos}
theorem ev_lenS (hc : X.calm = true) (hu : X.A.units + 64 < cLine) (hm : X.mg "len" = none) (hm2 : X.mg "set" = none) (ha : Ev X W a m) (hg : Gl X "len" := by rfl) (hg2 : Gl X "set" := by rfl)
    (na : starEach [a] X.env = (false, eval a X.env) :: starEach [] X.env := by rfl) : Ev X W (.Call (.Name "len" p) [.Call (.Name "set" p2) [a] [] q] [] pos) (x1 gLenS m) :=
  PE_imp (pe_lenSetX hc hu hg hm hg2 hm2 ha na) fun σ H Q ⟨U, env, sa, po⟩ => ⟨U, env, sa, Po.step po fun v H1 d e1 a r po1 => by
    obtain ⟨z, hz, q⟩ := Po.of_some a.sa po1
    have r : Rep X.K (Ux U e1 σ) H1 d v := r
    have key : ∀ {ds : List D} {xs : List V}, lenS ds = some z → Reps X.K (Ux U e1 σ) H1 ds xs → ∃ ks : Rw, xs = ks.map (fun p => V.ref p.1) ∧ (∀ p ∈ ks, SqT X.K H1 p.1 (p.2.map kyV)) ∧ ks.length ≤ 200 ∧ (ks.map (·.2)).Nodup ∧ Q (.int ks.length) H1 := fun {ds xs} h rs => by
      obtain ⟨kss, h1, h2⟩ := Option.bind_eq_some_iff.mp h
      obtain ⟨ks, rfl, e2, e3⟩ := kyTs_v h1 rs
      rw [Option.ite_none_right_eq_some] at h2
      obtain ⟨⟨h3, h4⟩, h5⟩ := h2
      cases h5
      rw [List.length_map] at h3
      refine ⟨ks, e2, e3, h3, h4, ?_⟩
      refine q _ H1 (Same.refl H1) ?_
      show V.int _ = V.int _
      rw [List.length_map]
    cases d with
    | tup ds =>
      obtain ⟨b, xs, rfl, h, _, rs⟩ := r.tup_sq
      obtain ⟨ks, rfl, e⟩ := key hz rs
      exact ⟨b, ks, rfl, .inr h.sq, e⟩
    | lst ds =>
      obtain ⟨b, xs, rfl, h, _, rs⟩ := r.lst_sq
      obtain ⟨ks, rfl, e⟩ := key hz rs
      exact ⟨b, ks, rfl, .inl (.of h), e⟩
    | _ => cases hz⟩
end
end Mi

set_option Elab.async false
set_option linter.all false
set_option maxRecDepth 100000
set_option maxHeartbeats 4000000
/-! Mi131: x in t for a tuple t whose items are of any depth -/
namespace Mi
open PySem PySem.Spec PyProof.Rows L2
variable [Tb]
def inTBt (d e : D) : Option Bool := match e with
  | .tup ds => match d.py, (D.tup ds).py with
    | some p, some (.tuple qs) => if SeqAt.shaped p = true ∧ SeqAt.shaped (.tuple qs) = true then some (qs.any fun z => PyData.eqv z p) else none
    | _, _ => none
  | _ => none
def gInTt (d e : D) : Option D := (inTBt d e).map .bl
def gNotInTt (d e : D) : Option D := (inTBt d e).map fun b => .bl (!b)
theorem inTt_core {K : PySem.W.Frag} {U : Addr → Prop} {H : Hp} {x y : V} {d e : D} {b : Bool} (rx : Rep K U H d x) (ry : Rep K U H e y) (hb : inTBt d e = some b) : ∃ p qs, Dp K H x p ∧ Dp K H y (.tuple qs) ∧ SeqAt.shaped p = true ∧ SeqAt.shaped (.tuple qs) = true ∧ (qs.any fun z => PyData.eqv z p) = b := by
  cases e with
  | tup ds =>
    simp only [inTBt] at hb
    cases h1 : d.py with
    | none => rw [h1] at hb; cases hb
    | some p =>
      cases h2 : (D.tup ds).py with
      | none => rw [h1, h2] at hb; cases hb
      | some q =>
        rw [h1, h2] at hb
        cases q with
        | tuple qs =>
          simp only [Option.ite_none_right_eq_some] at hb
          obtain ⟨⟨s1, s2⟩, e⟩ := hb
          exact ⟨p, qs, Rep.dp _ _ _ rx h1, Rep.dp _ _ _ ry h2, s1, s2, Option.some.inj e⟩
        | _ => cases hb
  | _ => simp [inTBt] at hb
section
variable {X : Cx}
def rInDt (K : PySem.W.Frag) : R2 := fun x y H Q => ∃ d ds, Dp K H x d ∧ Dp K H y (.tuple ds) ∧ SeqAt.shaped d = true ∧ SeqAt.shaped (.tuple ds) = true ∧ Q (.bl (ds.any fun z => PyData.eqv z d)) H
def rNotInDt (K : PySem.W.Frag) : R2 := fun x y H Q => ∃ d ds, Dp K H x d ∧ Dp K H y (.tuple ds) ∧ SeqAt.shaped d = true ∧ SeqAt.shaped (.tuple ds) = true ∧ Q (.bl (!ds.any fun z => PyData.eqv z d)) H
theorem op_inTt (hu : X.A.units + 65 < cLine) : OpR X (compareOp .In) (rInDt X.K) := by
  intro pins s σ H x y v u Q I rx ry ⟨d, ds, hd, he, sd, se, q⟩
  obtain ⟨as, r1⟩ := Dp.reads I d x v hd rx
  obtain ⟨bs, r2⟩ := Dp.reads I (.tuple ds) y u he ry
  exact SeqAt.in_tuple_reads r2 r1 (SeqAt.canLay_of_shaped se) (SeqAt.canLay_of_shaped sd) (room_in_shaped sd hu) ⟨.bl _, H, I, rfl, q⟩
theorem op_notInTt (hu : X.A.units + 65 < cLine) : OpR X (compareOp .NotIn) (rNotInDt X.K) := by
  intro pins s σ H x y v u Q I rx ry ⟨d, ds, hd, he, sd, se, q⟩
  obtain ⟨as, r1⟩ := Dp.reads I d x v hd rx
  obtain ⟨bs, r2⟩ := Dp.reads I (.tuple ds) y u he ry
  exact SeqAt.notIn_tuple_reads r2 r1 (SeqAt.canLay_of_shaped se) (SeqAt.canLay_of_shaped sd) (room_in_shaped sd hu) ⟨.bl _, H, I, rfl, q⟩
end
section
variable {K : PySem.W.Frag}
theorem s_inTt : Snd2 K gInTt (rInDt K) := by
  intro U H x y d e z Q al rx ry hz q
  obtain ⟨b, hb, rfl⟩ := Option.map_eq_some_iff.mp hz
  obtain ⟨p, qs, h1, h2, s1, s2, rfl⟩ := inTt_core rx ry hb
  exact ⟨p, qs, h1, h2, s1, s2, q _ H (Same.refl H) rfl⟩
theorem s_notInTt : Snd2 K gNotInTt (rNotInDt K) := by
  intro U H x y d e z Q al rx ry hz q
  obtain ⟨b, hb, rfl⟩ := Option.map_eq_some_iff.mp hz
  obtain ⟨p, qs, h1, h2, s1, s2, rfl⟩ := inTt_core rx ry hb
  exact ⟨p, qs, h1, h2, s1, s2, q _ H (Same.refl H) rfl⟩
end
end Mi

set_option Elab.async false
set_option linter.all false
set_option maxRecDepth 100000
set_option maxHeartbeats 4000000
/-! the mirrors of the defs that several laws share; printed by cm.py -/
namespace Cm
open PySem Mi
instance (priority := 10) tbD : Mi.Tb := Mi.tb0
def m_law_draw_b : En → Rs Fl :=
  (mSeq (mSto 0 gSto (x2 Mi.gAdd (xBor (p2 gIx (pVar 0) (pC (.int 2)))) (xC (.int 1))) (xC (.int 2)))
  (mSeq (mIf (tB1 (x2 gGt (xBor (p2 gIx (pVar 0) (pC (.int 0)))) (xC (.int 0)))) (mSeq (mAsg (gSet 2) (x2 Mi.gMod (xN gInt (xCons (xBor (p2 gIx (pVar 0) (pC (.int 0)))) xNil)) (xVar 1)))
  (mSeq (mSto 0 gSto (x2 Mi.gFdiv (xBor (p2 gIx (pVar 0) (pC (.int 0)))) (xVar 1)) (xC (.int 0)))
  (mRet (xVar 2)))) mNx)
  (mSeq (mAsg (gSet 3) (x2 Mi.gAdd (xN gInt (xCons (xBor (p2 gIx (pVar 0) (pC (.int 1)))) xNil)) (x2 Mi.gMul (xC (.int 65003)) (xBor (p2 gIx (pVar 0) (pC (.int 2)))))))
  (mSeq (mAsg (gSet 4) (x2 Mi.gAdd (x2 Mi.gMod (xN gInt (xCons (xVar 3) xNil)) (xC (.int 60013))) (xC (.int 49003))))
  (mSeq (mSto 0 gSto (x2 Mi.gMod (xN gInt (xCons (x2 Mi.gAdd (x2 Mi.gAdd (x2 Mi.gMul (xVar 3) (xVar 4)) (x2 Mi.gMul (xC (.int 11)) (xBor (p2 gIx (pVar 0) (pC (.int 2)))))) (xC (.int 19))) xNil)) (xC (.int 2147483549))) (xC (.int 1)))
  (mRet (x2 Mi.gMod (x2 Mi.gFdiv (xN gInt (xCons (xBor (p2 gIx (pVar 0) (pC (.int 1)))) xNil)) (xC (.int 509))) (xVar 1))))))))
def m_law_draw : En → Rs D := mDef 2 5 m_law_draw_b
def m_law_marks_b : En → Rs Fl :=
  (mSeq (mOw 2 (fLst (xCons (xC (.str "a")) (xCons (xC (.str "b")) (xCons (xC (.str "c")) (xCons (xC (.str "ab")) (xCons (xC (.str "lamp")) (xCons (xC (.str "marks")) (xCons (xC (.str "nona")) (xCons (xC (.str "x")) (xCons (xC (.str "abcdefgh")) (xCons (xC (.str "aa")) (xCons (xC (.str "z")) (xCons (xC (.str "kind")) (xCons (xC (.str "y")) (xCons (xC (.str "ba")) xNil))))))))))))))))
  (mRet (xN gTuple (xCons (xVal (mLc [3] (xRng1 (xCons (xVar 1) xNil)) (gSet 3) ttYes (lcPush (xMeth 2 gPopAt (xCons (xCall Cm.m_law_draw (qIo 0 (qVal (xBor (pN gLen (psCons (pVar 2) psNil))) qNil))) xNil))))) xNil))))
def m_law_marks : En → Rs D := mDef 2 4 m_law_marks_b
def m_law_one_b : En → Rs Fl :=
  (mRet (x2 gIx (xVar 1) (xCall Cm.m_law_draw (qIo 0 (qVal (xN gLen (xCons (xVar 1) xNil)) qNil)))))
def m_law_one : En → Rs D := mDef 2 2 m_law_one_b
def m_law_numbers_2_b : En → Rs Fl :=
  (mSeq (mAsg (gSet 2) (xCall Cm.m_law_draw (qIo 0 (qVal (xC (.int 5)) qNil))))
  (mSeq (mAsg (gSet 3) (x2 gIx (xLst (xCons (xLst (xCons (xC (.int 0)) (xCons (xC (.int 1)) (xCons (xC (.int 2)) (xCons (xC (.int 3)) xNil))))) (xCons (xLst (xCons (xC (.int 0)) (xCons (xC (.int 0)) (xCons (xC (.int 0)) (xCons (xC (.int 1)) (xCons (xC (.int 5)) xNil)))))) (xCons (xLst (xCons (xC (.int 1)) (xCons (xC (.int 2)) (xCons (xC (.int 3)) (xCons (xC (.int 4)) (xCons (xC (.int 7)) xNil)))))) (xCons (xLst (xCons (xC (.int 0)) (xCons (xC (.int 1)) (xCons (x2 Mi.gPow (xC (.int 10)) (xC (.int 12))) (xCons (x2 Mi.gPow (xC (.int 10)) (xC (.int 6))) xNil))))) (xCons (xLst (xCons (xC (.int 1)) (xCons (xC (.int 1)) (xCons (xC (.int 1)) (xCons (xC (.int 2)) xNil))))) xNil)))))) (xVar 2)))
  (mSeq (mOw 4 (mLc [5] (xRng1 (xCons (xVar 1) xNil)) (gSet 5) ttYes (lcPush (xCall Cm.m_law_one (qIo 0 (qVal (xVar 3) qNil))))))
  (mSeq (mIf (tB1 (x2 gEq (xBor (pN gSum (psCons (pVar 4) psNil))) (xC (.int 0)))) (mSto 4 gSto (xC (.int 1)) (xCall Cm.m_law_draw (qIo 0 (qVal (xVar 1) qNil)))) mNx)
  (mRet (xN gTuple (xCons (xVar 4) xNil)))))))
def m_law_numbers_2 : En → Rs D := mDef 2 6 m_law_numbers_2_b
def m_law_rows_b : En → Rs Fl :=
  (mSeq (mAsg (gSet 1) (xLst (xCons (xC (.str "")) xNil)))
  (mSeq (mFor (xRng1 (xCons (xVar 0) xNil)) (gSet 2) (mSeq (mAsg (gSet 3) (xLst xNil))
  (mSeq (mFor (xIter (xVar 1)) (gSet 4) (mAsg (gSet 3) (x2 Mi.gAdd (xVar 3) (xLst (xCons (x2 Mi.gAdd (xVar 4) (xC (.str "0"))) (xCons (x2 Mi.gAdd (xVar 4) (xC (.str "1"))) xNil))))))
  (mAsg (gSet 1) (xVar 3)))))
  (mRet (xVar 1))))
def m_law_rows : En → Rs D := mDef 1 5 m_law_rows_b
def m_law_shares_b : En → Rs Fl :=
  (mSeq (mAsg (gSet 2) (xCall Cm.m_law_marks (qIo 0 (qVal (x2 Mi.gAdd (xC (.int 1)) (xCall Cm.m_law_draw (qIo 0 (qVal (xVar 1) qNil)))) qNil))))
  (mRet (xLst (xCons (xVar 2) (xCons (xCall Cm.m_law_numbers_2 (qIo 0 (qVal (xN gLen (xCons (xCall Cm.m_law_rows (qVal (xN gLen (xCons (xVar 2) xNil)) qNil)) xNil)) qNil))) xNil)))))
def m_law_shares : En → Rs D := mDef 2 3 m_law_shares_b
def m_is_name_b : En → Rs Fl :=
  (mSeq (mIf (ttOr (ttNot (ttTru (xIsi (isAnyD ["Shares"] isStrD) (xVar 0)))) (ttNot (tB1 (xChain gLe gLe (xC (.int 1)) (xN gLen (xCons (xVar 0) xNil)) (xC (.int 8)))))) (mRet (xC (.bl false))) mNx)
  (mRet (xN gAll (xCons (xVal (mLc [1] (xIter (xVar 0)) (gSet 1) ttYes (lcPush (x2 gIn (xVar 1) (xC (.str "abcdefghijklmnopqrstuvwxyz")))))) xNil))))
def m_is_name : En → Rs D := mDef 1 2 m_is_name_b
def m_wrong_mark_b : En → Rs Fl :=
  (mSeq (mFor (xEnum (xCons (xVar 0) xNil)) (gUnp 2 (gsCons (gSet 1) (gsCons (gSet 2) gsNil))) (mIf (ttOr (tB1 (x2 gEq (xVar 1) (xC (.int 4)))) (ttOr (ttNot (ttTru (xCall Cm.m_is_name (qVal (xVar 2) qNil)))) (tB1 (x2 gIn (xVar 2) (xSl (xVar 0) oNone (oSome (xVar 1))))))) (mRet (xVar 1)) mNx))
  (mRet (xC .non)))
def m_wrong_mark : En → Rs D := mDef 1 3 m_wrong_mark_b
def m_check_marks_b : En → Rs Fl :=
  (mSeq (mIf (ttOr (ttNot (ttTru (xIsi (isAnyD ["Shares"] isTupD) (xVar 0)))) (tB1 (x2 gEq (xVar 0) (xTup xNil)))) (mRaise "InvalidMarks" "index" (xC .non)) mNx)
  (mSeq (mAsg (gSet 1) (xCall Cm.m_wrong_mark (qVal (xVar 0) qNil)))
  (mIf (tB1 (x2 gNotN (xVar 1) (xC .non))) (mRaise "InvalidMarks" "index" (xVar 1)) mNx)))
def m_check_marks : En → Rs D := mDef 1 2 m_check_marks_b
def m_is_integer_b : En → Rs Fl :=
  (mRet (xAnd (xIsi (isAnyD ["Shares"] isIntD) (xVar 0)) (xNot (xIsi (isAnyD ["Shares"] isBoolD) (xVar 0)))))
def m_is_integer : En → Rs D := mDef 1 1 m_is_integer_b
def m_is_between_b : En → Rs Fl :=
  (mRet (xAnd (xCall Cm.m_is_integer (qVal (xVar 0) qNil)) (xChain gLe gLe (xVar 1) (xVar 0) (xVar 2))))
def m_is_between : En → Rs D := mDef 3 3 m_is_between_b
def m_wrong_number_b : En → Rs Fl :=
  (mSeq (mFor (xEnum (xCons (xVar 0) xNil)) (gUnp 2 (gsCons (gSet 1) (gsCons (gSet 2) gsNil))) (mIf (ttNot (ttTru (xCall Cm.m_is_between (qVal (xVar 2) (qVal (xC (.int 0)) (qVal (xC (.int 1000000000000)) qNil)))))) (mRet (xVar 1)) mNx))
  (mRet (xC .non)))
def m_wrong_number : En → Rs D := mDef 1 3 m_wrong_number_b
def m_check_numbers_b : En → Rs Fl :=
  (mSeq (mIf (ttOr (ttNot (ttTru (xIsi (isAnyD ["Shares"] isTupD) (xVar 0)))) (tB1 (x2 gLt (xN gLen (xCons (xVar 0) xNil)) (xVar 1)))) (mRaise "InvalidNumbers" "index" (xC .non)) mNx)
  (mSeq (mAsg (gSet 2) (xCall Cm.m_wrong_number (qVal (xSl (xVar 0) oNone (oSome (xVar 1))) qNil)))
  (mSeq (mIf (tB1 (x2 gNotN (xVar 2) (xC .non))) (mRaise "InvalidNumbers" "index" (xVar 2)) mNx)
  (mSeq (mIf (tB1 (x2 gGt (xN gLen (xCons (xVar 0) xNil)) (xVar 1))) (mRaise "InvalidNumbers" "index" (xVar 1)) mNx)
  (mIf (tB1 (x2 gEq (xN gSum (xCons (xVar 0) xNil)) (xC (.int 0)))) (mRaise "InvalidNumbers" "index" (xC .non)) mNx)))))
def m_check_numbers : En → Rs D := mDef 2 3 m_check_numbers_b
def m_all_rows_b : En → Rs Fl :=
  (mSeq (mAsg (gSet 1) (xLst (xCons (xC (.str "")) xNil)))
  (mSeq (mFor (xRng1 (xCons (xVar 0) xNil)) (gSet 2) (mAsg (gSet 1) (xVal (mLc [3, 4] (xIter (xVar 1)) (gSet 3) ttYes (lcIn [4] (xIter (xC (.str "01"))) (gSet 4) ttYes (lcPush (x2 Mi.gAdd (xVar 3) (xVar 4))))))))
  (mRet (xVar 1))))
def m_all_rows : En → Rs D := mDef 1 5 m_all_rows_b
def m_Shares___init___b : En → Rs Fl :=
  (mSeq (mDrop (xCall Cm.m_check_marks (qVal (xVar 1) qNil)))
  (mSeq (mDrop (xCall Cm.m_check_numbers (qVal (xVar 2) (qVal (xN gLen (xCons (xCall Cm.m_all_rows (qVal (xN gLen (xCons (xVar 1) xNil)) qNil)) xNil)) qNil))))
  (mSeq (mFld 0 "Shares" "marks" (xVar 1))
  (mSeq (mFld 0 "Shares" "numbers" (xVar 2))
  (mSeq (mFld 0 "Shares" "total" (xN gSum (xCons (xVar 2) xNil)))
  (mFld 0 "Shares" "known" (xVal (xNF gZipD (xCons (xCall Cm.m_all_rows (qVal (xN gLen (xCons (xVar 1) xNil)) qNil)) (xCons (xVar 2) xNil))))))))))
def m_Shares___init__ : En → Rs D := mDef 3 3 m_Shares___init___b
def m_Shares___eq___b : En → Rs Fl :=
  (mRet (xAnd (xIsi (isOwnD ["Shares"] "Shares") (xVar 1)) (xAnd (x2 gEq (x1 (gFld "Shares" "marks") (xVar 0)) (x1 (gFld "Shares" "marks") (xVar 1))) (x2 gEq (x1 (gFld "Shares" "numbers") (xVar 0)) (x1 (gFld "Shares" "numbers") (xVar 1))))))
def m_Shares___eq__ : En → Rs D := mDef 2 2 m_Shares___eq___b
def m_law_made_2_b : En → Rs Fl :=
  (mRet (xVal (xMake "Shares" Cm.m_Shares___init__ (xCons (x2 gIx (xVar 0) (xC (.int 0))) (xCons (x2 gIx (xVar 0) (xC (.int 1))) xNil)))))
def m_law_made_2 : En → Rs D := mDef 1 1 m_law_made_2_b
def m_shares_text_b : En → Rs Fl :=
  (mSeq (mAsg (gSet 2) (xVal (mLc [3, 4] (xZip (xCons (xCall Cm.m_all_rows (qVal (xN gLen (xCons (xVar 0) xNil)) qNil)) (xCons (xVar 1) xNil))) (gUnp 2 (gsCons (gSet 3) (gsCons (gSet 4) gsNil))) (tB1 (x2 gGt (xVar 4) (xC (.int 0)))) (lcPush (xFstr (jCons (x1 gFmt (xVar 3)) (jCons (xC (.str ": ")) (jCons (x1 gFmt (xVar 4)) jNil))))))))
  (mRet (xTm gJoin (xC (.str "\n")) (xCons (x2 Mi.gAdd (xLst (xCons (x2 Mi.gAdd (xC (.str "marks ")) (xTm gJoin (xC (.str ", ")) (xCons (xVar 0) xNil))) xNil)) (xVar 2)) xNil))))
def m_shares_text : En → Rs D := mDef 2 5 m_shares_text_b
def m_Shares_text_b : En → Rs Fl :=
  (mRet (xCall Cm.m_shares_text (qVal (x1 (gFld "Shares" "marks") (xVar 0)) (qVal (x1 (gFld "Shares" "numbers") (xVar 0)) qNil))))
def m_Shares_text : En → Rs D := mDef 1 1 m_Shares_text_b
def m_Shares___str___b : En → Rs Fl :=
  (mRet (x1 gFmt (xMth "Shares" "text" Cm.m_Shares_text (xVar 0) xNil)))
def m_Shares___str__ : En → Rs D := mDef 1 1 m_Shares___str___b
def m_Shares___len___b : En → Rs Fl :=
  (mRet (xN gLen (xCons (x1 (gFld "Shares" "numbers") (xVar 0)) xNil)))
def m_Shares___len__ : En → Rs D := mDef 1 1 m_Shares___len___b
def m_is_row_b : En → Rs Fl :=
  (mRet (xAnd (xIsi (isAnyD ["Shares"] isStrD) (xVar 0)) (xAnd (x2 gEq (xN gLen (xCons (xVar 0) xNil)) (xVar 1)) (xN gAll (xCons (xVal (mLc [2] (xIter (xVar 0)) (gSet 2) ttYes (lcPush (x2 gIn (xVar 2) (xC (.str "01")))))) xNil)))))
def m_is_row : En → Rs D := mDef 2 3 m_is_row_b
def m_Shares_many_b : En → Rs Fl :=
  (mRet (xN gLen (xCons (x1 (gFld "Shares" "marks") (xVar 0)) xNil)))
def m_Shares_many : En → Rs D := mDef 1 1 m_Shares_many_b
def m_Shares_number_b : En → Rs Fl :=
  (mSeq (mIf (ttNot (ttTru (xCall Cm.m_is_row (qVal (xVar 1) (qVal (xProp "Shares" Cm.m_Shares_many (xVar 0)) qNil))))) (mRaise "InvalidRow" "value" (xVar 1)) mNx)
  (mRet (x2 gIx (x1 (gFld "Shares" "known") (xVar 0)) (xVar 1))))
def m_Shares_number : En → Rs D := mDef 2 2 m_Shares_number_b
def m_law_bag_b : En → Rs Ob :=
  (nSeq (mPar [2, 3] (xCons (xIf (tB1 (x2 gLt (xVar 1) (xN gLen (xCons (xVar 0) xNil)))) (xN gInt (xCons (x2 gIx (xVar 0) (xVar 1)) xNil)) (xC (.int 0))) (xCons (x2 Mi.gMul (xC (.int 99013)) (x2 Mi.gAdd (xVar 1) (xC (.int 5)))) xNil)))
  (nSeq (mFor (xIter (xSl (xVar 0) oNone (oSome (xC (.int 7))))) (gSet 4) (mAsg (gSet 3) (x2 Mi.gMod (xN gInt (xCons (x2 Mi.gAdd (x2 Mi.gAdd (x2 Mi.gMul (xVar 3) (xC (.int 51713))) (x2 Mi.gMod (xN gInt (xCons (xVar 4) xNil)) (xC (.int 1000121)))) (x2 Mi.gMul (xC (.int 17)) (xVar 1))) xNil)) (xC (.int 2147483549)))))
  (nSeq (mAsg (gSet 5) (xIf (ttOr (tB1 (x2 gLt (xVar 2) (xC (.int 0)))) (tB1 (x2 gGe (xVar 2) (x2 Mi.gPow (xC (.int 10)) (xC (.int 15)))))) (xN gAbs (xCons (xVar 2) xNil)) (xC (.int 0))))
  (fLst (xCons (xVar 5) (xCons (x2 Mi.gMod (xN gInt (xCons (x2 Mi.gAdd (xVar 3) (x2 Mi.gMul (xC (.int 99991)) (x2 Mi.gMod (xN gInt (xCons (xVar 2) xNil)) (xC (.int 999931))))) xNil)) (xC (.int 2147483549))) (xCons (xC (.int 0)) xNil)))))))
def m_law_bag : List D → Rs Ob := mDefN 2 6 m_law_bag_b
def m_law_text_2_b : En → Rs Fl :=
  (mSeq (mParFV 1 2 (fLst (xCons (x2 Mi.gAdd (xC (.str "marks ")) (xTm gJoin (xC (.str ", ")) (xCons (x2 gIx (xVar 0) (xC (.int 0))) xNil))) xNil)) (xCall Cm.m_law_rows (qVal (xN gLen (xCons (x2 gIx (xVar 0) (xC (.int 0))) xNil)) qNil)))
  (mSeq (mFor (xRng1 (xCons (xN gLen (xCons (xVar 2) xNil)) xNil)) (gSet 3) (mIf (tB1 (x2 gGt (x2 gIx (x2 gIx (xVar 0) (xC (.int 1))) (xVar 3)) (xC (.int 0)))) (mDrop (xMeth 1 gApp (xCons (x2 Mi.gAdd (x2 Mi.gAdd (x2 gIx (xVar 2) (xVar 3)) (xC (.str ": "))) (xN gStr (xCons (x2 gIx (x2 gIx (xVar 0) (xC (.int 1))) (xVar 3)) xNil))) xNil))) mNx))
  (mRet (xTm gJoin (xC (.str "\n")) (xCons (xVar 1) xNil)))))
def m_law_text_2 : En → Rs D := mDef 1 4 m_law_text_2_b
def m_number_in_b : En → Rs Fl :=
  (mSeq (mIf (ttOr (tB1 (x2 gEq (xVar 0) (xC (.str "")))) (ttOr (tB1 (x2 gGt (xN gLen (xCons (xVar 0) xNil)) (xC (.int 13)))) (ttNot (ttTru (xN gAll (xCons (xVal (mLc [1] (xIter (xVar 0)) (gSet 1) ttYes (lcPush (x2 gIn (xVar 1) (xC (.str "0123456789")))))) xNil)))))) (mRet (xC .non)) mNx)
  (mRet (xIf (tB1 (x2 gEq (xN gStr (xCons (xN gInt (xCons (xVar 0) xNil)) xNil)) (xVar 0))) (xN gInt (xCons (xVar 0) xNil)) (xC .non))))
def m_number_in : En → Rs D := mDef 1 2 m_number_in_b
def m_shares_in_b : En → Rs Fl :=
  (mSeq (mAsg (gSet 1) (xIf (ttTru (xIsi (isAnyD ["Shares"] isStrD) (xVar 0))) (xTm gSplit (xVar 0) (xCons (xC (.str "\n")) xNil)) (xLst (xCons (xC (.str "")) xNil))))
  (mSeq (mAsg (gSet 2) (xN gTuple (xCons (xTm gSplit (xSl (x2 gIx (xVar 1) (xC (.int 0))) (oSome (xC (.int 6))) oNone) (xCons (xC (.str ", ")) xNil)) xNil)))
  (mSeq (mIf (tB1 (x2 gNotN (xCall Cm.m_wrong_mark (qVal (xVar 2) qNil)) (xC .non))) (mRet (xC .non)) mNx)
  (mSeq (mOw 3 (fDict false))
  (mSeq (mFor (xIter (xSl (xVar 1) (oSome (xC (.int 1))) oNone)) (gSet 4) (mSeq (mAsg (gUnp 3 (gsCons (gSet 5) (gsCons (gSet 6) (gsCons (gSet 7) gsNil)))) (xTm gPart (xVar 4) (xCons (xC (.str ": ")) xNil)))
  (mSto 3 gSto (xCall Cm.m_number_in (qVal (xVar 7) qNil)) (xVar 5))))
  (mSeq (mAsg (gSet 8) (xN gTuple (xCons (xVal (mLc [4] (xIter (xCall Cm.m_all_rows (qVal (xN gLen (xCons (xVar 2) xNil)) qNil))) (gSet 4) ttYes (lcPush (xBor (pGet2 (pVar 3) (pVar 4) (pC (.int 0))))))) xNil)))
  (mSeq (mIf (ttOr (tB1 (x2 gNotN (xCall Cm.m_wrong_number (qVal (xVar 8) qNil)) (xC .non))) (tB1 (x2 gEq (xN gSum (xCons (xVar 8) xNil)) (xC (.int 0))))) (mRet (xC .non)) mNx)
  (mRet (xIf (tB1 (x2 gEq (xCall Cm.m_shares_text (qVal (xVar 2) (qVal (xVar 8) qNil))) (xVar 0))) (xTup (xCons (xVar 2) (xCons (xVar 8) xNil))) (xC .non))))))))))
def m_shares_in : En → Rs D := mDef 1 9 m_shares_in_b
def m_Shares_read_1 : En → Rs D :=
  (xCall Cm.m_shares_in (qVal (xVar 1) qNil))
def m_Shares_read_2 : En → Rs Bool :=
  (tB1 (x2 gIsN (xVar 2) (xC .non)))
def m_Shares_read_3 : En → Rs D :=
  (xVal (xMake "Shares" Cm.m_Shares___init__ (xCons (x2 gIx (xVar 2) (xC (.int 0))) (xCons (x2 gIx (xVar 2) (xC (.int 1))) xNil))))
def m_Shares_read : En → Rs D := readM m_Shares_read_1 m_Shares_read_2 m_Shares_read_3
def m_law_lot_b : En → Rs Fl :=
  (mSeq (mAsg (gSet 2) (xCall Cm.m_law_one (qIo 0 (qVal (xLst (xCons (xC (.int 2)) (xCons (xC (.int 2)) (xCons (xC (.int 3)) (xCons (xC (.int 5)) xNil))))) qNil))))
  (mRet (xN gTuple (xCons (xVal (mLc [3] (xIter (xCall Cm.m_law_rows (qVal (xVar 1) qNil))) (gSet 3) (tB1 (x2 gEq (xCall Cm.m_law_draw (qIo 0 (qVal (xVar 2) qNil))) (xC (.int 0)))) (lcPush (xVar 3)))) xNil))))
def m_law_lot : En → Rs D := mDef 2 4 m_law_lot_b
def m_wrong_in_lot_b : En → Rs Fl :=
  (mSeq (mFor (xEnum (xCons (xVar 0) xNil)) (gUnp 2 (gsCons (gSet 2) (gsCons (gSet 3) gsNil))) (mIf (ttOr (ttNot (ttTru (xCall Cm.m_is_row (qVal (xVar 3) (qVal (xVar 1) qNil))))) (ttAnd (tB1 (x2 gGt (xVar 2) (xC (.int 0)))) (tB1 (x2 gLe (xVar 3) (x2 gIx (xVar 0) (x2 Mi.gSub (xVar 2) (xC (.int 1)))))))) (mRet (xVar 2)) mNx))
  (mRet (xC .non)))
def m_wrong_in_lot : En → Rs D := mDef 2 4 m_wrong_in_lot_b
def m_check_lot_b : En → Rs Fl :=
  (mSeq (mIf (ttNot (ttTru (xIsi (isAnyD ["Shares"] isTupD) (xVar 0)))) (mRaise "InvalidLot" "index" (xC .non)) mNx)
  (mSeq (mAsg (gSet 2) (xCall Cm.m_wrong_in_lot (qVal (xVar 0) (qVal (xVar 1) qNil))))
  (mIf (tB1 (x2 gNotN (xVar 2) (xC .non))) (mRaise "InvalidLot" "index" (xVar 2)) mNx)))
def m_check_lot : En → Rs D := mDef 2 3 m_check_lot_b
def m_Shares_added_b : En → Rs Fl :=
  (mRet (xN gSum (xCons (xVal (mLc [2] (xIter (xVar 1)) (gSet 2) ttYes (lcPush (x2 gIx (x1 (gFld "Shares" "known") (xVar 0)) (xVar 2))))) xNil)))
def m_Shares_added : En → Rs D := mDef 2 3 m_Shares_added_b
def m_is_name_2_b : En → Rs Fl :=
  (mSeq (mIf (ttOr (ttNot (ttTru (xIsi isStrD (xVar 0)))) (ttNot (tB1 (xChain gLe gLe (xC (.int 1)) (xN gLen (xCons (xVar 0) xNil)) (xC (.int 8)))))) (mRet (xC (.bl false))) mNx)
  (mRet (xN gAll (xCons (xVal (mLc [1] (xIter (xVar 0)) (gSet 1) ttYes (lcPush (x2 gIn (xVar 1) (xC (.str "abcdefghijklmnopqrstuvwxyz")))))) xNil))))
def m_is_name_2 : En → Rs D := mDef 1 2 m_is_name_2_b
def m_wrong_mark_2_b : En → Rs Fl :=
  (mSeq (mFor (xEnum (xCons (xVar 0) xNil)) (gUnp 2 (gsCons (gSet 1) (gsCons (gSet 2) gsNil))) (mIf (ttOr (tB1 (x2 gEq (xVar 1) (xC (.int 4)))) (ttOr (ttNot (ttTru (xCall Cm.m_is_name_2 (qVal (xVar 2) qNil)))) (tB1 (x2 gIn (xVar 2) (xSl (xVar 0) oNone (oSome (xVar 1))))))) (mRet (xVar 1)) mNx))
  (mRet (xC .non)))
def m_wrong_mark_2 : En → Rs D := mDef 1 3 m_wrong_mark_2_b
def m_check_marks_2_b : En → Rs Fl :=
  (mSeq (mIf (ttOr (ttNot (ttTru (xIsi isTupD (xVar 0)))) (tB1 (x2 gEq (xVar 0) (xTup xNil)))) (mRaise "InvalidMarks" "index" (xC .non)) mNx)
  (mSeq (mAsg (gSet 1) (xCall Cm.m_wrong_mark_2 (qVal (xVar 0) qNil)))
  (mIf (tB1 (x2 gNotN (xVar 1) (xC .non))) (mRaise "InvalidMarks" "index" (xVar 1)) mNx)))
def m_check_marks_2 : En → Rs D := mDef 1 2 m_check_marks_2_b
def m_is_row_2_b : En → Rs Fl :=
  (mRet (xAnd (xIsi isStrD (xVar 0)) (xAnd (x2 gEq (xN gLen (xCons (xVar 0) xNil)) (xVar 1)) (xN gAll (xCons (xVal (mLc [2] (xIter (xVar 0)) (gSet 2) ttYes (lcPush (x2 gIn (xVar 2) (xC (.str "01")))))) xNil)))))
def m_is_row_2 : En → Rs D := mDef 2 3 m_is_row_2_b
def m_wrong_in_lot_2_b : En → Rs Fl :=
  (mSeq (mFor (xEnum (xCons (xVar 0) xNil)) (gUnp 2 (gsCons (gSet 2) (gsCons (gSet 3) gsNil))) (mIf (ttOr (ttNot (ttTru (xCall Cm.m_is_row_2 (qVal (xVar 3) (qVal (xVar 1) qNil))))) (ttAnd (tB1 (x2 gGt (xVar 2) (xC (.int 0)))) (tB1 (x2 gLe (xVar 3) (x2 gIx (xVar 0) (x2 Mi.gSub (xVar 2) (xC (.int 1)))))))) (mRet (xVar 2)) mNx))
  (mRet (xC .non)))
def m_wrong_in_lot_2 : En → Rs D := mDef 2 4 m_wrong_in_lot_2_b
def m_check_lot_2_b : En → Rs Fl :=
  (mSeq (mIf (ttNot (ttTru (xIsi isTupD (xVar 0)))) (mRaise "InvalidLot" "index" (xC .non)) mNx)
  (mSeq (mAsg (gSet 2) (xCall Cm.m_wrong_in_lot_2 (qVal (xVar 0) (qVal (xVar 1) qNil))))
  (mIf (tB1 (x2 gNotN (xVar 2) (xC .non))) (mRaise "InvalidLot" "index" (xVar 2)) mNx)))
def m_check_lot_2 : En → Rs D := mDef 2 3 m_check_lot_2_b
def m_is_over_b : En → Rs Fl :=
  (mRet (xN gAll (xCons (xVal (mLc [2, 3] (xZip (xCons (xVar 0) (xCons (xVar 1) xNil))) (gUnp 2 (gsCons (gSet 2) (gsCons (gSet 3) gsNil))) ttYes (lcPush (x2 gGe (xVar 2) (xVar 3))))) xNil)))
def m_is_over : En → Rs D := mDef 2 4 m_is_over_b
def m_lacking_row_b : En → Rs Fl :=
  (mSeq (mFor (xIter (xVar 0)) (gSet 2) (mIf (ttTru (xN gAny (xCons (xVal (mLc [3] (xIter (xCall Cm.m_all_rows (qVal (xVar 1) qNil))) (gSet 3) ttYes (lcPush (xAnd (xCall Cm.m_is_over (qVal (xVar 3) (qVal (xVar 2) qNil))) (x2 gNotIn (xVar 3) (xVar 0)))))) xNil))) (mRet (xVar 2)) mNx))
  (mRet (xC .non)))
def m_lacking_row : En → Rs D := mDef 2 4 m_lacking_row_b
def m_is_rising_b : En → Rs Fl :=
  (mSeq (mDrop (xCall Cm.m_check_marks_2 (qVal (xVar 0) qNil)))
  (mSeq (mDrop (xCall Cm.m_check_lot_2 (qVal (xVar 1) (qVal (xN gLen (xCons (xVar 0) xNil)) qNil))))
  (mRet (x2 gIsN (xCall Cm.m_lacking_row (qVal (xVar 1) (qVal (xN gLen (xCons (xVar 0) xNil)) qNil))) (xC .non)))))
def m_is_rising : En → Rs D := mDef 2 2 m_is_rising_b
def m_risen_b : En → Rs Fl :=
  (mRet (xN gTuple (xCons (xVal (mLc [2] (xIter (xCall Cm.m_all_rows (qVal (xVar 1) qNil))) (gSet 2) (ttTru (xN gAny (xCons (xVal (mLc [3] (xIter (xVar 0)) (gSet 3) ttYes (lcPush (xCall Cm.m_is_over (qVal (xVar 2) (qVal (xVar 3) qNil)))))) xNil))) (lcPush (xVar 2)))) xNil)))
def m_risen : En → Rs D := mDef 2 4 m_risen_b
def m_least_of_b : En → Rs Fl :=
  (mRet (xN gTuple (xCons (xVal (mLc [1] (xIter (xVar 0)) (gSet 1) (ttNot (ttTru (xN gAny (xCons (xVal (mLc [2] (xIter (xVar 0)) (gSet 2) ttYes (lcPush (xAnd (x2 gNe (xVar 2) (xVar 1)) (xCall Cm.m_is_over (qVal (xVar 1) (qVal (xVar 2) qNil))))))) xNil)))) (lcPush (xVar 1)))) xNil)))
def m_least_of : En → Rs D := mDef 1 3 m_least_of_b
def m_rising_lots_b : En → Rs Fl :=
  (mSeq (mAsg (gSet 1) (xLst (xCons (xTup xNil) (xCons (xTup (xCons (xC (.str "")) xNil)) xNil))))
  (mSeq (mFor (xRng1 (xCons (xVar 0) xNil)) (gSet 2) (mSeq (mOw 3 (fLst xNil))
  (mSeq (mFor (xIter (xVar 1)) (gSet 4) (mFor (xIter (xVar 1)) (gSet 5) (mIf (ttTru (xN gAll (xCons (xVal (mLc [6] (xIter (xVar 4)) (gSet 6) ttYes (lcPush (x2 gIn (xVar 6) (xVar 5))))) xNil))) (mDrop (xMeth 3 gApp (xCons (xN gTuple (xCons (x2 Mi.gAdd (xVal (mLc [6] (xIter (xVar 4)) (gSet 6) ttYes (lcPush (x2 Mi.gAdd (xC (.str "0")) (xVar 6))))) (xVal (mLc [6] (xIter (xVar 5)) (gSet 6) ttYes (lcPush (x2 Mi.gAdd (xC (.str "1")) (xVar 6)))))) xNil)) xNil))) mNx)))
  (mAsg (gSet 1) (xVar 3)))))
  (mRet (xN gSortX (xCons (xVar 1) xNil)))))
def m_rising_lots : En → Rs D := mDef 1 7 m_rising_lots_b
def m_all_rising_b : En → Rs Fl :=
  (mSeq (mDrop (xCall Cm.m_check_marks_2 (qVal (xVar 0) qNil)))
  (mRet (xN gTuple (xCons (xCall Cm.m_rising_lots (qVal (xN gLen (xCons (xVar 0) xNil)) qNil)) xNil))))
def m_all_rising : En → Rs D := mDef 1 1 m_all_rising_b
def m_law_over_2_b : En → Rs Fl :=
  (mRet (x2 gEq (xVal (mLc [2] (xRng1 (xCons (xN gLen (xCons (xVar 0) xNil)) xNil)) (gSet 2) (tB1 (x2 gLt (x2 gIx (xVar 0) (xVar 2)) (x2 gIx (xVar 1) (xVar 2)))) (lcPush (xVar 2)))) (xLst xNil)))
def m_law_over_2 : En → Rs D := mDef 2 3 m_law_over_2_b
def m_law_risen_b : En → Rs Fl :=
  (mRet (xN gTuple (xCons (xVal (mLc [2] (xIter (xCall Cm.m_law_rows (qVal (xVar 0) qNil))) (gSet 2) (tB1 (x2 gNe (xVal (mLc [3] (xIter (xVar 1)) (gSet 3) (ttTru (xCall Cm.m_law_over_2 (qVal (xVar 2) (qVal (xVar 3) qNil)))) (lcPush (xVar 3)))) (xLst xNil))) (lcPush (xVar 2)))) xNil)))
def m_law_risen : En → Rs D := mDef 2 4 m_law_risen_b
def m_check_shares_b : En → Rs Fl :=
  (mIf (ttNot (ttTru (xIsi (isOwnD ["Shares"] "Shares") (xVar 0)))) (mRaise "NotShares" "value" (xVar 0)) mNx)
def m_check_shares : En → Rs D := mDef 1 1 m_check_shares_b
def m_row_or_b : En → Rs Fl :=
  (mRet (xTm gJoin (xC (.str "")) (xCons (xVal (mLc [2, 3] (xZip (xCons (xVar 0) (xCons (xVar 1) xNil))) (gUnp 2 (gsCons (gSet 2) (gsCons (gSet 3) gsNil))) ttYes (lcPush (xN gMaxB (xCons (xVar 2) (xCons (xVar 3) xNil)))))) xNil)))
def m_row_or : En → Rs D := mDef 2 4 m_row_or_b
def m_row_and_b : En → Rs Fl :=
  (mRet (xTm gJoin (xC (.str "")) (xCons (xVal (mLc [2, 3] (xZip (xCons (xVar 0) (xCons (xVar 1) xNil))) (gUnp 2 (gsCons (gSet 2) (gsCons (gSet 3) gsNil))) ttYes (lcPush (xN gMinB (xCons (xVar 2) (xCons (xVar 3) xNil)))))) xNil)))
def m_row_and : En → Rs D := mDef 2 4 m_row_and_b
def m_passes_at_b : En → Rs Fl :=
  (mRet (x2 gGe (x2 Mi.gMul (x2 gIx (xVar 0) (xCall Cm.m_row_or (qVal (xVar 2) (qVal (xVar 3) qNil)))) (x2 gIx (xVar 1) (xCall Cm.m_row_and (qVal (xVar 2) (qVal (xVar 3) qNil))))) (x2 Mi.gMul (x2 gIx (xVar 0) (xVar 2)) (x2 gIx (xVar 1) (xVar 3)))))
def m_passes_at : En → Rs D := mDef 4 4 m_passes_at_b
def m_first_failing_b : En → Rs Fl :=
  (mSeq (mAsg (gSet 2) (xCall Cm.m_all_rows (qVal (xProp "Shares" Cm.m_Shares_many (xVar 0)) qNil)))
  (mSeq (mFor (xEnum (xCons (xVar 2) xNil)) (gUnp 2 (gsCons (gSet 3) (gsCons (gSet 4) gsNil))) (mFor (xIter (xSl (xVar 2) (oSome (x2 Mi.gAdd (xVar 3) (xC (.int 1)))) oNone)) (gSet 5) (mSeq (mAsg (gSet 6) (xN gLen (xCons (xVal (mLc [7, 8] (xZip (xCons (xVar 4) (xCons (xVar 5) xNil))) (gUnp 2 (gsCons (gSet 7) (gsCons (gSet 8) gsNil))) (tB1 (x2 gNe (xVar 7) (xVar 8))) (lcPush (xVar 7)))) xNil)))
  (mIf (ttAnd (ttOr (ttTru (xVar 1)) (tB1 (x2 gEq (xVar 6) (xC (.int 2))))) (ttNot (ttTru (xCall Cm.m_passes_at (qVal (x1 (gFld "Shares" "known") (xVar 0)) (qVal (x1 (gFld "Shares" "known") (xVar 0)) (qVal (xVar 4) (qVal (xVar 5) qNil)))))))) (mRet (xTup (xCons (xVar 4) (xCons (xVar 5) xNil)))) mNx))))
  (mRet (xC .non))))
def m_first_failing : En → Rs D := mDef 2 9 m_first_failing_b
def m_all_helps_b : En → Rs Fl :=
  (mSeq (mAsg (gSet 1) (xCall Cm.m_rising_lots (qVal (xProp "Shares" Cm.m_Shares_many (xVar 0)) qNil)))
  (mSeq (mAsg (gSet 2) (xVal (mDc true [9] (xIter (xVar 1)) (gSet 9) ttYes (xVar 9) (xMth "Shares" "added" Cm.m_Shares_added (xVar 0) (xCons (xVar 9) xNil)))))
  (mSeq (mOw 3 (fLst xNil))
  (mSeq (mFor (xEnum (xCons (xVar 1) xNil)) (gUnp 2 (gsCons (gSet 4) (gsCons (gSet 5) gsNil))) (mSeq (mAsg (gSet 6) (xVal (mDc false [10] (xIter (xVar 5)) (gSet 10) ttYes (xVar 10) (xC (.bl true)))))
  (mFor (xIter (xSl (xVar 1) (oSome (xVar 4)) oNone)) (gSet 7) (mSeq (mAsg (gSet 8) (xN gTuple (xCons (xVal (mLc [10] (xIter (xVar 7)) (gSet 10) (tB1 (x2 gIn (xVar 10) (xVar 6))) (lcPush (xVar 10)))) xNil)))
  (mDrop (xMeth 3 gApp (xCons (xTup (xCons (x2 Mi.gSub (x2 Mi.gMul (x1 (gFld "Shares" "total") (xVar 0)) (x2 gIx (xVar 2) (xVar 8))) (x2 Mi.gMul (x2 gIx (xVar 2) (xVar 5)) (x2 gIx (xVar 2) (xVar 7)))) (xCons (xVar 5) (xCons (xVar 7) xNil)))) xNil)))))))
  (mRet (xVar 3))))))
def m_all_helps : En → Rs D := mDef 1 11 m_all_helps_b
def m_first_hindering_b : En → Rs Fl :=
  (mSeq (mFor (xIter (xCall Cm.m_all_helps (qVal (xVar 0) qNil))) (gUnp 3 (gsCons (gSet 1) (gsCons (gSet 2) (gsCons (gSet 3) gsNil)))) (mIf (tB1 (x2 gLt (xVar 1) (xC (.int 0)))) (mRet (xTup (xCons (xVar 2) (xCons (xVar 3) xNil)))) mNx))
  (mRet (xC .non)))
def m_first_hindering : En → Rs D := mDef 1 4 m_first_hindering_b
def m_with_sign_b : En → Rs Fl :=
  (mRet (x2 Mi.gAdd (x2 Mi.gAdd (xSl (xVar 0) oNone (oSome (xVar 1))) (xVar 2)) (xSl (xVar 0) (oSome (xVar 1)) oNone)))
def m_with_sign : En → Rs D := mDef 3 3 m_with_sign_b
def m_first_less_b : En → Rs Fl :=
  (mSeq (mFor (xIter (xCall Cm.m_rising_lots (qVal (xProp "Shares" Cm.m_Shares_many (xVar 0)) qNil))) (gSet 2) (mIf (tB1 (x2 gLt (x2 Mi.gMul (xMth "Shares" "added" Cm.m_Shares_added (xVar 0) (xCons (xVar 2) xNil)) (x1 (gFld "Shares" "total") (xVar 1))) (x2 Mi.gMul (xMth "Shares" "added" Cm.m_Shares_added (xVar 1) (xCons (xVar 2) xNil)) (x1 (gFld "Shares" "total") (xVar 0))))) (mRet (xVar 2)) mNx))
  (mRet (xC .non)))
def m_first_less : En → Rs D := mDef 2 3 m_first_less_b
def m_help_between_b : En → Rs Fl :=
  (mSeq (mAsg (gSet 3) (xVal (mLc [4] (xIter (xVar 1)) (gSet 4) (tB1 (x2 gIn (xVar 4) (xVar 2))) (lcPush (xVar 4)))))
  (mRet (x2 Mi.gSub (x2 Mi.gMul (x1 (gFld "Shares" "total") (xVar 0)) (xMth "Shares" "added" Cm.m_Shares_added (xVar 0) (xCons (xVar 3) xNil))) (x2 Mi.gMul (xMth "Shares" "added" Cm.m_Shares_added (xVar 0) (xCons (xVar 1) xNil)) (xMth "Shares" "added" Cm.m_Shares_added (xVar 0) (xCons (xVar 2) xNil))))))
def m_help_between : En → Rs D := mDef 3 5 m_help_between_b
def m_is_lot_b : En → Rs Fl :=
  (mRet (xAnd (xIsi (isAnyD ["Shares"] isTupD) (xVar 0)) (x2 gIsN (xCall Cm.m_wrong_in_lot (qVal (xVar 0) (qVal (xVar 1) qNil))) (xC .non))))
def m_is_lot : En → Rs D := mDef 2 2 m_is_lot_b
def m_is_rising_lot_b : En → Rs Fl :=
  (mRet (xAnd (xCall Cm.m_is_lot (qVal (xVar 0) (qVal (xVar 1) qNil))) (x2 gIsN (xCall Cm.m_lacking_row (qVal (xVar 0) (qVal (xVar 1) qNil))) (xC .non))))
def m_is_rising_lot : En → Rs D := mDef 2 2 m_is_rising_lot_b
def m_help_of_b : En → Rs Fl :=
  (mSeq (mDrop (xCall Cm.m_check_shares (qVal (xVar 0) qNil)))
  (mSeq (mDrop (xCall Cm.m_check_lot (qVal (xVar 1) (qVal (xProp "Shares" Cm.m_Shares_many (xVar 0)) qNil))))
  (mSeq (mDrop (xCall Cm.m_check_lot (qVal (xVar 2) (qVal (xProp "Shares" Cm.m_Shares_many (xVar 0)) qNil))))
  (mRet (xCall Cm.m_help_between (qVal (xVar 0) (qVal (xVar 1) (qVal (xVar 2) qNil))))))))
def m_help_of : En → Rs D := mDef 3 3 m_help_of_b
def m_hindering_b : En → Rs Fl :=
  (mSeq (mDrop (xCall Cm.m_check_shares (qVal (xVar 0) qNil)))
  (mRet (xCall Cm.m_first_hindering (qVal (xVar 0) qNil))))
def m_hindering : En → Rs D := mDef 1 1 m_hindering_b
def m_is_kind_b : En → Rs Fl :=
  (mRet (x2 gIsN (xCall Cm.m_hindering (qVal (xVar 0) qNil)) (xC .non)))
def m_is_kind : En → Rs D := mDef 1 1 m_is_kind_b
def m_most_hindering_b : En → Rs Fl :=
  (mSeq (mDrop (xCall Cm.m_check_shares (qVal (xVar 0) qNil)))
  (mSeq (mAsg (gSet 1) (xC .non))
  (mSeq (mFor (xIter (xCall Cm.m_all_helps (qVal (xVar 0) qNil))) (gUnp 3 (gsCons (gSet 2) (gsCons (gSet 3) (gsCons (gSet 4) gsNil)))) (mIf (ttAnd (tB1 (x2 gLt (xVar 2) (xC (.int 0)))) (ttOr (tB1 (x2 gIsN (xVar 1) (xC .non))) (tB1 (x2 gLt (xVar 2) (x2 gIx (xVar 1) (xC (.int 0))))))) (mAsg (gSet 1) (xTup (xCons (xVar 2) (xCons (xVar 3) (xCons (xVar 4) xNil))))) mNx))
  (mRet (xIf (tB1 (x2 gIsN (xVar 1) (xC .non))) (xC .non) (xSl (xVar 1) (oSome (xC (.int 1))) oNone))))))
def m_most_hindering : En → Rs D := mDef 1 5 m_most_hindering_b
def m_failing_b : En → Rs Fl :=
  (mSeq (mDrop (xCall Cm.m_check_shares (qVal (xVar 0) qNil)))
  (mRet (xCall Cm.m_first_failing (qVal (xVar 0) (qVal (xC (.bl true)) qNil)))))
def m_failing : En → Rs D := mDef 1 1 m_failing_b
def m_fits_b : En → Rs Fl :=
  (mRet (x2 gIsN (xCall Cm.m_failing (qVal (xVar 0) qNil)) (xC .non)))
def m_fits : En → Rs D := mDef 1 1 m_fits_b
def m_near_failing_b : En → Rs Fl :=
  (mSeq (mDrop (xCall Cm.m_check_shares (qVal (xVar 0) qNil)))
  (mRet (xCall Cm.m_first_failing (qVal (xVar 0) (qVal (xC (.bl false)) qNil)))))
def m_near_failing : En → Rs D := mDef 1 1 m_near_failing_b
def m_climbs_b : En → Rs Fl :=
  (mSeq (mDrop (xCall Cm.m_check_shares (qVal (xVar 0) qNil)))
  (mSeq (mPar [1, 2] (xCons (x1 (gFld "Shares" "known") (xVar 0)) (xCons (xCall Cm.m_all_rows (qVal (x2 Mi.gSub (xProp "Shares" Cm.m_Shares_many (xVar 0)) (xC (.int 1))) qNil)) xNil)))
  (mSeq (mFor (xRng1 (xCons (xProp "Shares" Cm.m_Shares_many (xVar 0)) xNil)) (gSet 3) (mFor (xIter (xVar 2)) (gSet 4) (mFor (xIter (xVar 2)) (gSet 5) (mIf (ttTru (xCall Cm.m_is_over (qVal (xVar 5) (qVal (xVar 4) qNil)))) (mSeq (mAsg (gSet 6) (x2 Mi.gMul (x2 gIx (xVar 1) (xCall Cm.m_with_sign (qVal (xVar 5) (qVal (xVar 3) (qVal (xC (.str "1")) qNil))))) (x2 gIx (xVar 1) (xCall Cm.m_with_sign (qVal (xVar 4) (qVal (xVar 3) (qVal (xC (.str "0")) qNil)))))))
  (mIf (tB1 (x2 gLt (xVar 6) (x2 Mi.gMul (x2 gIx (xVar 1) (xCall Cm.m_with_sign (qVal (xVar 4) (qVal (xVar 3) (qVal (xC (.str "1")) qNil))))) (x2 gIx (xVar 1) (xCall Cm.m_with_sign (qVal (xVar 5) (qVal (xVar 3) (qVal (xC (.str "0")) qNil)))))))) (mRet (xC (.bl false))) mNx)) mNx))))
  (mRet (xC (.bl true))))))
def m_climbs : En → Rs D := mDef 1 7 m_climbs_b
def m_spread_b : En → Rs Fl :=
  (mRet (xN gTuple (xCons (xVal (mLc [3] (xIter (xCall Cm.m_all_rows (qVal (xVar 2) qNil))) (gSet 3) (tB1 (x2 gIn (xTm gJoin (xC (.str "")) (xCons (xVal (mLc [4] (xIter (xVar 1)) (gSet 4) ttYes (lcPush (x2 gIx (xVar 3) (xVar 4))))) xNil)) (xVar 0))) (lcPush (xVar 3)))) xNil)))
def m_spread : En → Rs D := mDef 3 5 m_spread_b
def m_check_two_b : En → Rs Fl :=
  (mSeq (mDrop (xCall Cm.m_check_shares (qVal (xVar 0) qNil)))
  (mSeq (mDrop (xCall Cm.m_check_shares (qVal (xVar 1) qNil)))
  (mIf (tB1 (x2 gNe (x1 (gFld "Shares" "marks") (xVar 0)) (x1 (gFld "Shares" "marks") (xVar 1)))) (mRaise0 "OtherMarks") mNx)))
def m_check_two : En → Rs D := mDef 2 2 m_check_two_b
def m_less_at_b : En → Rs Fl :=
  (mSeq (mDrop (xCall Cm.m_check_two (qVal (xVar 0) (qVal (xVar 1) qNil))))
  (mRet (xCall Cm.m_first_less (qVal (xVar 0) (qVal (xVar 1) qNil)))))
def m_less_at : En → Rs D := mDef 2 2 m_less_at_b
def m_is_above_b : En → Rs Fl :=
  (mRet (x2 gIsN (xCall Cm.m_less_at (qVal (xVar 0) (qVal (xVar 1) qNil))) (xC .non)))
def m_is_above : En → Rs D := mDef 2 2 m_is_above_b
def m_law_draw_2_b : En → Rs Fl :=
  (mSeq (mSto 0 gSto (x2 Mi.gAdd (xBor (p2 gIx (pVar 0) (pC (.int 2)))) (xC (.int 1))) (xC (.int 2)))
  (mSeq (mIf (tB1 (x2 gGt (xBor (p2 gIx (pVar 0) (pC (.int 0)))) (xC (.int 0)))) (mSeq (mAsg (gUnp 2 (gsCons (gStoK 0 gSto (.int 0)) (gsCons (gSet 2) gsNil))) (xN gDivmodW (xCons (xBor (p2 gIx (pVar 0) (pC (.int 0)))) (xCons (xVar 1) xNil))))
  (mRet (xVar 2))) mNx)
  (mSeq (mSto 0 gSto (x2 Mi.gMod (xN gInt (xCons (x2 Mi.gAdd (x2 Mi.gAdd (x2 Mi.gMul (xBor (p2 gIx (pVar 0) (pC (.int 1)))) (xC (.int 36007))) (x2 Mi.gMul (xC (.int 8111)) (xBor (p2 gIx (pVar 0) (pC (.int 2)))))) (xC (.int 5))) xNil)) (xC (.int 2147483137))) (xC (.int 1)))
  (mRet (x2 Mi.gMod (xN gInt (xCons (x2 Mi.gFdiv (xBor (p2 gIx (pVar 0) (pC (.int 1)))) (xC (.int 512))) xNil)) (xVar 1))))))
def m_law_draw_2 : En → Rs D := mDef 2 3 m_law_draw_2_b
def m_law_rows_2_b : En → Rs Fl :=
  (mSeq (mAsg (gSet 1) (xLst (xCons (xC (.str "")) xNil)))
  (mSeq (mFor (xRng1 (xCons (xVar 0) xNil)) (gSet 2) (mAsg (gSet 1) (x2 Mi.gAdd (xVal (mLc [3] (xIter (xVar 1)) (gSet 3) ttYes (lcPush (x2 Mi.gAdd (xVar 3) (xC (.str "0")))))) (xVal (mLc [3] (xIter (xVar 1)) (gSet 3) ttYes (lcPush (x2 Mi.gAdd (xVar 3) (xC (.str "1")))))))))
  (mRet (xN gSortX (xCons (xVar 1) xNil)))))
def m_law_rows_2 : En → Rs D := mDef 1 4 m_law_rows_2_b
def m_law_pick_b : En → Rs Fl :=
  (mRet (x2 gIx (xVar 1) (xCall Cm.m_law_draw_2 (qIo 0 (qVal (xN gLen (xCons (xVar 1) xNil)) qNil)))))
def m_law_pick : En → Rs D := mDef 2 2 m_law_pick_b
def m_law_fitted_b : En → Rs Ob :=
  (nSeq (mAsg (gSet 2) (xVal (mLc [4] (xRng1 (xCons (xVar 1) xNil)) (gSet 4) ttYes (lcPush (xTup (xCons (xCall Cm.m_law_draw_2 (qIo 0 (qVal (xC (.int 4)) qNil))) (xCons (xCall Cm.m_law_draw_2 (qIo 0 (qVal (xC (.int 4)) qNil))) xNil)))))))
  (nSeq (mOw 3 (fLst xNil))
  (nSeq (mFor (xRng1 (xCons (xCall Cm.m_law_draw_2 (qIo 0 (qVal (xC (.int 4)) qNil))) xNil)) (gSet 4) (mDrop (xMeth 3 gApp (xCons (xTup (xCons (xCall Cm.m_law_draw_2 (qIo 0 (qVal (xVar 1) qNil))) (xCons (xCall Cm.m_law_draw_2 (qIo 0 (qVal (xVar 1) qNil))) (xCons (x2 Mi.gAdd (xC (.int 1)) (xCall Cm.m_law_draw_2 (qIo 0 (qVal (xC (.int 3)) qNil)))) xNil)))) xNil))))
  (nSeq (mOw 5 (fDict false))
  (nSeq (mFor (xIter (xCall Cm.m_law_rows_2 (qVal (xVar 1) qNil))) (gSet 6) (mSeq (mAsg (gSet 7) (xC (.int 1)))
  (mSeq (mFor (xRng1 (xCons (xVar 1) xNil)) (gSet 4) (mAsg (gSet 7) (x2 Mi.gMul (xVar 7) (x2 gIx (x2 gIx (xVar 2) (xVar 4)) (xN gInt (xCons (x2 gIx (xVar 6) (xVar 4)) xNil))))))
  (mSeq (mFor (xIter (xVar 3)) (gUnp 3 (gsCons (gSet 8) (gsCons (gSet 9) (gsCons (gSet 10) gsNil)))) (mAsg (gSet 7) (x2 Mi.gMul (xVar 7) (xIf (tB1 (x2 gEq (x2 gIx (xVar 6) (xVar 8)) (x2 gIx (xVar 6) (xVar 9)))) (xVar 10) (xC (.int 1))))))
  (mSto 5 gSto (xVar 7) (xVar 6))))))
  (fOwn 5))))))
def m_law_fitted : En → Rs Ob := mDefO 2 11 m_law_fitted_b
def m_law_table_b : En → Rs Fl :=
  (mSeq (mPar [2, 3] (xCons (xCall Cm.m_law_draw_2 (qIo 0 (qVal (xC (.int 7)) qNil))) (xCons (xCall Cm.m_law_rows_2 (qVal (xVar 1) qNil)) xNil)))
  (mSeq (mOw 4 (fDict false))
  (mSeq (mFor (xIter (xVar 3)) (gSet 5) (mSeq (mAsg (gSet 6) (x2 gIx (xLst (xCons (xCall Cm.m_law_draw_2 (qIo 0 (qVal (xC (.int 4)) qNil))) (xCons (x2 Mi.gAdd (xC (.int 1)) (xCall Cm.m_law_draw_2 (qIo 0 (qVal (xC (.int 9)) qNil)))) (xCons (xCall Cm.m_law_pick (qIo 0 (qVal (xLst (xCons (xC (.int 0)) (xCons (xC (.int 0)) (xCons (xC (.int 0)) (xCons (xC (.int 1)) (xCons (xC (.int 2)) xNil)))))) qNil))) xNil)))) (xN gMinB (xCons (xVar 2) (xCons (xC (.int 2)) xNil)))))
  (mSto 4 gSto (xIf (tB1 (x2 gEq (xVar 2) (xC (.int 3)))) (xCall Cm.m_law_pick (qIo 0 (qVal (xLst (xCons (xC (.int 0)) (xCons (xC (.int 1)) (xCons (xCall Cm.m_law_draw_2 (qIo 0 (qVal (x2 Mi.gAdd (x2 Mi.gPow (xC (.int 10)) (xC (.int 12))) (xC (.int 1))) qNil))) (xCons (x2 Mi.gPow (xC (.int 10)) (xC (.int 12))) xNil))))) qNil))) (xVar 6)) (xVar 5))))
  (mSeq (mIf (tB1 (x2 gGt (xVar 2) (xC (.int 3)))) (mOw 4 (xCallO Cm.m_law_fitted (qIo 0 (qVal (xVar 1) qNil)))) mNx)
  (mSeq (mIf (tB1 (x2 gEq (xVar 2) (xC (.int 6)))) (mSto 4 gSto (xCall Cm.m_law_draw_2 (qIo 0 (qVal (xC (.int 9)) qNil))) (xCall Cm.m_law_pick (qIo 0 (qVal (xVar 3) qNil)))) mNx)
  (mSeq (mIf (tB1 (x2 gEq (xN gSum (xCons (xVal (mLc [5] (xIter (xVar 3)) (gSet 5) ttYes (lcPush (xBor (p2 gIx (pVar 4) (pVar 5)))))) xNil)) (xC (.int 0)))) (mSto 4 gSto (xC (.int 1)) (xCall Cm.m_law_pick (qIo 0 (qVal (xVar 3) qNil)))) mNx)
  (mRet (xVar 4))))))))
def m_law_table : En → Rs D := mDef 2 7 m_law_table_b
def m_law_made_b : En → Rs Fl :=
  (mRet (xVal (xMake "Shares" Cm.m_Shares___init__ (xCons (xVar 0) (xCons (xN gTuple (xCons (xVal (mLc [2] (xIter (xN gSortX (xCons (xVar 1) xNil))) (gSet 2) ttYes (lcPush (x2 gIx (xVar 1) (xVar 2))))) xNil)) xNil)))))
def m_law_made : En → Rs D := mDef 2 3 m_law_made_b
def m_law_sum_2_b : En → Rs Fl :=
  (mRet (xN gSum (xCons (xVal (mLc [2] (xIter (xVar 1)) (gSet 2) ttYes (lcPush (x2 gIx (xVar 0) (xVar 2))))) xNil)))
def m_law_sum_2 : En → Rs D := mDef 2 3 m_law_sum_2_b
def m_law_help_2_b : En → Rs Fl :=
  (mSeq (mPar [3, 4] (xCons (xCall Cm.m_law_sum_2 (qVal (xVar 0) (qVal (xVal (mLc [5] (xIter (xVar 1)) (gSet 5) (tB1 (x2 gIn (xVar 5) (xVar 2))) (lcPush (xVar 5)))) qNil))) (xCons (xCall Cm.m_law_sum_2 (qVal (xVar 0) (qVal (xN gSortX (xCons (xVar 0) xNil)) qNil))) xNil)))
  (mRet (x2 Mi.gSub (x2 Mi.gMul (xVar 4) (xVar 3)) (x2 Mi.gMul (xCall Cm.m_law_sum_2 (qVal (xVar 0) (qVal (xVar 1) qNil))) (xCall Cm.m_law_sum_2 (qVal (xVar 0) (qVal (xVar 2) qNil)))))))
def m_law_help_2 : En → Rs D := mDef 3 6 m_law_help_2_b
def m_law_names_b : En → Rs Fl :=
  (mSeq (mOw 2 (fLst xNil))
  (mSeq (mFor (xRng1 (xCons (xVar 1) xNil)) (gSet 3) (mSeq (mAsg (gSet 4) (xC (.str "")))
  (mSeq (mFor (xRng1 (xCons (xCall Cm.m_law_pick (qIo 0 (qVal (xLst (xCons (xC (.int 1)) (xCons (xC (.int 1)) (xCons (xC (.int 2)) (xCons (xC (.int 8)) xNil))))) qNil))) xNil)) (gSet 5) (mAsg (gSet 4) (x2 Mi.gAdd (xVar 4) (xCall Cm.m_law_pick (qIo 0 (qVal (xC (.str "abcdefghijklmnopqrstuvwxyz")) qNil))))))
  (mDrop (xMeth 2 gApp (xCons (x2 gIx (xVal (mLc [6] (xIter (xLst (xCons (xVar 4) (xCons (xC (.str "ma")) (xCons (xC (.str "mb")) (xCons (xC (.str "mc")) (xCons (xC (.str "md")) xNil))))))) (gSet 6) (tP1 (p2 gNotIn (pVar 6) (pVar 2))) (lcPush (xVar 6)))) (xC (.int 0))) xNil))))))
  (mRet (xN gTuple (xCons (xVar 2) xNil)))))
def m_law_names : En → Rs D := mDef 2 7 m_law_names_b
def m_law_jar_b : En → Rs Ob :=
  (nSeq (mAsg (gSet 2) (x2 Mi.gAdd (xC (.int 628318)) (x2 Mi.gMul (xC (.int 30103)) (xVar 1))))
  (nSeq (mFor (xIter (xSl (xVar 0) oNone (oSome (xC (.int 7))))) (gSet 3) (mAsg (gSet 2) (x2 Mi.gMod (xN gInt (xCons (x2 Mi.gAdd (x2 Mi.gAdd (x2 Mi.gMul (xVar 2) (xC (.int 50021))) (x2 Mi.gMul (xN gInt (xCons (xVar 3) xNil)) (xC (.int 23)))) (xVar 1)) xNil)) (xC (.int 2147483137)))))
  (nSeq (mAsg (gSet 4) (xIf (tB1 (x2 gLt (xVar 1) (xN gLen (xCons (xVar 0) xNil)))) (xN gInt (xCons (x2 gIx (xVar 0) (xVar 1)) xNil)) (xVar 2)))
  (fLst (xCons (xIf (ttOr (tB1 (x2 gLt (xVar 4) (xC (.int 0)))) (tB1 (x2 gGe (xVar 4) (x2 Mi.gPow (xC (.int 10)) (xC (.int 18)))))) (xN gAbs (xCons (xVar 4) xNil)) (xC (.int 0))) (xCons (x2 Mi.gMod (xN gInt (xCons (x2 Mi.gAdd (xVar 2) (x2 Mi.gMul (xVar 4) (xC (.int 29)))) xNil)) (xC (.int 2147483137))) (xCons (xC (.int 0)) xNil)))))))
def m_law_jar : List D → Rs Ob := mDefN 2 5 m_law_jar_b
def m_law_lots_2_b : En → Rs Fl :=
  (mSeq (mAsg (gSet 1) (xLst (xCons (xTup xNil) (xCons (xTup (xCons (xC (.str "")) xNil)) xNil))))
  (mSeq (mFor (xRng1 (xCons (xVar 0) xNil)) (gSet 2) (mSeq (mOw 3 (fLst xNil))
  (mSeq (mFor (xIter (xVar 1)) (gSet 4) (mFor (xIter (xVar 1)) (gSet 5) (mIf (tB1 (x2 gEq (xVal (mLc [6] (xIter (xVar 4)) (gSet 6) (tB1 (x2 gNotIn (xVar 6) (xVar 5))) (lcPush (xVar 6)))) (xLst xNil))) (mDrop (xMeth 3 gApp (xCons (xN gTuple (xCons (x2 Mi.gAdd (xVal (mLc [6] (xIter (xVar 4)) (gSet 6) ttYes (lcPush (x2 Mi.gAdd (xC (.str "0")) (xVar 6))))) (xVal (mLc [6] (xIter (xVar 5)) (gSet 6) ttYes (lcPush (x2 Mi.gAdd (xC (.str "1")) (xVar 6)))))) xNil)) xNil))) mNx)))
  (mAsg (gSet 1) (xVar 3)))))
  (mRet (xN gSortX (xCons (xVar 1) xNil)))))
def m_law_lots_2 : En → Rs D := mDef 1 7 m_law_lots_2_b
def m_law_helps_b : En → Rs Fl :=
  (mSeq (mParVF 2 3 (xCall Cm.m_law_lots_2 (qVal (xVar 1) qNil)) (fLst xNil))
  (mSeq (mFor (xRng1 (xCons (xN gLen (xCons (xVar 2) xNil)) xNil)) (gSet 4) (mFor (xIter (xSl (xVar 2) (oSome (xVar 4)) oNone)) (gSet 5) (mDrop (xMeth 3 gApp (xCons (xTup (xCons (xCall Cm.m_law_help_2 (qVal (xVar 0) (qVal (x2 gIx (xVar 2) (xVar 4)) (qVal (xVar 5) qNil)))) (xCons (x2 gIx (xVar 2) (xVar 4)) (xCons (xVar 5) xNil)))) xNil)))))
  (mRet (xVar 3))))
def m_law_helps : En → Rs D := mDef 2 6 m_law_helps_b
def m_law_or_b : En → Rs Fl :=
  (mRet (xTm gJoin (xC (.str "")) (xCons (xVal (mLc [2] (xRng1 (xCons (xN gLen (xCons (xVar 0) xNil)) xNil)) (gSet 2) ttYes (lcPush (xIf (tB1 (x2 gIn (xC (.str "1")) (xLst (xCons (x2 gIx (xVar 0) (xVar 2)) (xCons (x2 gIx (xVar 1) (xVar 2)) xNil))))) (xC (.str "1")) (xC (.str "0")))))) xNil)))
def m_law_or : En → Rs D := mDef 2 3 m_law_or_b
def m_law_and_b : En → Rs Fl :=
  (mRet (xTm gJoin (xC (.str "")) (xCons (xVal (mLc [2] (xRng1 (xCons (xN gLen (xCons (xVar 0) xNil)) xNil)) (gSet 2) ttYes (lcPush (xIf (tB1 (x2 gIn (xC (.str "0")) (xLst (xCons (x2 gIx (xVar 0) (xVar 2)) (xCons (x2 gIx (xVar 1) (xVar 2)) xNil))))) (xC (.str "0")) (xC (.str "1")))))) xNil)))
def m_law_and : En → Rs D := mDef 2 3 m_law_and_b
def m_law_passes_at_b : En → Rs Fl :=
  (mSeq (mAsg (gSet 4) (x2 Mi.gMul (x2 gIx (xVar 0) (xCall Cm.m_law_or (qVal (xVar 2) (qVal (xVar 3) qNil)))) (x2 gIx (xVar 1) (xCall Cm.m_law_and (qVal (xVar 2) (qVal (xVar 3) qNil))))))
  (mRet (x2 gGe (xVar 4) (x2 Mi.gMul (x2 gIx (xVar 0) (xVar 2)) (x2 gIx (xVar 1) (xVar 3))))))
def m_law_passes_at : En → Rs D := mDef 4 5 m_law_passes_at_b
def m_law_failing_b : En → Rs Fl :=
  (mSeq (mAsg (gSet 2) (xN gSortX (xCons (xVar 0) xNil)))
  (mSeq (mFor (xRng1 (xCons (xN gLen (xCons (xVar 2) xNil)) xNil)) (gSet 3) (mFor (xIter (xSl (xVar 2) (oSome (x2 Mi.gAdd (xVar 3) (xC (.int 1)))) oNone)) (gSet 4) (mSeq (mAsg (gSet 5) (xN gLen (xCons (xVal (mLc [6] (xRng1 (xCons (xN gLen (xCons (xVar 4) xNil)) xNil)) (gSet 6) (tB1 (x2 gNe (x2 gIx (xVar 4) (xVar 6)) (x2 gIx (x2 gIx (xVar 2) (xVar 3)) (xVar 6)))) (lcPush (xVar 6)))) xNil)))
  (mIf (ttAnd (tB1 (xChain gLt gLe (xC (.int 1)) (xVar 5) (xVar 1))) (ttNot (ttTru (xCall Cm.m_law_passes_at (qVal (xVar 0) (qVal (xVar 0) (qVal (x2 gIx (xVar 2) (xVar 3)) (qVal (xVar 4) qNil)))))))) (mRet (xTup (xCons (x2 gIx (xVar 2) (xVar 3)) (xCons (xVar 4) xNil)))) mNx))))
  (mRet (xC .non))))
def m_law_failing : En → Rs D := mDef 2 7 m_law_failing_b
def m_law_is_over_b : En → Rs Fl :=
  (mRet (x2 gEq (xVal (mLc [2] (xRng1 (xCons (xN gLen (xCons (xVar 0) xNil)) xNil)) (gSet 2) (ttAnd (tB1 (x2 gEq (x2 gIx (xVar 0) (xVar 2)) (xC (.str "0")))) (tB1 (x2 gEq (x2 gIx (xVar 1) (xVar 2)) (xC (.str "1"))))) (lcPush (xVar 2)))) (xLst xNil)))
def m_law_is_over : En → Rs D := mDef 2 3 m_law_is_over_b
def m_law_two_b : En → Rs Fl :=
  (mSeq (mAsg (gUnp 2 (gsCons (gSet 2) (gsCons (gSet 3) gsNil))) (xTup (xCons (xCall Cm.m_law_table (qIo 0 (qVal (xVar 1) qNil))) (xCons (xCall Cm.m_law_draw_2 (qIo 0 (qVal (xC (.int 5)) qNil))) xNil))))
  (mSeq (mIf (tB1 (x2 gLt (xVar 3) (xC (.int 2)))) (mRet (xTup (xCons (xVar 2) (xCons (xCall Cm.m_law_table (qIo 0 (qVal (xVar 1) qNil))) xNil)))) mNx)
  (mSeq (mOw 4 (xNF gDictL (xCons (xVar 2) xNil)))
  (mSeq (mIf (tB1 (x2 gEq (xVar 3) (xC (.int 2)))) (mOw 4 (xNF gDictL (xCons (xVal (mLc [6] (xIterK 2) (gSet 6) ttYes (lcPush (xTup (xCons (xVar 6) (xCons (xN gMinB (xCons (x2 Mi.gPow (xC (.int 10)) (xC (.int 12))) (xCons (x2 Mi.gMul (x2 gIx (xVar 2) (xVar 6)) (xC (.int 3))) xNil))) xNil)))))) xNil))) mNx)
  (mSeq (mIf (tB1 (x2 gGt (xVar 3) (xC (.int 2)))) (mFor (xRng1 (xCons (x2 Mi.gAdd (xC (.int 1)) (xCall Cm.m_law_draw_2 (qIo 0 (qVal (xC (.int 3)) qNil)))) xNil)) (gSet 5) (mSeq (mPar [6, 7] (xCons (xCall Cm.m_law_pick (qIo 0 (qVal (xCall Cm.m_law_rows_2 (qVal (xVar 1) qNil)) qNil))) (xCons (xCall Cm.m_law_pick (qIo 0 (qVal (xCall Cm.m_law_rows_2 (qVal (xVar 1) qNil)) qNil))) xNil)))
  (mSeq (mPar [6, 7] (xCons (xCall Cm.m_law_or (qVal (xVar 6) (qVal (xVar 7) qNil))) (xCons (xCall Cm.m_law_and (qVal (xVar 6) (qVal (xVar 7) qNil))) xNil)))
  (mSeq (mAsg (gSet 8) (xCall Cm.m_law_draw_2 (qIo 0 (qVal (x2 Mi.gAdd (xBor (p2 gIx (pVar 4) (pVar 6))) (xC (.int 1))) qNil))))
  (mIf (tB1 (x2 gLe (x2 Mi.gAdd (xBor (p2 gIx (pVar 4) (pVar 7))) (xVar 8)) (x2 Mi.gPow (xC (.int 10)) (xC (.int 12))))) (mSeq (mSto 4 gSto (x2 Mi.gSub (xBor (p2 gIx (pVar 4) (pVar 6))) (xVar 8)) (xVar 6))
  (mSto 4 gSto (x2 Mi.gAdd (xBor (p2 gIx (pVar 4) (pVar 7))) (xVar 8)) (xVar 7))) mNx))))) mNx)
  (mRet (xTup (xCons (xVar 2) (xCons (xVar 4) xNil)))))))))
def m_law_two : En → Rs D := mDef 2 9 m_law_two_b
def m_law_less_b : En → Rs Fl :=
  (mSeq (mPar [3, 4] (xCons (xCall Cm.m_law_sum_2 (qVal (xVar 0) (qVal (xN gSortX (xCons (xVar 0) xNil)) qNil))) (xCons (xCall Cm.m_law_sum_2 (qVal (xVar 1) (qVal (xN gSortX (xCons (xVar 1) xNil)) qNil))) xNil)))
  (mSeq (mFor (xIter (xCall Cm.m_law_lots_2 (qVal (xVar 2) qNil))) (gSet 5) (mIf (tB1 (x2 gLt (x2 Mi.gMul (xCall Cm.m_law_sum_2 (qVal (xVar 0) (qVal (xVar 5) qNil))) (xVar 4)) (x2 Mi.gMul (xCall Cm.m_law_sum_2 (qVal (xVar 1) (qVal (xVar 5) qNil))) (xVar 3)))) (mRet (xVar 5)) mNx))
  (mRet (xC .non))))
def m_law_less : En → Rs D := mDef 3 6 m_law_less_b
def m_law_drip_b : En → Rs Fl :=
  (mSeq (mIf (tB1 (x2 gGt (xBor (p2 gIx (pVar 0) (pC (.int 0)))) (xC (.int 0)))) (mSeq (mAsg (gUnp 2 (gsCons (gStoK 0 gSto (.int 0)) (gsCons (gSet 2) gsNil))) (xN gDivmodW (xCons (xBor (p2 gIx (pVar 0) (pC (.int 0)))) (xCons (xVar 1) xNil))))
  (mRet (xVar 2))) mNx)
  (mSeq (mSto 0 gSto (x2 Mi.gMod (xN gInt (xCons (x2 Mi.gAdd (x2 Mi.gMul (xBor (p2 gIx (pVar 0) (pC (.int 1)))) (xC (.int 65003))) (xC (.int 19001))) xNil)) (xC (.int 2147482801))) (xC (.int 1)))
  (mRet (x2 Mi.gMod (xN gInt (xCons (x2 Mi.gFdiv (xBor (p2 gIx (pVar 0) (pC (.int 1)))) (xC (.int 941))) xNil)) (xVar 1)))))
def m_law_drip : En → Rs D := mDef 2 3 m_law_drip_b
def m_law_shuffled_b : En → Rs Fl :=
  (mSeq (mPar [2, 3] (xCons (xLst xNil) (xCons (xN gList (xCons (xVar 1) xNil)) xNil)))
  (mSeq (mFor (xRng1 (xCons (xN gLen (xCons (xVar 1) xNil)) xNil)) (gSet 4) (mSeq (mAsg (gSet 5) (xCall Cm.m_law_drip (qIo 0 (qVal (xN gLen (xCons (xVar 3) xNil)) qNil))))
  (mPar [2, 3] (xCons (x2 Mi.gAdd (xVar 2) (xLst (xCons (x2 gIx (xVar 3) (xVar 5)) xNil))) (xCons (x2 Mi.gAdd (xSl (xVar 3) oNone (oSome (xVar 5))) (xSl (xVar 3) (oSome (x2 Mi.gAdd (xVar 5) (xC (.int 1)))) oNone)) xNil)))))
  (mRet (xVar 2))))
def m_law_shuffled : En → Rs D := mDef 2 6 m_law_shuffled_b
def m_law_tags_b : En → Rs Fl :=
  (mSeq (mAsg (gSet 2) (xLst (xCons (xC (.str "a")) (xCons (xC (.str "b")) (xCons (xC (.str "c")) (xCons (xC (.str "lamp")) (xCons (xC (.str "door")) (xCons (xC (.str "marks")) (xCons (xC (.str "abcdefgh")) (xCons (xC (.str "zz")) (xCons (xC (.str "none")) (xCons (xC (.str "x")) (xCons (xC (.str "kind")) xNil)))))))))))))
  (mRet (xN gTuple (xCons (xSl (xCall Cm.m_law_shuffled (qIo 0 (qVal (xVar 2) qNil))) oNone (oSome (xVar 1))) xNil))))
def m_law_tags : En → Rs D := mDef 2 3 m_law_tags_b
def m_law_can_b : En → Rs Ob :=
  (nSeq (mAsg (gSet 2) (xIf (tB1 (x2 gLt (xVar 1) (xN gLen (xCons (xVar 0) xNil)))) (x2 gIx (xVar 0) (xVar 1)) (x2 Mi.gMul (xC (.int 47017)) (x2 Mi.gAdd (xVar 1) (xC (.int 11))))))
  (nSeq (mAsg (gSet 3) (x2 Mi.gAdd (xC (.int 36007)) (x2 Mi.gMul (xC (.int 7019)) (xVar 1))))
  (nSeq (mFor (xIter (x2 Mi.gAdd (xSl (xVar 0) oNone (oSome (xC (.int 4)))) (xLst (xCons (xVar 2) xNil)))) (gSet 4) (mAsg (gSet 3) (x2 Mi.gMod (xN gInt (xCons (x2 Mi.gAdd (x2 Mi.gAdd (x2 Mi.gMul (xVar 3) (xC (.int 42013))) (x2 Mi.gMod (xN gInt (xCons (xVar 4) xNil)) (xC (.int 2147482801)))) (xC (.int 67))) xNil)) (xC (.int 2147482801)))))
  (fLst (xCons (xIf (ttOr (tB1 (x2 gLt (xVar 2) (xC (.int 0)))) (tB1 (x2 gGe (xVar 2) (x2 Mi.gPow (xC (.int 10)) (xC (.int 17)))))) (xN gAbs (xCons (xVar 2) xNil)) (xC (.int 0))) (xCons (xVar 3) xNil))))))
def m_law_can : List D → Rs Ob := mDefN 2 5 m_law_can_b
def m_law_one_2_b : En → Rs Fl :=
  (mRet (x2 gIx (xVar 1) (xCall Cm.m_law_drip (qIo 0 (qVal (xN gLen (xCons (xVar 1) xNil)) qNil)))))
def m_law_one_2 : En → Rs D := mDef 2 2 m_law_one_2_b
def m_law_all_b : En → Rs Fl :=
  (mSeq (mAsg (gSet 1) (xLst (xCons (xC (.str "")) xNil)))
  (mSeq (mFor (xRng1 (xCons (xVar 0) xNil)) (gSet 2) (mSeq (mAsg (gSet 3) (xLst xNil))
  (mSeq (mFor (xIter (xVar 1)) (gSet 4) (mAsg (gSet 3) (x2 Mi.gAdd (xVar 3) (xLst (xCons (x2 Mi.gAdd (xVar 4) (xC (.str "0"))) (xCons (x2 Mi.gAdd (xVar 4) (xC (.str "1"))) xNil))))))
  (mAsg (gSet 1) (xVar 3)))))
  (mRet (xVar 1))))
def m_law_all : En → Rs D := mDef 1 5 m_law_all_b
def m_law_numbers_b : En → Rs Fl :=
  (mSeq (mAsg (gSet 3) (xLst (xCons (xC (.int 0)) (xCons (xC (.int 1)) (xCons (xC (.int 2)) (xCons (xC (.int 3)) (xCons (xVar 2) (xCons (xC (.int 1)) (xCons (xCall Cm.m_law_drip (qIo 0 (qVal (x2 Mi.gAdd (xVar 2) (xC (.int 1))) qNil))) xNil)))))))))
  (mSeq (mOw 4 (mLc [5] (xIter (xCall Cm.m_law_all (qVal (xVar 1) qNil))) (gSet 5) ttYes (lcPush (xCall Cm.m_law_one_2 (qIo 0 (qVal (xVar 3) qNil))))))
  (mSeq (mIf (tB1 (x2 gEq (xCall Cm.m_law_drip (qIo 0 (qVal (xC (.int 9)) qNil))) (xC (.int 0)))) (mSto 4 gSto (x2 Mi.gPow (xC (.int 10)) (xC (.int 12))) (xCall Cm.m_law_drip (qIo 0 (qVal (xBor (pN gLen (psCons (pVar 4) psNil))) qNil)))) mNx)
  (mSeq (mIf (tB1 (x2 gEq (xBor (pN gSum (psCons (pVar 4) psNil))) (xC (.int 0)))) (mSto 4 gSto (xC (.int 1)) (xCall Cm.m_law_drip (qIo 0 (qVal (xBor (pN gLen (psCons (pVar 4) psNil))) qNil)))) mNx)
  (mRet (xN gTuple (xCons (xVar 4) xNil)))))))
def m_law_numbers : En → Rs D := mDef 3 6 m_law_numbers_b
def m_law_known_b : En → Rs Fl :=
  (mRet (xVal (xNF gZipD (xCons (xCall Cm.m_law_all (qVal (xVar 1) qNil)) (xCons (xVar 0) xNil)))))
def m_law_known : En → Rs D := mDef 2 2 m_law_known_b
def m_shares_of_b : En → Rs Fl :=
  (mSeq (mAsg (gSet 1) (xCall Cm.m_shares_in (qVal (xVar 0) qNil)))
  (mRet (xIf (tB1 (x2 gIsN (xVar 1) (xC .non))) (xC .non) (xVal (xMake "Shares" Cm.m_Shares___init__ (xCons (x2 gIx (xVar 1) (xC (.int 0))) (xCons (x2 gIx (xVar 1) (xC (.int 1))) xNil)))))))
def m_shares_of : En → Rs D := mDef 1 2 m_shares_of_b
def m_hinder_shown_b : En → Rs Fl :=
  (mSeq (mIf (ttOr (ttNot (ttTru (xCall Cm.m_is_rising_lot (qVal (xVar 1) (qVal (xProp "Shares" Cm.m_Shares_many (xVar 0)) qNil))))) (ttOr (ttNot (ttTru (xCall Cm.m_is_rising_lot (qVal (xVar 2) (qVal (xProp "Shares" Cm.m_Shares_many (xVar 0)) qNil))))) (ttNot (ttTru (xCall Cm.m_is_integer (qVal (xVar 3) qNil)))))) (mRet (xC (.bl false))) mNx)
  (mSeq (mAsg (gSet 4) (xCall Cm.m_help_between (qVal (xVar 0) (qVal (xVar 1) (qVal (xVar 2) qNil)))))
  (mRet (xAnd (x2 gLt (xVar 4) (xC (.int 0))) (x2 gEq (xVar 4) (xVar 3))))))
def m_hinder_shown : En → Rs D := mDef 4 5 m_hinder_shown_b
def m_is_empty_b : En → Rs Fl :=
  (mRet (xAnd (xIsi (isAnyD ["Shares"] isTupD) (xVar 0)) (x2 gEq (xN gLen (xCons (xVar 0) xNil)) (xC (.int 0)))))
def m_is_empty : En → Rs D := mDef 1 1 m_is_empty_b
def m_is_pair_b : En → Rs Fl :=
  (mRet (xAnd (xIsi (isAnyD ["Shares"] isTupD) (xVar 0)) (x2 gEq (xN gLen (xCons (xVar 0) xNil)) (xC (.int 2)))))
def m_is_pair : En → Rs D := mDef 1 1 m_is_pair_b
def m_not_fit_shown_b : En → Rs Fl :=
  (mSeq (mIf (ttOr (ttNot (ttTru (xCall Cm.m_is_pair (qVal (xVar 1) qNil)))) (ttNot (ttTru (xN gAll (xCons (xVal (mLc [2] (xIter (xVar 1)) (gSet 2) ttYes (lcPush (xCall Cm.m_is_row (qVal (xVar 2) (qVal (xProp "Shares" Cm.m_Shares_many (xVar 0)) qNil)))))) xNil))))) (mRet (xC (.bl false))) mNx)
  (mRet (xNot (xCall Cm.m_passes_at (qVal (x1 (gFld "Shares" "known") (xVar 0)) (qVal (x1 (gFld "Shares" "known") (xVar 0)) (qVal (x2 gIx (xVar 1) (xC (.int 0))) (qVal (x2 gIx (xVar 1) (xC (.int 1))) qNil))))))))
def m_not_fit_shown : En → Rs D := mDef 2 3 m_not_fit_shown_b
def m_not_kind_shown_b : En → Rs Fl :=
  (mSeq (mIf (ttOr (ttNot (ttTru (xCall Cm.m_is_pair (qVal (xVar 1) qNil)))) (ttNot (ttTru (xN gAll (xCons (xVal (mLc [2] (xIter (xVar 1)) (gSet 2) ttYes (lcPush (xCall Cm.m_is_rising_lot (qVal (xVar 2) (qVal (xProp "Shares" Cm.m_Shares_many (xVar 0)) qNil)))))) xNil))))) (mRet (xC (.bl false))) mNx)
  (mRet (x2 gLt (xCall Cm.m_help_between (qVal (xVar 0) (qVal (x2 gIx (xVar 1) (xC (.int 0))) (qVal (x2 gIx (xVar 1) (xC (.int 1))) qNil)))) (xC (.int 0)))))
def m_not_kind_shown : En → Rs D := mDef 2 3 m_not_kind_shown_b
def m_single_shown_b : En → Rs Fl :=
  (mSeq (mIf (tB1 (x2 gEq (xVar 0) (xC (.str "fit")))) (mRet (xAnd (xCall Cm.m_is_empty (qVal (xVar 2) qNil)) (x2 gIsN (xCall Cm.m_first_failing (qVal (xVar 1) (qVal (xC (.bl true)) qNil))) (xC .non)))) mNx)
  (mSeq (mIf (tB1 (x2 gEq (xVar 0) (xC (.str "kind")))) (mRet (xAnd (xCall Cm.m_is_empty (qVal (xVar 2) qNil)) (x2 gIsN (xCall Cm.m_first_hindering (qVal (xVar 1) qNil)) (xC .non)))) mNx)
  (mRet (xIf (tB1 (x2 gEq (xVar 0) (xC (.str "not fit")))) (xCall Cm.m_not_fit_shown (qVal (xVar 1) (qVal (xVar 2) qNil))) (xCall Cm.m_not_kind_shown (qVal (xVar 1) (qVal (xVar 2) qNil)))))))
def m_single_shown : En → Rs D := mDef 3 3 m_single_shown_b
def m_is_triple_b : En → Rs Fl :=
  (mSeq (mIf (ttOr (ttNot (ttTru (xIsi (isAnyD ["Shares"] isTupD) (xVar 0)))) (ttOr (tB1 (x2 gNe (xN gLen (xCons (xVar 0) xNil)) (xC (.int 3)))) (ttOr (ttNot (ttTru (xCall Cm.m_is_row (qVal (x2 gIx (xVar 0) (xC (.int 0))) (qVal (xVar 1) qNil))))) (ttNot (ttTru (xCall Cm.m_is_row (qVal (x2 gIx (xVar 0) (xC (.int 1))) (qVal (xVar 1) qNil)))))))) (mRet (xC (.bl false))) mNx)
  (mRet (xAnd (xCall Cm.m_is_over (qVal (x2 gIx (xVar 0) (xC (.int 0))) (qVal (x2 gIx (xVar 0) (xC (.int 1))) qNil))) (xAnd (xCall Cm.m_is_integer (qVal (x2 gIx (xVar 0) (xC (.int 2))) qNil)) (x2 gGt (x2 gIx (xVar 0) (xC (.int 2))) (xC (.int 0)))))))
def m_is_triple : En → Rs D := mDef 2 2 m_is_triple_b
def m_above_shown_b : En → Rs Fl :=
  (mSeq (mIf (ttOr (ttNot (ttTru (xIsi (isAnyD ["Shares"] isTupD) (xVar 2)))) (ttNot (ttTru (xN gAll (xCons (xVal (mLc [5] (xIter (xVar 2)) (gSet 5) ttYes (lcPush (xCall Cm.m_is_triple (qVal (xVar 5) (qVal (xProp "Shares" Cm.m_Shares_many (xVar 0)) qNil)))))) xNil))))) (mRet (xC (.bl false))) mNx)
  (mSeq (mAsg (gSet 3) (xVal (mLc [5] (xIter (xVar 2)) (gSet 5) ttYes (lcPush (xSl (xVar 5) oNone (oSome (xC (.int 2))))))))
  (mSeq (mIf (ttOr (tB1 (x2 gNe (xVar 3) (xN gSortX (xCons (xVar 3) xNil)))) (tB1 (x2 gNe (xLenN (mDc true [6] (xIter (xVar 3)) (gSet 6) ttYes (xVar 6) (xC (.bl true)))) (xN gLen (xCons (xVar 3) xNil))))) (mRet (xC (.bl false))) mNx)
  (mSeq (mFor (xIter (xCall Cm.m_all_rows (qVal (xProp "Shares" Cm.m_Shares_many (xVar 0)) qNil))) (gSet 4) (mSeq (mIf (tB1 (x2 gNe (xN gSum (xCons (xVal (mLc [5] (xIter (xVar 2)) (gSet 5) (tB1 (x2 gEq (x2 gIx (xVar 5) (xC (.int 0))) (xVar 4))) (lcPush (x2 gIx (xVar 5) (xC (.int 2)))))) xNil)) (x2 Mi.gMul (x2 gIx (x1 (gFld "Shares" "known") (xVar 0)) (xVar 4)) (x1 (gFld "Shares" "total") (xVar 1))))) (mRet (xC (.bl false))) mNx)
  (mIf (tB1 (x2 gNe (xN gSum (xCons (xVal (mLc [5] (xIter (xVar 2)) (gSet 5) (tB1 (x2 gEq (x2 gIx (xVar 5) (xC (.int 1))) (xVar 4))) (lcPush (x2 gIx (xVar 5) (xC (.int 2)))))) xNil)) (x2 Mi.gMul (x2 gIx (x1 (gFld "Shares" "known") (xVar 1)) (xVar 4)) (x1 (gFld "Shares" "total") (xVar 0))))) (mRet (xC (.bl false))) mNx)))
  (mRet (xC (.bl true)))))))
def m_above_shown : En → Rs D := mDef 3 7 m_above_shown_b
def m_not_above_shown_b : En → Rs Fl :=
  (mSeq (mIf (ttNot (ttTru (xCall Cm.m_is_rising_lot (qVal (xVar 2) (qVal (xProp "Shares" Cm.m_Shares_many (xVar 0)) qNil))))) (mRet (xC (.bl false))) mNx)
  (mRet (x2 gLt (x2 Mi.gMul (xMth "Shares" "added" Cm.m_Shares_added (xVar 0) (xCons (xVar 2) xNil)) (x1 (gFld "Shares" "total") (xVar 1))) (x2 Mi.gMul (xMth "Shares" "added" Cm.m_Shares_added (xVar 1) (xCons (xVar 2) xNil)) (x1 (gFld "Shares" "total") (xVar 0))))))
def m_not_above_shown : En → Rs D := mDef 3 3 m_not_above_shown_b
def m_holds_claim_b : En → Rs Fl :=
  (mSeq (mIf (ttOr (ttNot (ttTru (xIsi (isAnyD ["Shares"] isTupD) (xVar 0)))) (ttOr (tB1 (x2 gLt (xN gLen (xCons (xVar 0) xNil)) (xC (.int 2)))) (ttOr (ttNot (ttTru (xIsi (isAnyD ["Shares"] isStrD) (x2 gIx (xVar 0) (xC (.int 0)))))) (tB1 (x1 (gInW true ["hinder", "fit", "not fit", "kind", "not kind", "above", "not above"]) (x2 gIx (xVar 0) (xC (.int 0)))))))) (mRet (xC (.bl false))) mNx)
  (mSeq (mAsg (gSet 2) (xCall Cm.m_shares_of (qVal (x2 gIx (xVar 0) (xC (.int 1))) qNil)))
  (mSeq (mIf (tB1 (x2 gIsN (xVar 2) (xC .non))) (mRet (xC (.bl false))) mNx)
  (mSeq (mIf (tB1 (x2 gEq (x2 gIx (xVar 0) (xC (.int 0))) (xC (.str "hinder")))) (mRet (xAnd (x2 gEq (xN gLen (xCons (xVar 0) xNil)) (xC (.int 4))) (xCall Cm.m_hinder_shown (qVal (xVar 2) (qVal (x2 gIx (xVar 0) (xC (.int 2))) (qVal (x2 gIx (xVar 0) (xC (.int 3))) (qVal (xVar 1) qNil))))))) mNx)
  (mSeq (mIf (tB1 (x2 gNotIn (x2 gIx (xVar 0) (xC (.int 0))) (xTup (xCons (xC (.str "above")) (xCons (xC (.str "not above")) xNil))))) (mRet (xAnd (x2 gEq (xN gLen (xCons (xVar 0) xNil)) (xC (.int 2))) (xCall Cm.m_single_shown (qVal (x2 gIx (xVar 0) (xC (.int 0))) (qVal (xVar 2) (qVal (xVar 1) qNil)))))) mNx)
  (mSeq (mAsg (gSet 3) (xIf (tB1 (x2 gEq (xN gLen (xCons (xVar 0) xNil)) (xC (.int 3)))) (xCall Cm.m_shares_of (qVal (x2 gIx (xVar 0) (xC (.int 2))) qNil)) (xC .non)))
  (mSeq (mIf (ttOr (tB1 (x2 gIsN (xVar 3) (xC .non))) (tB1 (x2 gNe (x1 (gFld "Shares" "marks") (xVar 3)) (x1 (gFld "Shares" "marks") (xVar 2))))) (mRet (xC (.bl false))) mNx)
  (mSeq (mIf (tB1 (x2 gEq (x2 gIx (xVar 0) (xC (.int 0))) (xC (.str "above")))) (mRet (xCall Cm.m_above_shown (qVal (xVar 2) (qVal (xVar 3) (qVal (xVar 1) qNil))))) mNx)
  (mRet (xCall Cm.m_not_above_shown (qVal (xVar 2) (qVal (xVar 3) (qVal (xVar 1) qNil)))))))))))))
def m_holds_claim : En → Rs D := mDef 2 4 m_holds_claim_b
def m_law_text_b : En → Rs Fl :=
  (mSeq (mAsg (gSet 2) (xLst (xCons (x2 Mi.gAdd (xC (.str "marks ")) (xTm gJoin (xC (.str ", ")) (xCons (xVar 0) xNil))) xNil)))
  (mSeq (mAsg (gSet 3) (xCall Cm.m_law_known (qVal (xVar 1) (qVal (xN gLen (xCons (xVar 0) xNil)) qNil))))
  (mRet (xTm gJoin (xC (.str "\n")) (xCons (x2 Mi.gAdd (xVar 2) (xVal (mLc [4] (xIterK 3) (gSet 4) (tB1 (x2 gGt (x2 gIx (xVar 3) (xVar 4)) (xC (.int 0)))) (lcPush (x2 Mi.gAdd (x2 Mi.gAdd (xVar 4) (xC (.str ": "))) (xN gStr (xCons (x2 gIx (xVar 3) (xVar 4)) xNil))))))) xNil)))))
def m_law_text : En → Rs D := mDef 2 5 m_law_text_b
def m_law_or_2_b : En → Rs Fl :=
  (mRet (xTm gJoin (xC (.str "")) (xCons (xVal (mLc [2] (xRng1 (xCons (xN gLen (xCons (xVar 0) xNil)) xNil)) (gSet 2) ttYes (lcPush (xN gMaxB (xCons (x2 gIx (xVar 0) (xVar 2)) (xCons (x2 gIx (xVar 1) (xVar 2)) xNil)))))) xNil)))
def m_law_or_2 : En → Rs D := mDef 2 3 m_law_or_2_b
def m_law_and_2_b : En → Rs Fl :=
  (mRet (xTm gJoin (xC (.str "")) (xCons (xVal (mLc [2] (xRng1 (xCons (xN gLen (xCons (xVar 0) xNil)) xNil)) (gSet 2) ttYes (lcPush (xN gMinB (xCons (x2 gIx (xVar 0) (xVar 2)) (xCons (x2 gIx (xVar 1) (xVar 2)) xNil)))))) xNil)))
def m_law_and_2 : En → Rs D := mDef 2 3 m_law_and_2_b
def m_law_fails_b : En → Rs Fl :=
  (mSeq (mParFV 1 2 (fLst xNil) (xN gListD (xCons (xVar 0) xNil)))
  (mSeq (mFor (xIter (xVar 2)) (gSet 3) (mFor (xIter (xVar 2)) (gSet 4) (mSeq (mAsg (gSet 5) (x2 Mi.gMul (x2 gIx (xVar 0) (xCall Cm.m_law_or_2 (qVal (xVar 3) (qVal (xVar 4) qNil)))) (x2 gIx (xVar 0) (xCall Cm.m_law_and_2 (qVal (xVar 3) (qVal (xVar 4) qNil))))))
  (mIf (ttAnd (tB1 (x2 gLt (xVar 3) (xVar 4))) (tB1 (x2 gLt (xVar 5) (x2 Mi.gMul (x2 gIx (xVar 0) (xVar 3)) (x2 gIx (xVar 0) (xVar 4)))))) (mDrop (xMeth 1 gApp (xCons (xTup (xCons (xVar 3) (xCons (xVar 4) xNil))) xNil))) mNx))))
  (mRet (xVar 1))))
def m_law_fails : En → Rs D := mDef 1 6 m_law_fails_b
end Cm

set_option Elab.async false
set_option linter.all false
set_option maxRecDepth 100000
set_option maxHeartbeats 4000000
/-! Pl0: mirrors, evaluated -/
namespace Mi
open PySem
/-- the caller's -/
def isIoS : Sl → Bool
  | .io _ => true
  | _ => false
@[simp] theorem isIo_v (d : D) : isIoS (.v d) = false := id rfl
@[simp] theorem isIo_un : isIoS .un = false := id rfl
@[simp] theorem isIo_ow (o : Ob) : isIoS (.ow o) = false := id rfl
@[simp] theorem isIo_io (o : Ob) : isIoS (.io o) = true := id rfl
section
variable {α β : Type} {env : En}
theorem bind_eq (r : Rs α) (f : α → En → Rs β) : r.bind f = match r with | .ok a e => f a e | .er x e => .er x e | .bad => .bad := by cases r <;> rfl
@[simp] theorem ev_mSeq (m n : En → Rs Fl) : mSeq m n env = (m env).bind fun fl e => match fl with | .nx => n e | fl => .ok fl e := id rfl
@[simp] theorem ev_mNx : mNx env = .ok .nx env := id rfl
@[simp] theorem ev_mAsg (g : D → En → Option En) (m : En → Rs D) : mAsg g m env = (m env).bind fun d e1 => match g d e1 with | some e2 => .ok .nx e2 | none => .bad := id rfl
@[simp] theorem ev_mDrop (m : En → Rs D) : mDrop m env = (m env).bind fun _ e1 => .ok .nx e1 := id rfl
@[simp] theorem ev_mRet (m : En → Rs D) : mRet m env = (m env).bind fun d e1 => .ok (.rt d) e1 := id rfl
@[simp] theorem ev_mRetN : mRetN env = .ok (.rt .non) env := id rfl
@[simp] theorem ev_mIf (t : En → Rs Bool) (m n : En → Rs Fl) : mIf t m n env = (t env).bind fun b e => match b with | true => m e | false => n e := id rfl
@[simp] theorem ev_mBad : mBad env = .bad := id rfl
@[simp] theorem ev_mBrk : mBrk env = .ok .bk env := id rfl
@[simp] theorem ev_mCnt : mCnt env = .ok .ct env := id rfl
@[simp] theorem ev_mPass : mPass env = .ok .nx env := id rfl
@[simp] theorem ev_mPar (is : List Nat) (ma : En → Rs (List D)) : mPar is ma env = (ma env).bind fun ds e1 => match mPar.parS is ds e1 with | some e2 => .ok .nx e2 | none => .bad := id rfl
@[simp] theorem ev_parS0 : mPar.parS [] [] env = some env := id rfl
@[simp] theorem ev_parS (i : Nat) (is : List Nat) (d : D) (ds : List D) : mPar.parS (i :: is) (d :: ds) env = (gSet i d env).bind (mPar.parS is ds) := id rfl
@[simp] theorem ev_mOw (i : Nat) (m : En → Rs Ob) : mOw i m env = (m env).bind fun o e => match e[i]? with
  | none => .bad
  | some s => if isIoS s = true then .bad else .ok .nx (e.set i (.ow o)) := by
  unfold mOw
  congr 1
  funext o e
  cases e[i]? with
  | none => rfl
  | some s => cases s <;> rfl
@[simp] theorem ev_mSto (i : Nat) (g : Ob → D → D → Option Ob) (m mk : En → Rs D) : mSto i g m mk env = (m env).bind fun d e1 => if mSto.isObAt i e1 = true then (mk e1).bind fun kd e2 => stoAt i (fun o => g o kd d) e2 else .bad := id rfl
@[simp] theorem ev_isOb (i : Nat) : mSto.isObAt i env = ((env[i]?).bind Sl.ob).isSome := id rfl
@[simp] theorem ev_stoAt (i : Nat) (g : Ob → Option Ob) : stoAt i g env = match env[i]? with
  | some s => match s.ob with
    | some o => match g o with
      | some o' => .ok .nx (env.set i (s.put o'))
      | none => .bad
    | none => .bad
  | none => .bad := id rfl
@[simp] theorem ev_mFor (mi : En → Rs (List D)) (mg : D → En → Option En) (mb : En → Rs Fl) : mFor mi mg mb env = (mi env).bind fun ds e1 => forL mg mb ds e1 := id rfl
@[simp] theorem ev_xVar (i : Nat) : xVar i env = match env[i]? with
  | some (.v d) => .ok d env
  | some (.ow o) => .ok o.val (env.set i (.v o.val))
  | _ => .bad := id rfl
@[simp] theorem ev_xC (d : D) : xC d env = .ok d env := id rfl
@[simp] theorem ev_x1 (g : D → Option D) (m : En → Rs D) : x1 g m env = (m env).bind fun d e => .of (g d) e := id rfl
@[simp] theorem ev_x2 (g : D → D → Option D) (m n : En → Rs D) : x2 g m n env = (m env).bind fun d e1 => (n e1).bind fun d2 e2 => .of (g d d2) e2 := id rfl
@[simp] theorem ev_xN (g : List D → Option D) (m : En → Rs (List D)) : xN g m env = (m env).bind fun d e => .of (g d) e := id rfl
@[simp] theorem ev_xNil : xNil env = .ok [] env := id rfl
@[simp] theorem ev_xCons (m : En → Rs D) (ma : En → Rs (List D)) : xCons m ma env = (m env).bind fun d e1 => (ma e1).bind fun ds e2 => .ok (d :: ds) e2 := id rfl
@[simp] theorem ev_qNil : qNil env = .ok [] env := id rfl
@[simp] theorem ev_qVal (m : En → Rs D) (ma : En → Rs (List Ar)) : qVal m ma env = (m env).bind fun d e1 => (ma e1).bind fun ds e2 => .ok (.inl d :: ds) e2 := id rfl
@[simp] theorem ev_qIo (i : Nat) (ma : En → Rs (List Ar)) : qIo i ma env = match (env[i]?).bind Sl.ob with | some _ => (ma env).bind fun ds e2 => .ok (.inr i :: ds) e2 | none => .bad := id rfl
@[simp] theorem ev_qPick (pm : List Nat) (mq : En → Rs (List Ar)) : qPick pm mq env = (mq env).bind fun as e => .ok (pick pm as) e := id rfl
@[simp] theorem ev_xCall (m : En → Rs D) (ma : En → Rs (List Ar)) : xCall m ma env = (ma env).bind fun as e => if (inrs as).Nodup then (match mkArgs e as with | none => .bad | some args => match m args with | .ok d args' => .ok d (putBack e as args') | .er x args' => .er x (putBack e as args') | .bad => .bad) else .bad := id rfl
@[simp] theorem ev_xCallF (m : En → Rs D) (mo : En → Rs Ob) : xCallF m mo env = (mo env).bind fun o e1 => match m [.io o] with | .ok d _ => .ok d e1 | _ => .bad := id rfl
@[simp] theorem ev_xCallN (m : List D → Rs Ob) (ma : En → Rs (List D)) : xCallN m ma env = (ma env).bind fun ds e1 => match m ds with | .ok o _ => .ok o e1 | _ => .bad := id rfl
@[simp] theorem ev_xTup (ma : En → Rs (List D)) : xTup ma env = (ma env).bind fun ds e => .ok (.tup ds) e := id rfl
@[simp] theorem ev_xLst (ma : En → Rs (List D)) : xLst ma env = (ma env).bind fun ds e => .ok (.lst ds) e := id rfl
@[simp] theorem ev_xVal (mo : En → Rs Ob) : xVal mo env = (mo env).bind fun o e => .ok o.val e := id rfl
@[simp] theorem ev_fLst (ma : En → Rs (List D)) : fLst ma env = (ma env).bind fun ds e => .ok (.lst ds) e := id rfl
@[simp] theorem ev_fDict (t : Bool) : fDict t env = .ok (.dct t [] []) env := id rfl
@[simp] theorem ev_fOwn (i : Nat) : fOwn i env = match env[i]? with
  | some (.ow o) => .ok o (env.set i .un)
  | _ => .bad := id rfl
@[simp] theorem ev_xSl (m : En → Rs D) (lo hi : En → Rs (Option Int)) : xSl m lo hi env = (m env).bind fun d e1 => (lo e1).bind fun l e2 => (hi e2).bind fun h e3 => .of (gSl l h d) e3 := id rfl
@[simp] theorem ev_oNone : oNone env = .ok none env := id rfl
@[simp] theorem ev_oSome (m : En → Rs D) : oSome m env = (m env).bind fun d e => .of ((isInt d).map some) e := id rfl
@[simp] theorem ev_xAnd (m n : En → Rs D) : xAnd m n env = (m env).bind fun d e => match d with | .bl true => n e | .bl false => .ok (.bl false) e | _ => .bad := id rfl
@[simp] theorem ev_xOr (m n : En → Rs D) : xOr m n env = (m env).bind fun d e => match d with | .bl true => .ok (.bl true) e | .bl false => n e | _ => .bad := id rfl
@[simp] theorem ev_xNot (m : En → Rs D) : xNot m env = (m env).bind fun d e => .of (d.truth.map fun b => .bl (!b)) e := id rfl
@[simp] theorem ev_xIf (t : En → Rs Bool) (m n : En → Rs D) : xIf t m n env = (t env).bind fun b e => match b with | true => m e | false => n e := id rfl
@[simp] theorem ev_xChain (g g' : D → D → Option D) (ma mb mc : En → Rs D) : xChain g g' ma mb mc env = (ma env).bind fun d1 e1 => (mb e1).bind fun d2 e2 => match g d1 d2 with | some (.bl true) => (mc e2).bind fun d3 e3 => .of (g' d2 d3) e3 | some (.bl false) => .ok (.bl false) e2 | _ => .bad := id rfl
@[simp] theorem ev_ttTru (m : En → Rs D) : ttTru m env = (m env).bind fun d e => .of d.truth e := id rfl
@[simp] theorem ev_ttNot (m : En → Rs Bool) : ttNot m env = (m env).bind fun b e => .ok (!b) e := id rfl
@[simp] theorem ev_ttAnd (m n : En → Rs Bool) : ttAnd m n env = (m env).bind fun b e => match b with | true => n e | false => .ok false e := id rfl
@[simp] theorem ev_ttOr (m n : En → Rs Bool) : ttOr m n env = (m env).bind fun b e => match b with | true => .ok true e | false => n e := id rfl
@[simp] theorem ev_ttYes : ttYes env = .ok true env := id rfl
@[simp] theorem ev_tB1 (m : En → Rs D) : tB1 m env = (m env).bind fun d e => .of (isBl d) e := id rfl
@[simp] theorem ev_isBl (b : Bool) : isBl (.bl b) = some b := id rfl
@[simp] theorem ev_tP1 (mp : En → Option D) : tP1 mp env = .of ((mp env).bind isBl) env := id rfl
@[simp] theorem ev_xBor (mp : En → Option D) : xBor mp env = match mp env with
  | some d => if isFlat d = true then .ok d env else .bad
  | none => .bad := id rfl
@[simp] theorem ev_pVar (i : Nat) : pVar i env = match env[i]? with
  | some (.v d) => some d
  | some (.ow o) => some o.val
  | some (.io o) => some o.val
  | _ => none := id rfl
@[simp] theorem ev_pC (d : D) : pC d env = some d := id rfl
@[simp] theorem ev_p1 (g : D → Option D) (m : En → Option D) : p1 g m env = (m env).bind g := id rfl
@[simp] theorem ev_p2 (g : D → D → Option D) (m n : En → Option D) : p2 g m n env = (m env).bind fun d => (n env).bind fun e => g d e := id rfl
@[simp] theorem ev_pN (g : List D → Option D) (m : En → Option (List D)) : pN g m env = (m env).bind g := id rfl
@[simp] theorem ev_psNil : psNil env = some [] := id rfl
@[simp] theorem ev_psCons (m : En → Option D) (ms : En → Option (List D)) : psCons m ms env = (m env).bind fun d => (ms env).map fun r => d :: r := id rfl
@[simp] theorem ev_xIter (m : En → Rs D) : xIter m env = (m env).bind fun d e => .of (iterD d) e := id rfl
@[simp] theorem ev_xRng1 (ma : En → Rs (List D)) : xRng1 ma env = (ma env).bind fun ds e => match ds with | [.int j] => .of (rngD 0 j) e | _ => .bad := id rfl
@[simp] theorem ev_xRng2 (ma : En → Rs (List D)) : xRng2 ma env = (ma env).bind fun ds e => match ds with | [.int i, .int j] => .of (rngD i j) e | _ => .bad := id rfl
@[simp] theorem ev_xEnum (ma : En → Rs (List D)) : xEnum ma env = (ma env).bind fun ds e => match ds with | [d] => .of ((iterD d).map enumD) e | _ => .bad := id rfl
@[simp] theorem ev_xZip (ma : En → Rs (List D)) : xZip ma env = (ma env).bind fun ds e => match ds with | [c, d] => .of ((iterD c).bind fun a => (iterD d).map fun b => zipD a b) e | _ => .bad := id rfl
@[simp] theorem ev_xIsi (f : D → Option Bool) (m : En → Rs D) : xIsi f m env = (m env).bind fun d e => .of ((f d).map .bl) e := id rfl
@[simp] theorem ev_gSet (i : Nat) (d : D) : gSet i d env = match env[i]? with
  | none => none
  | some s => if isIoS s = true then none else some (env.set i (.v d)) := by
  unfold gSet
  cases env[i]? with
  | none => rfl
  | some s => cases s <;> rfl
@[simp] theorem ev_gsNil : gsNil [] env = some env := id rfl
@[simp] theorem ev_gsCons (mg : D → En → Option En) (ms : List D → En → Option En) (d : D) (r : List D) : gsCons mg ms (d :: r) env = (mg d env).bind fun e => ms r e := id rfl
@[simp] theorem ev_gUnpT (n : Nat) (ms : List D → En → Option En) (ds : List D) : gUnp n ms (.tup ds) env = if ds.length = n then ms ds env else none := id rfl
@[simp] theorem ev_gUnpL (n : Nat) (ms : List D → En → Option En) (ds : List D) : gUnp n ms (.lst ds) env = if ds.length = n then ms ds env else none := id rfl
@[simp] theorem ev_xMeth (i : Nat) (g : Ob → List D → Option (D × Ob)) (ma : En → Rs (List D)) : xMeth i g ma env = if isLstAt i env = true then (ma env).bind fun ds e => mutAt i (fun o => g o ds) e else .bad := id rfl
@[simp] theorem ev_isLstAt (i : Nat) : isLstAt i env = match (env[i]?).bind Sl.ob with
  | some (.lst _) => true
  | _ => false := id rfl
@[simp] theorem ev_mutAt (i : Nat) (g : Ob → Option (D × Ob)) : mutAt i g env = match env[i]? with
  | some s => match s.ob with
    | some o => match g o with
      | some (z, o') => .ok z (env.set i (s.put o'))
      | none => .bad
    | none => .bad
  | none => .bad := id rfl
@[simp] theorem ev_val (ds : List D) : (Ob.lst ds).val = .lst ds := id rfl
@[simp] theorem ev_ob1 (o : Ob) : (Sl.ow o).ob = some o := id rfl
@[simp] theorem ev_ob2 (o : Ob) : (Sl.io o).ob = some o := id rfl
@[simp] theorem ev_ob3 (d : D) : (Sl.v d).ob = none := id rfl
@[simp] theorem ev_ob4 : Sl.un.ob = none := id rfl
@[simp] theorem ev_put1 (o o' : Ob) : (Sl.ow o).put o' = .ow o' := id rfl
@[simp] theorem ev_put2 (o o' : Ob) : (Sl.io o).put o' = .io o' := id rfl
@[simp] theorem ev_flat1 (i : Int) : isFlat (.int i) = true := id rfl
@[simp] theorem ev_flat2 (i : Str) : isFlat (.str i) = true := id rfl
@[simp] theorem ev_flat3 (i : Bool) : isFlat (.bl i) = true := id rfl
@[simp] theorem ev_flat4 : isFlat .non = true := id rfl
@[simp] theorem ev_mkArgs0 : mkArgs env [] = some [] := id rfl
@[simp] theorem ev_mkArgsV (d : D) (r : List Ar) : mkArgs env (.inl d :: r) = (mkArgs env r).map fun t => .v d :: t := id rfl
@[simp] theorem ev_mkArgsO (i : Nat) (r : List Ar) : mkArgs env (.inr i :: r) = ((env[i]?).bind fun s => s.ob.map .io).bind fun s => (mkArgs env r).map fun t => s :: t := id rfl
@[simp] theorem ev_inrs0 : inrs [] = [] := id rfl
@[simp] theorem ev_inrsV (d : D) (r : List Ar) : inrs (.inl d :: r) = inrs r := id rfl
@[simp] theorem ev_inrsO (i : Nat) (r : List Ar) : inrs (.inr i :: r) = i :: inrs r := id rfl
@[simp] theorem ev_lookV (d : D) (as : List Ar) (s : Sl) (r : En) (i : Nat) : lookIo (.inl d :: as) (s :: r) i = lookIo as r i := by cases s <;> rfl
@[simp] theorem ev_lookO (k : Nat) (as : List Ar) (o : Ob) (r : En) (i : Nat) : lookIo (.inr k :: as) (.io o :: r) i = if k = i then some o else lookIo as r i := id rfl
@[simp] theorem ev_look0 (r : En) (i : Nat) : lookIo [] r i = none := by cases r <;> rfl
@[simp] theorem ev_mrgO (o o' : Ob) (r t : En) : mergeA (.io o :: r) (.io o' :: t) = .io o' :: mergeA r t := id rfl
@[simp] theorem ev_mrgV (d : D) (s : Sl) (r t : En) : mergeA (.v d :: r) (s :: t) = .v d :: mergeA r t := id rfl
@[simp] theorem ev_mrg0 (t : En) : mergeA [] t = [] := by cases t <;> rfl
end
/-- a slot's values stand through calls that take values alone -/
theorem putBack_nil {env : En} {as : List Ar} {args : En} (h : inrs as = []) : putBack env as args = env := by
  have core : ∀ (as : List Ar) (r : En) (i : Nat), inrs as = [] → lookIo as r i = none := by
    intro as
    induction as with
    | nil => intro r i _; exact ev_look0 r i
    | cons a as ih =>
      intro r i h
      cases a with
      | inr k => simp [inrs] at h
      | inl d =>
        cases r with
        | nil => cases as <;> rfl
        | cons s r => rw [ev_lookV]; exact ih r i h
  unfold putBack
  apply List.ext_getElem?
  intro i
  rw [List.getElem?_mapIdx]
  simp only [core as args _ h]
  cases env[i]? <;> rfl
@[simp] theorem putBack_v (env : En) (d : D) (args : En) : putBack env [.inl d] args = env := putBack_nil rfl
@[simp] theorem putBack_vv (env : En) (d d2 : D) (args : En) : putBack env [.inl d, .inl d2] args = env := putBack_nil rfl
@[simp] theorem putBack_vvv (env : En) (d d2 d3 : D) (args : En) : putBack env [.inl d, .inl d2, .inl d3] args = env := putBack_nil rfl
@[simp] theorem putBack_vvvv (env : En) (d d2 d3 d4 : D) (args : En) : putBack env [.inl d, .inl d2, .inl d3, .inl d4] args = env := putBack_nil rfl
@[simp] theorem putBack_0 (env : En) (args : En) : putBack env [] args = env := putBack_nil rfl
theorem putBack_io0 (o o' : Ob) (s : Sl) (hs : s.ob = some o) (r : En) (as : List Ar) (h : inrs as = []) (t : En) : putBack (s :: r) (.inr 0 :: as) (.io o' :: t) = s.put o' :: r := by
  have core : ∀ (as : List Ar) (r : En) (i : Nat), inrs as = [] → lookIo as r i = none := by
    intro as
    induction as with
    | nil => intro r i _; exact ev_look0 r i
    | cons a as ih =>
      intro r i h
      cases a with
      | inr k => simp [inrs] at h
      | inl d =>
        cases r with
        | nil => cases as <;> rfl
        | cons s r => rw [ev_lookV]; exact ih r i h
  unfold putBack
  apply List.ext_getElem?
  intro i
  rw [List.getElem?_mapIdx]
  cases i with
  | zero => simp
  | succ i =>
    simp [core as t _ h]
@[simp] theorem putBack_i (o o' : Ob) (r t : En) : putBack (.io o :: r) [.inr 0] (.io o' :: t) = .io o' :: r := putBack_io0 o o' _ rfl r [] rfl t
@[simp] theorem putBack_iv (o o' : Ob) (r t : En) (d : D) : putBack (.io o :: r) [.inr 0, .inl d] (.io o' :: t) = .io o' :: r := putBack_io0 o o' _ rfl r _ rfl t
@[simp] theorem putBack_ivv (o o' : Ob) (r t : En) (d e : D) : putBack (.io o :: r) [.inr 0, .inl d, .inl e] (.io o' :: t) = .io o' :: r := putBack_io0 o o' _ rfl r _ rfl t
@[simp] theorem putBack_ivvv (o o' : Ob) (r t : En) (d e f : D) : putBack (.io o :: r) [.inr 0, .inl d, .inl e, .inl f] (.io o' :: t) = .io o' :: r := putBack_io0 o o' _ rfl r _ rfl t
end Mi

set_option Elab.async false
set_option linter.all false
set_option maxRecDepth 100000
set_option maxHeartbeats 4000000
/-! Pl1: the law's draws -/
namespace Pl
open PySem Mi
theorem log2_small {n k : Nat} (h : n < 2 ^ k) : n.log2 < k + 1 := by
  by_cases e : n = 0
  · subst e; simp
  · exact Nat.lt_of_lt_of_le ((Nat.log2_lt e).mpr h) (Nat.le_succ k)
theorem gMul_ok {i j : Int} (hi : i.natAbs < 2 ^ 100) (hj : j.natAbs < 2 ^ 100) : gMul (.int i) (.int j) = some (.int (i * j)) := by
  have h1 := log2_small hi
  have h2 := log2_small hj
  simp only [gMul]
  rw [if_pos (by omega)]
theorem gFdiv_ok {i j : Int} (hj : 0 < j) (h : j.natAbs < 2 ^ 100) : gFdiv (.int i) (.int j) = some (.int (i / j)) := by
  have h2 := log2_small h
  simp only [gFdiv]
  rw [if_pos ⟨hj, by omega⟩]
theorem gMod_ok {i j : Int} (hj : 0 < j) : gMod (.int i) (.int j) = some (.int (i % j)) := by
  simp only [gMod]
  rw [if_pos hj]
@[simp] theorem gAdd_ii (i j : Int) : gAdd (.int i) (.int j) = some (.int (i + j)) := id rfl
@[simp] theorem gSub_ii (i j : Int) : gSub (.int i) (.int j) = some (.int (i - j)) := id rfl
@[simp] theorem gInt_i (i : Int) : gInt [.int i] = some (.int i) := id rfl
@[simp] theorem ofs {α : Type} (a : α) (e : En) : Rs.of (some a) e = .ok a e := id rfl
/-- a bag: held signs, seed, count -/
abbrev bagO (a b c : Int) : Ob := .lst [.int a, .int b, .int c]
theorem draw_ok (a b c w : Int) (hw : 0 < w) (hw2 : w < 1000) (hb : b.natAbs < 2 ^ 31) (hc : c.natAbs < 2 ^ 60) :
    ∃ a' b' r, Cm.m_law_draw [.io (bagO a b c), .v (.int w)] = .ok (.int r) [.io (bagO a' b' (c + 1)), .v (.int w)] ∧ 0 ≤ r ∧ r < w ∧ b'.natAbs < 2 ^ 31 := by
  have m1 : (0 : Int) < 2147483549 := by decide
  have m2 : (0 : Int) < 60013 := by decide
  have m3 : (0 : Int) < 509 := by decide
  have d1 : ∀ i, gFdiv (.int i) (.int w) = some (.int (i / w)) := fun i => gFdiv_ok hw (by omega)
  have d2 : ∀ i, gFdiv (.int i) (.int 509) = some (.int (i / 509)) := fun i => gFdiv_ok m3 (by decide)
  have q1 : ∀ i, gMod (.int i) (.int w) = some (.int (i % w)) := fun i => gMod_ok hw
  have q2 : ∀ i, gMod (.int i) (.int 2147483549) = some (.int (i % 2147483549)) := fun i => gMod_ok m1
  have q3 : ∀ i, gMod (.int i) (.int 60013) = some (.int (i % 60013)) := fun i => gMod_ok m2
  have u1 : gMul (.int 65003) (.int (c + 1)) = some (.int (65003 * (c + 1))) := gMul_ok (by decide) (by omega)
  have u2 : gMul (.int 11) (.int (c + 1)) = some (.int (11 * (c + 1))) := gMul_ok (by decide) (by omega)
  have u3 : ∀ k : Int, gMul (.int (b + 65003 * (c + 1))) (.int (k % 60013 + 49003)) = some (.int ((b + 65003 * (c + 1)) * (k % 60013 + 49003))) := fun k => gMul_ok (by omega) (by omega)
  by_cases ha : 0 < a
  · refine ⟨a / w, b, a % w, ?_, Int.emod_nonneg _ (by omega), Int.emod_lt_of_pos _ hw, hb⟩
    simp [↓bind_eq, Cm.m_law_draw, Cm.m_law_draw_b, mDef, L2.atI, L2.ixN, gIx, gSto, gOrd, ha, d1, q1]
  · refine ⟨a, ((b + 65003 * (c + 1)) * ((b + 65003 * (c + 1)) % 60013 + 49003) + 11 * (c + 1) + 19) % 2147483549, ((b + 65003 * (c + 1)) * ((b + 65003 * (c + 1)) % 60013 + 49003) + 11 * (c + 1) + 19) % 2147483549 / 509 % w, ?_, Int.emod_nonneg _ (by omega), Int.emod_lt_of_pos _ hw, by omega⟩
    simp [↓bind_eq, Cm.m_law_draw, Cm.m_law_draw_b, mDef, L2.atI, L2.ixN, gIx, gSto, gOrd, ha, d1, d2, q1, q2, q3, u1, u2, u3]
end Pl

set_option Elab.async false
set_option linter.all false
set_option maxRecDepth 100000
set_option maxHeartbeats 4000000
/-! Pl2: loops, by invariants -/
namespace Pl
open PySem Mi
/-- a for loop: I by the turn and the names; R of its end -/
theorem forL_inv {mg : D → En → Option En} {mb : En → Rs Fl} {ds : List D} (I : Nat → En → Prop) (R : Rs Fl → Prop)
    (step : ∀ i d e, ds[i]? = some d → I i e → ∃ e2, mg d e = some e2 ∧ match mb e2 with
      | .ok .nx e3 => I (i + 1) e3
      | .ok .ct e3 => I (i + 1) e3
      | .ok .bk e3 => R (.ok .nx e3)
      | .ok (.rt d) e3 => R (.ok (.rt d) e3)
      | .er x e3 => R (.er x e3)
      | .bad => False)
    (fin : ∀ e, I ds.length e → R (.ok .nx e)) {e : En} (h : I 0 e) : R (forL mg mb ds e) := by
  have core : ∀ (r : List D) (i : Nat) (e : En), ds.drop i = r → i ≤ ds.length → I i e → R (forL mg mb r e) := by
    intro r
    induction r with
    | nil =>
      intro i e hd hi h
      have : i = ds.length := by
        have := List.drop_eq_nil_iff.mp hd
        omega
      subst this
      exact fin e h
    | cons d r ih =>
      intro i e hd hi h
      have hlt : i < ds.length := by
        by_cases q : i < ds.length
        · exact q
        · rw [List.drop_of_length_le (by omega)] at hd; cases hd
      have hg : ds[i]? = some d := by
        have := congrArg List.head? hd
        simpa [List.head?_drop] using this
      have hr : ds.drop (i + 1) = r := by
        rw [List.drop_eq_getElem_cons hlt] at hd
        exact (List.cons.inj hd).2
      obtain ⟨e2, h1, h2⟩ := step i d e hg h
      simp only [forL, h1]
      cases hb : mb e2 with
      | bad => rw [hb] at h2; exact h2.elim
      | er x e3 => rw [hb] at h2; exact h2
      | ok fl e3 =>
        rw [hb] at h2
        cases fl with
        | nx => exact ih (i + 1) e3 hr hlt h2
        | ct => exact ih (i + 1) e3 hr hlt h2
        | bk => exact h2
        | rt d => exact h2
  exact core ds 0 e rfl (Nat.zero_le _) h
/-- a comprehension's loop -/
theorem lcL_inv {vs : List Nat} {mg : D → En → Option En} {mt : En → Rs Bool} {me : List D → En → Rs (List D)} {ds : List D} (I : Nat → List D → En → Prop)
    (step : ∀ i d acc e, ds[i]? = some d → I i acc e → ∃ acc' e', lcStep vs mg mt me d acc e = .ok acc' e' ∧ I (i + 1) acc' e') {acc : List D} {e : En} (h : I 0 acc e) :
    ∃ acc' e', lcL vs mg mt me ds acc e = .ok acc' e' ∧ I ds.length acc' e' := by
  have core : ∀ (r : List D) (i : Nat) (acc : List D) (e : En), ds.drop i = r → i ≤ ds.length → I i acc e → ∃ acc' e', lcL vs mg mt me r acc e = .ok acc' e' ∧ I ds.length acc' e' := by
    intro r
    induction r with
    | nil =>
      intro i acc e hd hi h
      have : i = ds.length := by
        have := List.drop_eq_nil_iff.mp hd
        omega
      subst this
      exact ⟨acc, e, rfl, h⟩
    | cons d r ih =>
      intro i acc e hd hi h
      have hlt : i < ds.length := by
        by_cases q : i < ds.length
        · exact q
        · rw [List.drop_of_length_le (by omega)] at hd; cases hd
      have hg : ds[i]? = some d := by
        have := congrArg List.head? hd
        simpa [List.head?_drop] using this
      have hr : ds.drop (i + 1) = r := by
        rw [List.drop_eq_getElem_cons hlt] at hd
        exact (List.cons.inj hd).2
      obtain ⟨acc', e', h1, h2⟩ := step i d acc e hg h
      simp only [lcL, h1]
      exact ih (i + 1) acc' e' hr hlt h2
  exact core ds 0 acc e rfl (Nat.zero_le _) h
/-- .. that changes nothing but its own names -/
theorem lcL_pure {vs : List Nat} {mg : D → En → Option En} {mt : En → Rs Bool} {me : List D → En → Rs (List D)} (f : D → List D) {e : En} : ∀ {ds acc : List D}, (∀ d ∈ ds, ∀ acc : List D, acc.length < 4000 → lcStep vs mg mt me d acc e = .ok (acc ++ f d) e) →
    (∀ d ∈ ds, (f d).length ≤ 1) → acc.length + ds.length ≤ 4000 → lcL vs mg mt me ds acc e = .ok (acc ++ ds.flatMap f) e
  | [], acc, _, _, _ => by simp [lcL]
  | d :: ds, acc, h, hf, hl => by
    simp only [List.length_cons] at hl
    have h1 := h d List.mem_cons_self acc (by omega)
    have hd := hf d List.mem_cons_self
    have ih := lcL_pure f (ds := ds) (acc := acc ++ f d) (fun x hx => h x (List.mem_cons_of_mem _ hx)) (fun x hx => hf x (List.mem_cons_of_mem _ hx)) (by rw [List.length_append]; omega)
    simp only [lcL, h1, ih]
    simp
theorem size4000 : 4000 < sizeLine := by decide
/-- one step, the element kept or not -/
theorem lcStep_push {vs : List Nat} {mg : D → En → Option En} {mt : En → Rs Bool} {me : En → Rs D} {d z : D} {acc : List D} {e e2 e3 e4 : En} (h1 : mg d e = some e2) (h2 : mt e2 = .ok true e3) (h3 : me e3 = .ok z e4) (hl : acc.length < 4000) :
    lcStep vs mg mt (lcPush me) d acc e = .ok (acc ++ [z]) (wipeE e4 vs) := by
  have := size4000
  simp only [lcStep, h1, h2, lcPush, h3]
  rw [if_pos (by omega)]
theorem lcStep_skip {vs : List Nat} {mg : D → En → Option En} {mt : En → Rs Bool} {me : List D → En → Rs (List D)} {d : D} {acc : List D} {e e2 e3 : En} (h1 : mg d e = some e2) (h2 : mt e2 = .ok false e3) :
    lcStep vs mg mt me d acc e = .ok acc (wipeE e3 vs) := by
  simp only [lcStep, h1, h2]
@[simp] theorem ev_wipe0 (e : En) : wipeE e [] = e := id rfl
@[simp] theorem ev_wipe (e : En) (v : Nat) (vs : List Nat) : wipeE e (v :: vs) = (wipeE e vs).set v .un := id rfl
@[simp] theorem ev_back0 (e0 e : En) : backE e0 e [] = e := id rfl
@[simp] theorem ev_back (e0 e : En) (v : Nat) (vs : List Nat) : backE e0 e (v :: vs) = match e0[v]? with
  | some s => (backE e0 e vs).set v s
  | none => backE e0 e vs := id rfl
@[simp] theorem ev_okVs0 (e : En) : okVs e [] = true := id rfl
@[simp] theorem ev_okVs (e : En) (v : Nat) (vs : List Nat) : okVs e (v :: vs) = ((match e[v]? with
  | some .un => true
  | some (.v _) => true
  | _ => false) && okVs e vs) := id rfl
@[simp] theorem ev_mLc (vs : List Nat) (mi : En → Rs (List D)) (mg : D → En → Option En) (mt : En → Rs Bool) (me : List D → En → Rs (List D)) (env : En) : mLc vs mi mg mt me env = (mi env).bind fun ds e1 => if okVs e1 vs = true then (match lcL vs mg mt me ds [] (wipeE e1 vs) with
  | .ok acc e2 => .ok (.lst acc) (backE e1 e2 vs)
  | _ => .bad) else .bad := id rfl
/-! ### the bag -/
def Bag (n : Nat) (o : Ob) : Prop := ∃ a b c, o = bagO a b c ∧ b.natAbs < 2 ^ 31 ∧ c.natAbs ≤ n
theorem Bag.mono {n m : Nat} {o : Ob} (h : Bag n o) (hm : n ≤ m) : Bag m o := by
  obtain ⟨a, b, c, e, hb, hc⟩ := h
  exact ⟨a, b, c, e, hb, by omega⟩
theorem draw {n : Nat} {o : Ob} (B : Bag n o) (hn : n < 2 ^ 40) (w : Nat) (hw : 0 < w) (hw2 : w < 1000) :
    ∃ (o' : Ob) (r : Nat), Cm.m_law_draw [.io o, .v (.int w)] = .ok (.int r) [.io o', .v (.int w)] ∧ Bag (n + 1) o' ∧ r < w := by
  obtain ⟨a, b, c, rfl, hb, hc⟩ := B
  obtain ⟨a', b', r, h1, h2, h3, h4⟩ := draw_ok a b c w (by omega) (by omega) hb (by omega)
  refine ⟨_, r.toNat, ?_, ⟨a', b', c + 1, rfl, h4, by omega⟩, by omega⟩
  rw [h1, Int.toNat_of_nonneg h2]
end Pl

set_option Elab.async false
set_option linter.all false
set_option maxRecDepth 100000
set_option maxHeartbeats 4000000
/-! Pl3: one of several; marks; rows -/
namespace Pl
open PySem Mi
theorem atI_nat {α : Type} {xs : List α} {i : Nat} {x : α} (h : xs[i]? = some x) : L2.atI xs (i : Int) = some x := by
  have hl := (List.getElem?_eq_some_iff.mp h).1
  unfold L2.atI L2.ixN
  rw [if_pos (by omega), if_pos (by omega)]
  simpa using h
/-- one of a list -/
theorem one_lst {n : Nat} {o : Ob} (B : Bag n o) (hn : n < 2 ^ 40) (ds : List D) (h0 : 0 < ds.length) (h1 : ds.length < 1000) :
    ∃ (o' : Ob) (d : D), Cm.m_law_one [.io o, .v (.lst ds)] = .ok d [.io o', .v (.lst ds)] ∧ Bag (n + 1) o' ∧ d ∈ ds := by
  obtain ⟨o', r, h2, h3, h4⟩ := draw B hn ds.length h0 h1
  have hx : ds[r]? = some ds[r] := List.getElem?_eq_getElem h4
  refine ⟨o', ds[r], ?_, h3, List.getElem_mem h4⟩
  simp [↓bind_eq, Cm.m_law_one, Cm.m_law_one_b, mDef, gLen, h2, gIx, atI_nat hx]
theorem one_tup {n : Nat} {o : Ob} (B : Bag n o) (hn : n < 2 ^ 40) (ds : List D) (h0 : 0 < ds.length) (h1 : ds.length < 1000) :
    ∃ (o' : Ob) (d : D), Cm.m_law_one [.io o, .v (.tup ds)] = .ok d [.io o', .v (.tup ds)] ∧ Bag (n + 1) o' ∧ d ∈ ds := by
  obtain ⟨o', r, h2, h3, h4⟩ := draw B hn ds.length h0 h1
  have hx : ds[r]? = some ds[r] := List.getElem?_eq_getElem h4
  refine ⟨o', ds[r], ?_, h3, List.getElem_mem h4⟩
  simp [↓bind_eq, Cm.m_law_one, Cm.m_law_one_b, mDef, gLen, h2, gIx, atI_nat hx]
def rng (k : Nat) : List D := (List.range k).map fun i => .int (i : Nat)
theorem rng_len (k : Nat) : (rng k).length = k := by simp [rng]
theorem rng_get {k i : Nat} {d : D} (h : (rng k)[i]? = some d) : i < k ∧ d = .int (i : Nat) := by
  have hl := (List.getElem?_eq_some_iff.mp h).1
  rw [rng_len] at hl
  refine ⟨hl, ?_⟩
  simp [rng, hl] at h
  exact h.symm
theorem rngD_nat {k : Nat} (h : k ≤ 1000000000) : rngD 0 (k : Int) = some (rng k) := by
  unfold rngD rng
  rw [if_pos (by omega)]
  simp
theorem perm_erase {α : Type} {l : List α} {r : Nat} (hr : r < l.length) : (l[r] :: l.eraseIdx r).Perm l := by
  have h1 : l.eraseIdx r = l.take r ++ l.drop (r + 1) := List.eraseIdx_eq_take_drop_succ l r
  have h2 : l = l.take r ++ l[r] :: l.drop (r + 1) := by
    rw [← List.drop_eq_getElem_cons hr, List.take_append_drop]
  rw [h1]
  conv => rhs; rw [h2]
  exact List.perm_middle.symm
/-- the names that marks are drawn from -/
def pool : List Str := ["a", "b", "c", "ab", "lamp", "marks", "nona", "x", "abcdefgh", "aa", "z", "kind", "y", "ba"]
theorem pool_nd : ([] ++ pool).Nodup := by decide +kernel
def txs (xs : List Str) : List D := xs.map .str
/-- marks: n names, no two alike -/
def Marks (n : Nat) (ms : List Str) : Prop := ms.length = n ∧ ms.Nodup ∧ ∀ m ∈ ms, m ∈ pool
theorem gPopAt_ok {ds : List D} {r : Nat} {d : D} (h : ds[r]? = some d) (hs : ds.length ≤ 1000000) : gPopAt (.lst ds) [.int (r : Int)] = some (d, .lst (ds.eraseIdx r)) := by
  have hr := (List.getElem?_eq_some_iff.mp h).1
  have hsq : seqIndex? (r : Int) ds.length = some r := by
    unfold seqIndex?
    simp [hr]
    omega
  simp only [gPopAt]
  rw [if_pos hs, hsq, Option.bind_some, h]
  rfl
theorem marks_step {n : Nat} {o' : Ob} {k i : Nat} {ms rest : List Str} {d : D} (hn : n + 10 < 2 ^ 40) (hk : k ≤ 10) (hi : i < k) (h3 : Bag (n + i) o') (h4 : ms.length = i) (h5 : rest.length + i = 14) :
    ∃ (o2 : Ob) (r : Nat) (hr : r < rest.length), lcStep [3] (gSet 3) ttYes (lcPush (xMeth 2 gPopAt (xCons (xCall Cm.m_law_draw (qIo 0 (qVal (xBor (pN gLen (psCons (pVar 2) psNil))) qNil))) xNil))) d (txs ms) [.io o', .v (.int k), .ow (.lst (txs rest)), .un] =
      .ok (txs (ms ++ [rest[r]])) [.io o2, .v (.int k), .ow (.lst (txs (rest.eraseIdx r))), .un] ∧ Bag (n + i + 1) o2 := by
  obtain ⟨o2, r, q1, q2, q3⟩ := draw h3 (by omega) (txs rest).length (by simp [txs]; omega) (by simp [txs]; omega)
  have hr : r < rest.length := by simpa [txs] using q3
  have hx : (txs rest)[r]? = some (.str rest[r]) := by simp [txs, hr]
  refine ⟨o2, r, hr, ?_, q2⟩
  have hl : (txs ms).length < 4000 := by simp [txs]; omega
  refine (lcStep_push (e4 := [.io o2, .v (.int k), .ow (.lst (txs (rest.eraseIdx r))), .v d]) (z := .str rest[r]) (e2 := [.io o', .v (.int k), .ow (.lst (txs rest)), .v d]) (e3 := [.io o', .v (.int k), .ow (.lst (txs rest)), .v d]) ?_ ?_ ?_ hl).trans ?_
  · simp
  · simp
  · have hz : (txs rest).eraseIdx r = txs (rest.eraseIdx r) := by simp [txs, List.eraseIdx_eq_take_drop_succ, List.map_append, List.map_take, List.map_drop]
    have hg : gPopAt (.lst (txs rest)) [.int (r : Int)] = some (.str rest[r], .lst (txs (rest.eraseIdx r))) := by rw [gPopAt_ok hx (by simp [txs]; omega), hz]
    simp [↓bind_eq, gLen, q1, hg]
  · simp [txs]
theorem marks_ok {n : Nat} {o : Ob} (B : Bag n o) (hn : n + 10 < 2 ^ 40) (k : Nat) (hk : k ≤ 10) :
    ∃ (o' : Ob) (ms : List Str), Cm.m_law_marks [.io o, .v (.int k)] = .ok (.tup (txs ms)) [.io o', .v (.int k)] ∧ Bag (n + k) o' ∧ Marks k ms := by
  have st : ∀ i d acc e, (rng k)[i]? = some d → (∃ o' ms rest, acc = txs ms ∧ e = [.io o', .v (.int k), .ow (.lst (txs rest)), .un] ∧ Bag (n + i) o' ∧ ms.length = i ∧ rest.length + i = 14 ∧ (ms ++ rest).Nodup ∧ (∀ m ∈ ms, m ∈ pool) ∧ ∀ m ∈ rest, m ∈ pool) →
      ∃ acc' e', lcStep [3] (gSet 3) ttYes (lcPush (xMeth 2 gPopAt (xCons (xCall Cm.m_law_draw (qIo 0 (qVal (xBor (pN gLen (psCons (pVar 2) psNil))) qNil))) xNil))) d acc e = .ok acc' e' ∧
        ∃ o' ms rest, acc' = txs ms ∧ e' = [.io o', .v (.int k), .ow (.lst (txs rest)), .un] ∧ Bag (n + (i + 1)) o' ∧ ms.length = i + 1 ∧ rest.length + (i + 1) = 14 ∧ (ms ++ rest).Nodup ∧ (∀ m ∈ ms, m ∈ pool) ∧ ∀ m ∈ rest, m ∈ pool := by
    rintro i d acc e hd ⟨o', ms, rest, rfl, rfl, h3, h4, h5, h6, h7, h8⟩
    have hi : i < k := (rng_get hd).1
    obtain ⟨o2, r, hr, q1, q2⟩ := marks_step (d := d) hn hk hi h3 h4 h5
    have perm : (ms ++ [rest[r]] ++ rest.eraseIdx r).Perm (ms ++ rest) := by
      rw [List.append_assoc]
      refine List.Perm.append_left ms ?_
      exact perm_erase hr
    refine ⟨_, _, q1, o2, _, _, rfl, rfl, q2, by simp [h4], by rw [List.length_eraseIdx]; split <;> omega, perm.nodup_iff.mpr h6, fun m hm => ?_, fun m hm => h8 m (List.mem_of_mem_eraseIdx hm)⟩
    rcases List.mem_append.mp hm with h | h
    · exact h7 m h
    · rw [List.mem_singleton.mp h]; exact h8 _ (List.getElem_mem hr)
  obtain ⟨acc, e, h1, o', ms, rest, h2, h3, h4, h5, h6, h7, h8, h9⟩ := lcL_inv _ st (acc := []) (e := [.io o, .v (.int k), .ow (.lst (txs pool)), .un]) ⟨o, [], pool, rfl, rfl, B, rfl, rfl, pool_nd, fun m h => (by cases h), fun m h => h⟩
  rw [rng_len] at h4 h5
  refine ⟨o', ms, ?_, h4, h5, (List.nodup_append.mp h7).1, h8⟩
  have hp : (txs pool) = [.str "a", .str "b", .str "c", .str "ab", .str "lamp", .str "marks", .str "nona", .str "x", .str "abcdefgh", .str "aa", .str "z", .str "kind", .str "y", .str "ba"] := rfl
  rw [hp] at h1
  subst h2 h3
  simp [↓bind_eq, Cm.m_law_marks, Cm.m_law_marks_b, mDef, rngD_nat (show k ≤ 1000000000 by omega), h1, gTuple]
end Pl

set_option Elab.async false
set_option linter.all false
set_option maxRecDepth 100000
set_option maxHeartbeats 4000000
/-! Pl4: rows of at most four marks, by evaluation -/
namespace Pl
open PySem Mi
def rowsS : Nat → List Str
  | 0 => [""]
  | n + 1 => (rowsS n).flatMap fun r => [r ++ ("0" : Str), r ++ ("1" : Str)]
def overS (a b : Str) : Bool := (a.cps.toList.zip b.cps.toList).all fun p => decide (p.2 ≤ p.1)
theorem g_law_rows : ∀ n ∈ [0, 1, 2, 3, 4], Cm.m_law_rows [.v (.int (n : Nat))] = .ok (.lst (txs (rowsS n))) [.v (.int (n : Nat))] := by decide +kernel
theorem g_all_rows : ∀ n ∈ [0, 1, 2, 3, 4], Cm.m_all_rows [.v (.int (n : Nat))] = .ok (.lst (txs (rowsS n))) [.v (.int (n : Nat))] := by decide +kernel
theorem g_is_row : ∀ n ∈ [0, 1, 2, 3, 4], ∀ a ∈ rowsS n, Cm.m_is_row [.v (.str a), .v (.int (n : Nat))] = .ok (.bl true) [.v (.str a), .v (.int (n : Nat))] := by decide +kernel
theorem g_over : ∀ n ∈ [0, 1, 2, 3, 4], ∀ a ∈ rowsS n, ∀ b ∈ rowsS n, Cm.m_is_over [.v (.str a), .v (.str b)] = .ok (.bl (overS a b)) [.v (.str a), .v (.str b)] := by decide +kernel
theorem g_law_over_2 : ∀ n ∈ [0, 1, 2, 3, 4], ∀ a ∈ rowsS n, ∀ b ∈ rowsS n, Cm.m_law_over_2 [.v (.str a), .v (.str b)] = .ok (.bl (overS a b)) [.v (.str a), .v (.str b)] := by decide +kernel
theorem four {n : Nat} (h : n ≤ 4) : n ∈ [0, 1, 2, 3, 4] := by
  simp only [List.mem_cons, List.mem_nil_iff, or_false]
  omega
section
variable {n : Nat}
theorem r_law_rows (h : n ≤ 4) : Cm.m_law_rows [.v (.int (n : Nat))] = .ok (.lst (txs (rowsS n))) [.v (.int (n : Nat))] := g_law_rows n (four h)
theorem r_all_rows (h : n ≤ 4) : Cm.m_all_rows [.v (.int (n : Nat))] = .ok (.lst (txs (rowsS n))) [.v (.int (n : Nat))] := g_all_rows n (four h)
theorem r_over (h : n ≤ 4) {a b : Str} (ha : a ∈ rowsS n) (hb : b ∈ rowsS n) : Cm.m_is_over [.v (.str a), .v (.str b)] = .ok (.bl (overS a b)) [.v (.str a), .v (.str b)] := g_over n (four h) a ha b hb
theorem r_law_over_2 (h : n ≤ 4) {a b : Str} (ha : a ∈ rowsS n) (hb : b ∈ rowsS n) : Cm.m_law_over_2 [.v (.str a), .v (.str b)] = .ok (.bl (overS a b)) [.v (.str a), .v (.str b)] := g_law_over_2 n (four h) a ha b hb
end
/-! ### the order of rows -/
theorem g_refl : ∀ n ∈ [0, 1, 2, 3, 4], ∀ a ∈ rowsS n, overS a a = true := by decide +kernel
theorem g_nodup : ∀ n ∈ [0, 1, 2, 3, 4], (rowsS n).Nodup := by decide +kernel
theorem g_sorted : ∀ n ∈ [0, 1, 2, 3, 4], (rowsS n).Pairwise fun a b => sLt a b = true := by decide +kernel
theorem g_len : ∀ n ∈ [0, 1, 2, 3, 4], (rowsS n).length ≤ 16 := by decide +kernel
end Pl

set_option Elab.async false
set_option linter.all false
set_option maxRecDepth 100000
set_option maxHeartbeats 4000000
/-! Wp0: mirrors, walked by rules -/
namespace Pl
open PySem Mi
/-- m ends in Q -/
def Wp {α : Type} (m : En → Rs α) (env : En) (Q : α → En → Prop) : Prop := match m env with
  | .ok a e => Q a e
  | _ => False
theorem Wp.ex {α : Type} {m : En → Rs α} {env : En} {Q : α → En → Prop} (h : Wp m env Q) : ∃ a e, m env = .ok a e ∧ Q a e := by
  unfold Wp at h
  cases hm : m env with
  | ok a e => rw [hm] at h; exact ⟨a, e, rfl, h⟩
  | er x e => rw [hm] at h; exact h.elim
  | bad => rw [hm] at h; exact h.elim
theorem Wp.of {α : Type} {m : En → Rs α} {env e : En} {a : α} {Q : α → En → Prop} (h : m env = .ok a e) (q : Q a e) : Wp m env Q := by
  unfold Wp; rw [h]; exact q
theorem Wp.mono {α : Type} {m : En → Rs α} {env : En} {Q Q' : α → En → Prop} (h : Wp m env Q) (k : ∀ a e, Q a e → Q' a e) : Wp m env Q' := by
  obtain ⟨a, e, h1, h2⟩ := h.ex
  exact .of h1 (k a e h2)
section
variable {env : En} {Q : Fl → En → Prop} {m n : En → Rs Fl}
theorem wp_seq (h : Wp m env fun fl e => match fl with
    | .nx => Wp n e Q
    | fl => Q fl e) : Wp (mSeq m n) env Q := by
  obtain ⟨a, e, h1, h2⟩ := h.ex
  unfold Wp mSeq
  rw [h1]
  cases a with
  | nx =>
    obtain ⟨b, e2, h3, h4⟩ := Wp.ex h2
    simp only [Rs.bind_ok]
    rw [h3]; exact h4
  | _ => exact h2
theorem wp_nx (h : Q .nx env) : Wp mNx env Q := h
theorem wp_asg {mg : D → En → Option En} {me : En → Rs D} (h : match me env with
    | .ok d e1 => ∃ e2, mg d e1 = some e2 ∧ Q .nx e2
    | _ => False) : Wp (mAsg mg me) env Q := by
  unfold Wp mAsg
  cases hm : me env with
  | ok d e1 =>
    rw [hm] at h
    obtain ⟨e2, h1, h2⟩ := h
    simp only [Rs.bind_ok, h1]
    exact h2
  | er x e => rw [hm] at h; exact h.elim
  | bad => rw [hm] at h; exact h.elim
theorem wp_ret {me : En → Rs D} (h : match me env with
    | .ok d e => Q (.rt d) e
    | _ => False) : Wp (mRet me) env Q := by
  unfold Wp mRet
  cases hm : me env with
  | ok d e1 => rw [hm] at h; exact h
  | er x e => rw [hm] at h; exact h.elim
  | bad => rw [hm] at h; exact h.elim
theorem wp_if {t : En → Rs Bool} (h : match t env with
    | .ok b e => if b = true then Wp m e Q else Wp n e Q
    | _ => False) : Wp (mIf t m n) env Q := by
  unfold Wp mIf
  cases hm : t env with
  | ok b e1 =>
    rw [hm] at h
    cases b with
    | true => simpa [Wp] using h
    | false => simpa [Wp] using h
  | er x e => rw [hm] at h; exact h.elim
  | bad => rw [hm] at h; exact h.elim
theorem wp_par {is : List Nat} {ma : En → Rs (List D)} (h : match ma env with
    | .ok ds e => ∃ e2, mPar.parS is ds e = some e2 ∧ Q .nx e2
    | _ => False) : Wp (mPar is ma) env Q := by
  unfold Wp mPar
  cases hm : ma env with
  | ok d e1 =>
    rw [hm] at h
    obtain ⟨e2, h1, h2⟩ := h
    simp only [Rs.bind_ok, h1]
    exact h2
  | er x e => rw [hm] at h; exact h.elim
  | bad => rw [hm] at h; exact h.elim
end
section
variable {env : En} {Q : Fl → En → Prop} {mi : En → Rs (List D)} {mg : D → En → Option En} {mb : En → Rs Fl}
theorem forL_wp {ds : List D} (I : Nat → En → Prop)
    (step : ∀ i d e, ds[i]? = some d → I i e → ∃ e2, mg d e = some e2 ∧ Wp mb e2 fun fl e3 => match fl with
      | .nx => I (i + 1) e3
      | .ct => I (i + 1) e3
      | .bk => Q .nx e3
      | .rt d => Q (.rt d) e3)
    (fin : ∀ e, I ds.length e → Q .nx e) {e : En} (h : I 0 e) : Wp (forL mg mb ds) e Q := by
  have core : ∀ (r : List D) (i : Nat) (e : En), ds.drop i = r → i ≤ ds.length → I i e → Wp (forL mg mb r) e Q := by
    intro r
    induction r with
    | nil =>
      intro i e hd hi h
      have : i = ds.length := by
        have := List.drop_eq_nil_iff.mp hd
        omega
      subst this
      exact fin e h
    | cons d r ih =>
      intro i e hd hi h
      have hlt : i < ds.length := by
        by_cases q : i < ds.length
        · exact q
        · rw [List.drop_of_length_le (by omega)] at hd; cases hd
      have hg : ds[i]? = some d := by
        have := congrArg List.head? hd
        simpa [List.head?_drop] using this
      have hr : ds.drop (i + 1) = r := by
        rw [List.drop_eq_getElem_cons hlt] at hd
        exact (List.cons.inj hd).2
      obtain ⟨e2, h1, h2⟩ := step i d e hg h
      obtain ⟨fl, e3, h3, h4⟩ := h2.ex
      unfold Wp
      simp only [forL, h1, h3]
      cases fl with
      | nx => exact ih (i + 1) e3 hr hlt h4
      | ct => exact ih (i + 1) e3 hr hlt h4
      | bk => exact h4
      | rt d => exact h4
  exact core ds 0 e rfl (Nat.zero_le _) h
/-- .. the source known -/
theorem wp_forD {ds : List D} {e1 : En} (hm : mi env = .ok ds e1) (I : Nat → En → Prop) (h0 : I 0 e1) (step : ∀ i d e, ds[i]? = some d → I i e → ∃ e2, mg d e = some e2 ∧ Wp mb e2 fun fl e3 => match fl with
      | .nx => I (i + 1) e3
      | .ct => I (i + 1) e3
      | .bk => Q .nx e3
      | .rt d => Q (.rt d) e3) (fin : ∀ e, I ds.length e → Q .nx e) : Wp (mFor mi mg mb) env Q := by
  unfold Wp mFor
  rw [hm]
  exact forL_wp I step fin h0
end
/-! ### new objects -/
section
variable {env : En} {Q : Ob → En → Prop} {m : En → Rs Fl} {n : En → Rs Ob}
end
/-! ### defs -/
def allV (args : En) : Prop := ∀ s ∈ args, isIoS s = false
theorem mergeA_vals : ∀ {args : En}, allV args → ∀ env, mergeA args env = args
  | [], _, env => ev_mrg0 env
  | s :: r, h, [] => by cases s <;> rfl
  | s :: r, h, t :: env => by
    have ih := mergeA_vals (args := r) (fun x hx => h x (List.mem_cons_of_mem _ hx)) env
    have hs := h s List.mem_cons_self
    cases s with
    | io o => cases hs
    | v d => show Sl.v d :: mergeA r env = _; rw [ih]
    | un => show Sl.un :: mergeA r env = _; rw [ih]
    | ow o => show Sl.ow o :: mergeA r env = _; rw [ih]
/-- a def that is handed values -/
theorem mDef_v {n N : Nat} {mb : En → Rs Fl} {ds : List D} {d : D} (h : Wp mb (ds.map Sl.v ++ List.replicate (N - n) .un) fun fl _ => fl = .rt d ∨ (fl = .nx ∧ d = .non)) : mDef n N mb (ds.map Sl.v) = .ok d (ds.map Sl.v) := by
  have av : allV (ds.map Sl.v) := fun s hs => by
    obtain ⟨x, _, rfl⟩ := List.mem_map.mp hs
    rfl
  obtain ⟨fl, e, h1, h2⟩ := h.ex
  unfold mDef
  rw [h1]
  rcases h2 with rfl | ⟨rfl, rfl⟩
  · simp only [mergeA_vals av]
  · simp only [mergeA_vals av]
theorem mDef_1 {N : Nat} {mb : En → Rs Fl} {a d : D} (h : Wp mb (.v a :: List.replicate (N - 1) .un) fun fl _ => fl = .rt d ∨ (fl = .nx ∧ d = .non)) : mDef 1 N mb [.v a] = .ok d [.v a] := mDef_v (ds := [a]) h
theorem mDef_2 {N : Nat} {mb : En → Rs Fl} {a b d : D} (h : Wp mb (.v a :: .v b :: List.replicate (N - 2) .un) fun fl _ => fl = .rt d ∨ (fl = .nx ∧ d = .non)) : mDef 2 N mb [.v a, .v b] = .ok d [.v a, .v b] := mDef_v (ds := [a, b]) h
@[simp] theorem ev_own (i : Nat) (o : Ob) (e : En) : ownAt i o e = match e[i]? with
  | some s => if isIoS s = true then none else some (e.set i (.ow o))
  | none => none := by
  unfold ownAt
  cases e[i]? with
  | none => rfl
  | some s => cases s <;> rfl
@[simp] theorem ev_stoK (i : Nat) (g : Ob → D → D → Option Ob) (kd d : D) (e : En) : gStoK i g kd d e = match e[i]? with
  | some s => match s.ob with
    | some o => (g o kd d).map fun o' => e.set i (s.put o')
    | none => none
  | none => none := id rfl
section
variable {cs : List Str} {f : D → Option Bool}
@[simp] theorem any_non : isAnyD cs f .non = f .non := id rfl
@[simp] theorem any_bl (b : Bool) : isAnyD cs f (.bl b) = f (.bl b) := id rfl
@[simp] theorem any_int (b : Int) : isAnyD cs f (.int b) = f (.int b) := id rfl
@[simp] theorem any_str (b : Str) : isAnyD cs f (.str b) = f (.str b) := id rfl
@[simp] theorem any_tup (b : List D) : isAnyD cs f (.tup b) = f (.tup b) := id rfl
@[simp] theorem any_lst (b : List D) : isAnyD cs f (.lst b) = f (.lst b) := id rfl
@[simp] theorem any_dct (t : Bool) (k : List Ky) (b : List D) : isAnyD cs f (.dct t k b) = f (.dct t k b) := id rfl
@[simp] theorem any_obj (c : Str) (n : List Str) (b : List D) : isAnyD cs f (.obj c n b) = if c ∈ cs then some false else none := id rfl
@[simp] theorem own_obj (c c' : Str) (n : List Str) (b : List D) : isOwnD cs c (.obj c' n b) = if c' ∈ cs ∧ c ∈ cs then some (decide (c' = c)) else none := id rfl
@[simp] theorem ev_gFld (c f c' : Str) (ns : List Str) (vs : List D) : gFld c f (.obj c' ns vs) = if c' = c then lookN f ns vs else none := id rfl
@[simp] theorem ev_lookN (f n : Str) (ns : List Str) (d : D) (ds : List D) : lookN f (n :: ns) (d :: ds) = if n = f then some d else lookN f ns ds := id rfl
variable {env : En}
@[simp] theorem ev_xProp (c : Str) (m mo : En → Rs D) : xProp c m mo env = (mo env).bind fun d e1 => match d with
  | .obj c' _ _ => if c' = c then callV0 m [d] e1 else .bad
  | _ => .bad := id rfl
@[simp] theorem ev_callV0 (m : En → Rs D) (ds : List D) : callV0 m ds env = match m (ds.map Sl.v) with
  | .ok d _ => .ok d env
  | _ => .bad := id rfl
@[simp] theorem ev_callV (m : En → Rs D) (ds : List D) : callV m ds env = match m (ds.map Sl.v) with
  | .ok d _ => .ok d env
  | .er x _ => .er x env
  | .bad => .bad := id rfl
@[simp] theorem ev_xMth (c nm : Str) (m mo : En → Rs D) (ma : En → Rs (List D)) : xMth c nm m mo ma env = (mo env).bind fun d e1 => match d with
  | .obj c' ns _ => if c' = c ∧ hasN nm ns = false then (ma e1).bind fun ds e2 => callV m (d :: ds) e2 else .bad
  | _ => .bad := id rfl
@[simp] theorem ev_xMake (c : Str) (m : En → Rs D) (ma : En → Rs (List D)) : xMake c m ma env = (ma env).bind fun ds e1 => match m (.io (.ins c [] []) :: ds.map Sl.v) with
  | .ok .non args' => match (args'[0]? : Option Sl) with
    | some (.io o) => .ok o e1
    | _ => .bad
  | .er x _ => .er x e1
  | _ => .bad := id rfl
@[simp] theorem ev_xNF (g : List D → Option Ob) (ma : En → Rs (List D)) : xNF g ma env = (ma env).bind fun ds e => .of (g ds) e := id rfl
@[simp] theorem ev_xCallO (m : En → Rs Ob) (ma : En → Rs (List Ar)) : xCallO m ma env = (ma env).bind fun as env1 => if (inrs as).Nodup then (match mkArgs env1 as with
    | none => .bad
    | some args => match m args with
      | .ok o args' => .ok o (putBack env1 as args')
      | .er x args' => .er x (putBack env1 as args')
      | .bad => .bad) else .bad := id rfl
@[simp] theorem ev_xPick (pm : List Nat) (ma : En → Rs (List D)) : xPick pm ma env = (ma env).bind fun ds e => .ok (pick pm ds) e := id rfl
@[simp] theorem ev_xTm (g : D → List D → Option D) (mo : En → Rs D) (ma : En → Rs (List D)) : xTm g mo ma env = (mo env).bind fun d e1 => if isStrT d = true then (ma e1).bind fun ds e2 => .of (g d ds) e2 else .bad := id rfl
@[simp] theorem ev_isStrT (x : Str) : isStrT (.str x) = true := id rfl
@[simp] theorem ev_mFld (i : Nat) (c f : Str) (m : En → Rs D) : mFld i c f m env = (m env).bind fun d e1 => match e1[i]? with
  | some s => match s.ob with
    | some (.ins c' ns vs) => if c' = c ∧ ns.length < 1000 then (.ok .nx (e1.set i (s.put (.ins c (putN f d ns vs).1 (putN f d ns vs).2)))) else .bad
    | _ => .bad
  | none => .bad := id rfl
@[simp] theorem ev_xFldO (i : Nat) (c f : Str) : xFldO i c f env = match (env[i]?).bind Sl.ob with
  | some (.ins c' ns vs) => if c' = c then .of (lookN f ns vs) env else .bad
  | _ => .bad := id rfl
@[simp] theorem ev_putN0 (f : Str) (d : D) : putN f d [] [] = ([f], [d]) := id rfl
@[simp] theorem ev_putN (f n : Str) (d v : D) (ns : List Str) (vs : List D) : putN f d (n :: ns) (v :: vs) = if n = f then (n :: ns, d :: vs) else (n :: (putN f d ns vs).1, v :: (putN f d ns vs).2) := id rfl
@[simp] theorem ev_mParVF (i j : Nat) (m : En → Rs D) (n : En → Rs Ob) : mParVF i j m n env = (m env).bind fun d e1 => (n e1).bind fun o e2 => match (ownAt j o e2).bind (gSet i d) with
  | some e3 => .ok .nx e3
  | none => .bad := id rfl
@[simp] theorem ev_mParFV (i j : Nat) (m : En → Rs D) (n : En → Rs Ob) : mParFV i j n m env = (n env).bind fun o e1 => (m e1).bind fun d e2 => match (ownAt i o e2).bind (gSet j d) with
  | some e3 => .ok .nx e3
  | none => .bad := id rfl
end
end Pl

set_option Elab.async false
set_option linter.all false
set_option maxRecDepth 100000
set_option maxHeartbeats 4000000
/-! Wp1: comprehensions; sums; tables by rows -/
namespace Pl
open PySem Mi
section
variable {α : Type}
/-- a comprehension that changes nothing -/
theorem lcG {vs : List Nat} {mg : D → En → Option En} {mt : En → Rs Bool} {me : En → Rs D} {e : En} (a : List α) (enc : α → D) (tg : α → En) (t : α → Bool) (g : α → D) (hm : ∀ x ∈ a, mg (enc x) e = some (tg x)) (hw : ∀ x ∈ a, wipeE (tg x) vs = e)
    (ht : ∀ x ∈ a, mt (tg x) = .ok (t x) (tg x)) (hg : ∀ x ∈ a, t x = true → me (tg x) = .ok (g x) (tg x)) (hl : a.length ≤ 4000) : lcL vs mg mt (lcPush me) (a.map enc) [] e = .ok ((a.filter t).map g) e := by
  have core : ∀ (b : List α) (acc : List D), (∀ x ∈ b, x ∈ a) → acc.length + b.length ≤ 4000 → lcL vs mg mt (lcPush me) (b.map enc) acc e = .ok (acc ++ (b.filter t).map g) e := by
    intro b
    induction b with
    | nil => intro acc _ _; simp [lcL]
    | cons x b ih =>
      intro acc hb hl
      have hx := hb x List.mem_cons_self
      simp only [List.length_cons] at hl
      by_cases h : t x = true
      · have h1 := ht x hx
        rw [h] at h1
        have s1 : lcStep vs mg mt (lcPush me) (enc x) acc e = .ok (acc ++ [g x]) e := by rw [lcStep_push (hm x hx) h1 (hg x hx h) (by omega), hw x hx]
        simp only [List.map_cons, lcL, s1]
        rw [ih (acc ++ [g x]) (fun y hy => hb y (List.mem_cons_of_mem _ hy)) (by simp; omega)]
        simp [h]
      · have h1 := ht x hx
        have h : t x = false := by simpa using h
        rw [h] at h1
        have s1 : lcStep vs mg mt (lcPush me) (enc x) acc e = .ok acc e := by rw [lcStep_skip (hm x hx) h1, hw x hx]
        simp only [List.map_cons, lcL, s1]
        rw [ih acc (fun y hy => hb y (List.mem_cons_of_mem _ hy)) (by omega)]
        simp [h]
  have := core a [] (fun x hx => hx) (by simpa using hl)
  simpa using this
theorem set_un {v : Nat} {e : En} {s : Sl} (hv : e[v]? = some .un) : (e.set v s).set v .un = e := by
  have hlt : v < e.length := (List.getElem?_eq_some_iff.mp hv).1
  rw [List.set_set]
  have hh := (List.getElem?_eq_some_iff.mp hv).2
  rw [← hh]
  exact List.set_getElem_self hlt
/-- .. one name -/
theorem lcM {v : Nat} {mt : En → Rs Bool} {me : En → Rs D} {e : En} (hv : e[v]? = some .un) (a : List α) (enc : α → D) (t : α → Bool) (g : α → D)
    (ht : ∀ x ∈ a, mt (e.set v (.v (enc x))) = .ok (t x) (e.set v (.v (enc x)))) (hg : ∀ x ∈ a, t x = true → me (e.set v (.v (enc x))) = .ok (g x) (e.set v (.v (enc x)))) (hl : a.length ≤ 4000) : lcL [v] (gSet v) mt (lcPush me) (a.map enc) [] e = .ok ((a.filter t).map g) e :=
  lcG a enc (fun x => e.set v (.v (enc x))) t g (fun x _ => by simp [hv]) (fun x _ => set_un hv) ht hg hl
/-- .. all of them -/
theorem lcA {v : Nat} {me : En → Rs D} {e : En} (hv : e[v]? = some .un) (a : List α) (enc : α → D) (g : α → D)
    (hg : ∀ x ∈ a, me (e.set v (.v (enc x))) = .ok (g x) (e.set v (.v (enc x)))) (hl : a.length ≤ 4000) : lcL [v] (gSet v) ttYes (lcPush me) (a.map enc) [] e = .ok (a.map g) e := by
  have := lcM (mt := ttYes) (me := me) hv a enc (fun _ => true) g (fun x _ => rfl) (fun x hx _ => hg x hx) hl
  rwa [List.filter_eq_self.mpr fun _ _ => rfl] at this
/-- .. two names -/
theorem lcZ {v w : Nat} {mt : En → Rs Bool} {me : En → Rs D} {e : En} (hv : e[v]? = some .un) (hw : e[w]? = some .un) (hvw : v ≠ w) (a : List α) (enc enc2 : α → D) (t : α → Bool) (g : α → D)
    (ht : ∀ x ∈ a, mt ((e.set v (.v (enc x))).set w (.v (enc2 x))) = .ok (t x) ((e.set v (.v (enc x))).set w (.v (enc2 x))))
    (hg : ∀ x ∈ a, t x = true → me ((e.set v (.v (enc x))).set w (.v (enc2 x))) = .ok (g x) ((e.set v (.v (enc x))).set w (.v (enc2 x)))) (hl : a.length ≤ 4000) :
    lcL [v, w] (gUnp 2 (gsCons (gSet v) (gsCons (gSet w) gsNil))) mt (lcPush me) (a.map fun x => .tup [enc x, enc2 x]) [] e = .ok ((a.filter t).map g) e :=
  lcG a (fun x => .tup [enc x, enc2 x]) (fun x => (e.set v (.v (enc x))).set w (.v (enc2 x))) t g (fun x _ => by
    have : (e.set v (.v (enc x)))[w]? = some .un := by rw [List.getElem?_set_ne hvw]; exact hw
    simp [hv, this]) (fun x _ => by
    have : (e.set v (.v (enc x)))[w]? = some .un := by rw [List.getElem?_set_ne hvw]; exact hw
    show ((((e.set v (.v (enc x))).set w (.v (enc2 x))).set w .un).set v .un) = e
    rw [set_un this]
    exact set_un hv) ht hg hl
end
/-! ### rows as keys -/
theorem sizeBig : 100000 < sizeLine := by decide
/-! ### sums -/
/-! ### names -/
def nameB (x : Str) : Bool := decide (1 ≤ x.cps.toList.length) && (decide (x.cps.toList.length ≤ 8) && x.cps.toList.all fun c => decide (c ∈ ("abcdefghijklmnopqrstuvwxyz" : Str).cps.toList))
def Names (n : Nat) (ms : List Str) : Prop := ms.length = n ∧ ms.Nodup ∧ ∀ m ∈ ms, nameB m = true
theorem p_name : ∀ m ∈ pool, nameB m = true := by decide +kernel
theorem Marks.names {n : Nat} {ms : List Str} (h : Marks n ms) : Names n ms := ⟨h.1, h.2.1, fun m hm => p_name m (h.2.2 m hm)⟩
end Pl

set_option Elab.async false
set_option linter.all false
set_option maxRecDepth 100000
set_option maxHeartbeats 4000000
/-! Pl5: equality of trees; marks are judged right -/
namespace Pl
open PySem Mi
theorem cut_to {ds : List D} {i : Nat} (h : i ≤ ds.length) : cutL ds none (some (i : Int)) = ds.take i := by
  unfold cutL
  rw [HT.sIx_none, HT.sIx_nat, Nat.min_eq_left h]
  simp
theorem cut_to2 {ds : List D} {i : Nat} : cutL ds none (some (i : Int)) = ds.take i := by
  unfold cutL
  rw [HT.sIx_none, HT.sIx_nat]
  simp [List.take_eq_take_min]
theorem gSl_to (a : List D) (i : Nat) : gSl none (some ((i : Nat) : Int)) (.tup a) = some (.tup (a.take i)) := by
  simp only [gSl]
  rw [cut_to2]
/-! ### equality -/
def okS (x : Str) : Bool := PyData.canLay0 (.str x)
theorem shaped_i (i : Int) : SeqAt.shaped (.int i) = true := rfl
theorem gEq_ii (i j : Int) : gEq (.int i) (.int j) = some (.bl (i == j)) := by
  simp only [gEq, eqD, D.py, shaped_i, and_self, if_true, Option.map_some]
  rfl
theorem gNe_ii (i j : Int) : gNe (.int i) (.int j) = some (.bl (!(i == j))) := by
  simp only [gNe, eqD, D.py, shaped_i, and_self, if_true, Option.map_some]
  rfl
theorem pys_txs : ∀ a : List Str, D.py.pys (txs a) = some (a.map .str)
  | [] => rfl
  | x :: a => by
    show D.py.pys (.str x :: txs a) = _
    rw [D.py.pys, pys_txs a]
    rfl
theorem lay_txs : ∀ {a : List Str}, (∀ x ∈ a, okS x = true) → PyData.canLayAll0 (a.map .str) = true
  | [], _ => rfl
  | x :: a, h => by
    rw [List.map_cons, PyData.canLayAll0, lay_txs fun y hy => h y (List.mem_cons_of_mem _ hy)]
    rw [show PyData.canLay0 (.str x) = true from h x List.mem_cons_self]
    rfl
theorem depth_txs : ∀ a : List Str, PyData.depthAll (a.map .str) = 0
  | [] => rfl
  | x :: a => by
    rw [List.map_cons, PyData.depthAll, depth_txs a]
    rfl
theorem eqv_txs : ∀ a b : List Str, PyData.eqvAll (a.map .str) (b.map .str) = decide (a = b)
  | [], [] => rfl
  | [], _ :: _ => rfl
  | _ :: _, [] => rfl
  | x :: a, y :: b => by
    rw [List.map_cons, List.map_cons, PyData.eqvAll, eqv_txs a b]
    by_cases e : x = y
    · subst e; simp [PyData.eqv]
    · simp [PyData.eqv, e]
theorem shaped_t {a : List Str} (h : ∀ x ∈ a, okS x = true) : SeqAt.shaped (.tuple (a.map .str)) = true := by
  unfold SeqAt.shaped
  rw [show PyData.canLay0 (.tuple (a.map .str)) = true from lay_txs h, PyData.depth, depth_txs]
  rfl
theorem shaped_l {a : List Str} (h : ∀ x ∈ a, okS x = true) : SeqAt.shaped (.list (a.map .str)) = true := by
  unfold SeqAt.shaped
  rw [show PyData.canLay0 (.list (a.map .str)) = true from lay_txs h, PyData.depth, depth_txs]
  rfl
theorem py_tup (a : List Str) : (D.tup (txs a)).py = some (.tuple (a.map .str)) := by rw [D.py, pys_txs]; rfl
theorem py_lst (a : List Str) : (D.lst (txs a)).py = some (.list (a.map .str)) := by rw [D.py, pys_txs]; rfl
theorem eqD_tt {a b : List Str} (ha : ∀ x ∈ a, okS x = true) (hb : ∀ x ∈ b, okS x = true) : eqD (.tup (txs a)) (.tup (txs b)) = some (decide (a = b)) := by
  simp only [eqD, py_tup, shaped_t ha, shaped_t hb, and_self, if_true]
  rw [PyData.eqv, eqv_txs]
theorem gEq_tt {a b : List Str} (ha : ∀ x ∈ a, okS x = true) (hb : ∀ x ∈ b, okS x = true) : gEq (.tup (txs a)) (.tup (txs b)) = some (.bl (decide (a = b))) := by rw [gEq, eqD_tt ha hb]; rfl
theorem gNe_tt {a b : List Str} (ha : ∀ x ∈ a, okS x = true) (hb : ∀ x ∈ b, okS x = true) : gNe (.tup (txs a)) (.tup (txs b)) = some (.bl (!decide (a = b))) := by rw [gNe, eqD_tt ha hb]; rfl
theorem eqD_ll {a b : List Str} (ha : ∀ x ∈ a, okS x = true) (hb : ∀ x ∈ b, okS x = true) : eqD (.lst (txs a)) (.lst (txs b)) = some (decide (a = b)) := by
  simp only [eqD, py_lst, shaped_l ha, shaped_l hb, and_self, if_true]
  rw [PyData.eqv, eqv_txs]
theorem gNe_ll {a b : List Str} (ha : ∀ x ∈ a, okS x = true) (hb : ∀ x ∈ b, okS x = true) : gNe (.lst (txs a)) (.lst (txs b)) = some (.bl (!decide (a = b))) := by rw [gNe, eqD_ll ha hb]; rfl
theorem gEq_tnil {a : List Str} (ha : ∀ x ∈ a, okS x = true) : gEq (.tup (txs a)) (.tup []) = some (.bl (decide (a = []))) := gEq_tt (b := []) ha (by simp)
theorem gNe_lnil {a : List Str} (ha : ∀ x ∈ a, okS x = true) : gNe (.lst (txs a)) (.lst []) = some (.bl (!decide (a = []))) := gNe_ll (b := []) ha (by simp)
theorem g_okS : ∀ n ∈ [0, 1, 2, 3, 4], ∀ a ∈ rowsS n, okS a = true := by decide +kernel
/-! ### in -/
theorem flat_txs : ∀ a : List Str, (txs a).all isFlat = true
  | [] => rfl
  | x :: a => by
    show (isFlat (.str x) && (txs a).all isFlat) = true
    rw [flat_txs a]; rfl
theorem inF_txs (x : Str) : ∀ a : List Str, inF (.str x) (txs a) = decide (x ∈ a)
  | [] => rfl
  | y :: a => by
    have ih := inF_txs x a
    show (eqF (.str y) (.str x) || inF (.str x) (txs a)) = _
    rw [ih]
    by_cases e : x = y
    · subst e; simp [eqF]
    · simp [eqF, e, Ne.symm e]
theorem gIn_t (x : Str) (a : List Str) : gIn (.str x) (.tup (txs a)) = some (.bl (decide (x ∈ a))) := by
  simp only [gIn, gInB]
  rw [if_pos ⟨rfl, flat_txs a⟩, inF_txs]
  rfl
theorem gNotIn_t (x : Str) (a : List Str) : gNotIn (.str x) (.tup (txs a)) = some (.bl (!decide (x ∈ a))) := by
  simp only [gNotIn, gInB]
  rw [if_pos ⟨rfl, flat_txs a⟩, inF_txs]
  rfl
/-! ### marks -/
theorem take_txs (i : Nat) (a : List Str) : (txs a).take i = txs (a.take i) := by simp [txs, List.map_take]
theorem len_txs (a : List Str) : (txs a).length = a.length := by simp [txs]
theorem enum_get {ds : List D} {i : Nat} {d : D} (h : (enumD ds)[i]? = some d) : ∃ x, ds[i]? = some x ∧ d = .tup [.int (i : Nat), x] := by
  simp only [enumD, List.getElem?_map, List.getElem?_zipIdx, Option.map_map, Option.map_eq_some_iff] at h
  obtain ⟨b, hb, rfl⟩ := h
  exact ⟨b, hb, by simp⟩
theorem txs_get {a : List Str} {i : Nat} {d : D} (h : (txs a)[i]? = some d) : ∃ x, a[i]? = some x ∧ d = .str x := by
  simp only [txs, List.getElem?_map, Option.map_eq_some_iff] at h
  obtain ⟨x, hx, rfl⟩ := h
  exact ⟨x, hx, rfl⟩
theorem nodup_take {α : Type} {a : List α} (h : a.Nodup) {i : Nat} {x : α} (hx : a[i]? = some x) : x ∉ a.take i := by
  intro hm
  obtain ⟨j, hj, e⟩ := List.mem_iff_getElem.mp hm
  obtain ⟨hi, e2⟩ := List.getElem?_eq_some_iff.mp hx
  rw [List.getElem_take] at e
  simp only [List.length_take] at hj
  have := (List.getElem_inj h).mp (e.trans e2.symm)
  omega
theorem sIn_c (c : Nat) (y : Str) : gIn (.str ⟨#[c]⟩) (.str y) = some (.bl (decide (c ∈ y.cps.toList))) := rfl
theorem gAll_b {α : Type} (f : α → Bool) (a : List α) : gAll [.lst (a.map fun x => .bl (f x))] = some (.bl (a.all f)) := by
  have : blsD (a.map fun x => .bl (f x)) = some (a.map f) := by
    induction a with
    | nil => rfl
    | cons x a ih => simp [blsD, ih]
  simp only [gAll, this, Option.map_some, List.all_map]
  rfl
theorem name_len {m : Str} (h : nameB m = true) : 1 ≤ m.length ∧ m.length ≤ 8 ∧ ∀ c ∈ m.cps.toList, c ∈ ("abcdefghijklmnopqrstuvwxyz" : Str).cps.toList := by
  simp only [nameB, Bool.and_eq_true, decide_eq_true_eq, List.all_eq_true] at h
  exact ⟨by simpa [PySem.Str.length] using h.1, by simpa [PySem.Str.length] using h.2.1, h.2.2⟩
theorem gLe_ii (i j : Int) : gLe (.int i) (.int j) = some (.bl (decide (i ≤ j))) := rfl
theorem okS_name {m : Str} (h : nameB m = true) : okS m = true := by
  obtain ⟨h1, h2, h3⟩ := name_len h
  have hc : ∀ c ∈ m.cps.toList, c < 128 := fun c hc => by
    have : ∀ c ∈ ("abcdefghijklmnopqrstuvwxyz" : Str).cps.toList, c < 128 := by decide +kernel
    exact this c (h3 c hc)
  show PyData.canLay0 (.str m) = true
  rw [PyData.canLay0]
  show (m.cps.all fun c => decide (c < 0x110000)) = true
  rw [← Array.all_toList, List.all_eq_true]
  intro c hcm
  have := hc c hcm
  simp
  omega
end Pl

set_option Elab.async false
set_option linter.all false
set_option maxRecDepth 100000
set_option maxHeartbeats 4000000
/-! Pl6: lots of rows: what the program says of them -/
namespace Pl
open PySem Mi
/-- a comprehension over texts that changes nothing -/
theorem lcT {v : Nat} {e : En} {mt : En → Rs Bool} {me : En → Rs D} (hv : e[v]? = some .un) (a : List Str) (t : Str → Bool) (g : Str → D) (ht : ∀ x ∈ a, mt (e.set v (.v (.str x))) = .ok (t x) (e.set v (.v (.str x))))
    (hg : ∀ x ∈ a, t x = true → me (e.set v (.v (.str x))) = .ok (g x) (e.set v (.v (.str x)))) (hl : a.length ≤ 4000) : lcL [v] (gSet v) mt (lcPush me) (txs a) [] e = .ok ((a.filter t).map g) e := by
  have hlt : v < e.length := (List.getElem?_eq_some_iff.mp hv).1
  have back : ∀ x, wipeE (e.set v (.v (.str x))) [v] = e := fun x => by
    show ((e.set v (.v (.str x))).set v .un) = e
    rw [List.set_set]
    have hh := (List.getElem?_eq_some_iff.mp hv).2
    rw [← hh]
    exact List.set_getElem_self hlt
  have set1 : ∀ x, gSet v (.str x) e = some (e.set v (.v (.str x))) := fun x => by simp [hv]
  have key := lcL_pure (vs := [v]) (mg := gSet v) (mt := mt) (me := lcPush me) (fun d => match d with | .str x => if t x = true then [g x] else [] | _ => []) (e := e) (ds := txs a) (acc := []) (fun d hd acc hacc => by
    obtain ⟨x, hx, rfl⟩ := List.mem_map.mp hd
    by_cases h : t x = true
    · have h1 := ht x hx
      rw [h] at h1
      rw [lcStep_push (set1 x) h1 (hg x hx h) hacc, back]
      simp [h]
    · have h1 := ht x hx
      have h : t x = false := by simpa using h
      rw [h] at h1
      rw [lcStep_skip (set1 x) h1, back]
      simp [h]) (fun d hd => by
    obtain ⟨x, hx, rfl⟩ := List.mem_map.mp hd
    show (if t x = true then [g x] else []).length ≤ 1
    split <;> simp) (by simp [len_txs]; exact hl)
  rw [key]
  congr 1
  rw [List.nil_append]
  clear key ht hg hl
  induction a with
  | nil => rfl
  | cons x a ih =>
    rw [txs, List.map_cons, List.flatMap_cons, List.filter_cons]
    rw [show (a.map D.str).flatMap _ = _ from ih]
    by_cases h : t x = true
    · simp [h]
    · simp [h]
theorem filter_true {α : Type} (a : List α) : a.filter (fun _ => true) = a := List.filter_eq_self.mpr fun _ _ => rfl
theorem blsD_map (b : List Bool) : blsD (b.map .bl) = some b := by
  induction b with
  | nil => rfl
  | cons x b ih => simp [blsD, ih]
theorem gAny_map {α : Type} (f : α → Bool) (a : List α) : gAny [.lst (a.map fun x => .bl (f x))] = some (.bl (a.any f)) := by
  have : (a.map fun x => D.bl (f x)) = (a.map f).map .bl := by simp
  simp only [gAny]
  rw [this, blsD_map]
  simp
def InR (n : Nat) (a : List Str) : Prop := ∀ x ∈ a, x ∈ rowsS n
theorem InR.ok {n : Nat} {a : List Str} (h : InR n a) (hn : n ≤ 4) : ∀ x ∈ a, okS x = true := fun x hx => g_okS n (four hn) x (h x hx)
theorem rows_len {n : Nat} (hn : n ≤ 4) : (rowsS n).length ≤ 16 := g_len n (four hn)
/-! ### the upward closure -/
def risenS (n : Nat) (rows : List Str) : List Str := (rowsS n).filter fun o => rows.any fun r => overS o r
theorem risen_in (n : Nat) (rows : List Str) : InR n (risenS n rows) := fun x hx => (List.mem_filter.mp hx).1
theorem filter_map_str (a : List Str) (t : Str → Bool) : (a.filter t).map (fun x => D.str x) = txs (a.filter t) := rfl
theorem any_ne_nil {α : Type} (a : List α) (f : α → Bool) : (!decide (a.filter f = [])) = a.any f := by
  induction a with
  | nil => rfl
  | cons x a ih =>
    rw [List.filter_cons, List.any_cons]
    by_cases h : f x = true
    · simp [h]
    · have h : f x = false := by simpa using h
      simp only [h, Bool.false_or, ← ih]
      simp
theorem law_risen_ok {n : Nat} (hn : n ≤ 4) {rows : List Str} (h : InR n rows) (hl : rows.length ≤ 4000) : Cm.m_law_risen [.v (.int (n : Nat)), .v (.tup (txs rows))] = .ok (.tup (txs (risenS n rows))) [.v (.int (n : Nat)), .v (.tup (txs rows))] := by
  have in1 : ∀ o ∈ rowsS n, lcL [3] (gSet 3) (ttTru (xCall Cm.m_law_over_2 (qVal (xVar 2) (qVal (xVar 3) qNil)))) (lcPush (xVar 3)) (txs rows) [] [.v (.int (n : Nat)), .v (.tup (txs rows)), .v (.str o), .un] = .ok (txs (rows.filter fun r => overS o r)) [.v (.int (n : Nat)), .v (.tup (txs rows)), .v (.str o), .un] := fun o ho =>
    lcT (v := 3) (e := [.v (.int (n : Nat)), .v (.tup (txs rows)), .v (.str o), .un]) rfl rows (fun r => overS o r) (fun x => .str x) (fun x hx => by
      simp [↓bind_eq, r_law_over_2 hn ho (h x hx), D.truth]) (fun x hx _ => by simp) hl
  have out := lcT (v := 2) (e := [.v (.int (n : Nat)), .v (.tup (txs rows)), .un, .un]) (mt := tB1 (x2 gNe (xVal (mLc [3] (xIter (xVar 1)) (gSet 3) (ttTru (xCall Cm.m_law_over_2 (qVal (xVar 2) (qVal (xVar 3) qNil)))) (lcPush (xVar 3)))) (xLst xNil))) (me := xVar 2) rfl (rowsS n) (fun o => rows.any fun r => overS o r) (fun x => .str x)
    (fun o ho => by
      have c1 := gNe_lnil (a := rows.filter fun r => overS o r) (fun x hx => h.ok hn x (List.mem_filter.mp hx).1)
      rw [any_ne_nil] at c1
      simp [↓bind_eq, iterD, in1 o ho, c1]) (fun x hx _ => by simp) (by have := rows_len hn; omega)
  simp [↓bind_eq, Cm.m_law_risen, Cm.m_law_risen_b, mDef, r_law_rows hn, iterD, out, gTuple, filter_map_str, risenS]
/-! ### rows are judged -/
/-! ### lots -/
/-- a lot: rows in their order -/
def Lot (n : Nat) (a : List Str) : Prop := a.Sublist (rowsS n)
theorem Lot.inR {n : Nat} {a : List Str} (h : Lot n a) : InR n a := fun x hx => h.subset hx
theorem Lot.len {n : Nat} {a : List Str} (h : Lot n a) (hn : n ≤ 4) : a.length ≤ 16 := Nat.le_trans h.length_le (rows_len hn)
theorem Lot.up {n : Nat} {a : List Str} (h : Lot n a) (hn : n ≤ 4) : a.Pairwise fun x y => sLt x y = true := (g_sorted n (four hn)).sublist h
theorem gLe_ss (x y : Str) : gLe (.str x) (.str y) = some (.bl (!sLt y x)) := rfl
theorem gGt_ii (i j : Int) : gGt (.int i) (.int j) = some (.bl (decide (j < i))) := rfl
/-- no row lacks what stands above it -/
def lackB (n : Nat) (a : List Str) (r : Str) : Bool := (rowsS n).any fun o => overS o r && !decide (o ∈ a)
theorem lack_step {n : Nat} (hn : n ≤ 4) {a : List Str} (h : InR n a) {s3 : Sl} (hs : s3 = .un) {r : Str} (hr : r ∈ rowsS n) :
    ttTru (xN gAny (xCons (xVal (mLc [3] (xIter (xCall Cm.m_all_rows (qVal (xVar 1) qNil))) (gSet 3) ttYes (lcPush (xAnd (xCall Cm.m_is_over (qVal (xVar 3) (qVal (xVar 2) qNil))) (x2 gNotIn (xVar 3) (xVar 0)))))) xNil)) [.v (.tup (txs a)), .v (.int (n : Nat)), .v (.str r), s3] =
      .ok (lackB n a r) [.v (.tup (txs a)), .v (.int (n : Nat)), .v (.str r), s3] := by
  subst hs
  have in1 := lcT (v := 3) (e := [.v (.tup (txs a)), .v (.int (n : Nat)), .v (.str r), .un]) (mt := ttYes) (me := xAnd (xCall Cm.m_is_over (qVal (xVar 3) (qVal (xVar 2) qNil))) (x2 gNotIn (xVar 3) (xVar 0))) rfl (rowsS n) (fun _ => true) (fun o => .bl (overS o r && !decide (o ∈ a))) (fun x hx => rfl) (fun x hx _ => by
    cases ho : overS x r with
    | true => simp [↓bind_eq, r_over hn hx hr, ho, gNotIn_t]
    | false => simp [↓bind_eq, r_over hn hx hr, ho]) (by have := rows_len hn; omega)
  rw [filter_true] at in1
  simp [↓bind_eq, r_all_rows hn, iterD, in1, gAny_map, D.truth, lackB]
theorem lacking_row_ok {n : Nat} (hn : n ≤ 4) {a : List Str} (h : Lot n a) : ∃ d, Cm.m_lacking_row [.v (.tup (txs a)), .v (.int (n : Nat))] = .ok d [.v (.tup (txs a)), .v (.int (n : Nat))] ∧ isNon d = a.all (fun r => !lackB n a r) := by
  have key := forL_inv (mg := gSet 2) (mb := mIf (ttTru (xN gAny (xCons (xVal (mLc [3] (xIter (xCall Cm.m_all_rows (qVal (xVar 1) qNil))) (gSet 3) ttYes (lcPush (xAnd (xCall Cm.m_is_over (qVal (xVar 3) (qVal (xVar 2) qNil))) (x2 gNotIn (xVar 3) (xVar 0)))))) xNil))) (mRet (xVar 2)) mNx) (ds := txs a)
    (fun i e => ∃ s2, e = [.v (.tup (txs a)), .v (.int (n : Nat)), s2, .un] ∧ (s2 = .un ∨ ∃ d, s2 = .v d) ∧ ∀ x ∈ a.take i, lackB n a x = false)
    (fun r => (∃ s2 x, r = .ok (.rt (.str x)) [.v (.tup (txs a)), .v (.int (n : Nat)), s2, .un] ∧ x ∈ a ∧ lackB n a x = true) ∨ ∃ s2, r = .ok .nx [.v (.tup (txs a)), .v (.int (n : Nat)), s2, .un] ∧ ∀ x ∈ a, lackB n a x = false)
    (fun i d e hd ⟨s2, he, h2, h3⟩ => by
      subst he
      obtain ⟨m, hm, rfl⟩ := txs_get hd
      obtain ⟨hi, em⟩ := List.getElem?_eq_some_iff.mp hm
      have hmem := List.mem_of_getElem? hm
      refine ⟨[.v (.tup (txs a)), .v (.int (n : Nat)), .v (.str m), .un], ?_, ?_⟩
      · rcases h2 with rfl | ⟨d1, rfl⟩ <;> simp
      · rw [ev_mIf, lack_step hn h.inR rfl (h.inR m hmem)]
        cases hb : lackB n a m with
        | true =>
          simp [↓bind_eq]
          exact ⟨_, m, ⟨rfl, rfl⟩, hmem, hb⟩
        | false =>
          simp [↓bind_eq]
          intro x hx
          rw [List.take_add_one, hm] at hx
          rcases List.mem_append.mp hx with q | q
          · exact h3 x q
          · simp at q; rw [q]; exact hb)
    (fun e ⟨s2, he, _, h3⟩ => .inr ⟨s2, by rw [he], by rw [len_txs, List.take_length] at h3; exact h3⟩) (e := [.v (.tup (txs a)), .v (.int (n : Nat)), .un, .un]) ⟨.un, rfl, .inl rfl, by simp⟩
  rcases key with ⟨s2, x, hr, hx, hl⟩ | ⟨s2, hr, hl⟩
  · refine ⟨.str x, ?_, ?_⟩
    · simp [↓bind_eq, Cm.m_lacking_row, Cm.m_lacking_row_b, mDef, iterD, hr]
    · show false = _
      symm
      rw [Bool.eq_false_iff]
      intro q
      have := List.all_eq_true.mp q x hx
      rw [hl] at this
      cases this
  · refine ⟨.non, ?_, ?_⟩
    · simp [↓bind_eq, Cm.m_lacking_row, Cm.m_lacking_row_b, mDef, iterD, hr]
    · show true = _
      symm
      rw [List.all_eq_true]
      intro x hx
      rw [hl x hx]
      rfl
/-! ### plain -/
theorem sub_filter {α : Type} [DecidableEq α] {a b : List α} (s : a.Sublist b) : b.Nodup → a = b.filter fun x => decide (x ∈ a) := by
  induction s with
  | slnil => intro _; rfl
  | @cons a b x s ih =>
    intro nd
    have nd2 := List.nodup_cons.mp nd
    have : x ∉ a := fun q => nd2.1 (s.subset q)
    rw [List.filter_cons, if_neg (by simpa using this)]
    exact ih nd2.2
  | @cons_cons a b x s ih =>
    intro nd
    have nd2 := List.nodup_cons.mp nd
    rw [List.filter_cons, if_pos (by simp)]
    congr 1
    conv => lhs; rw [ih nd2.2]
    apply List.filter_congr
    intro y hy
    have : y ≠ x := fun e => nd2.1 (e ▸ hy)
    simp [this]
theorem lot_filter {n : Nat} (hn : n ≤ 4) {a : List Str} (h : Lot n a) : a = (rowsS n).filter fun x => decide (x ∈ a) := sub_filter h (g_nodup n (four hn))
theorem mem_risen {n : Nat} {rows : List Str} {o : Str} : o ∈ risenS n rows ↔ o ∈ rowsS n ∧ ∃ r ∈ rows, overS o r = true := by
  unfold risenS
  rw [List.mem_filter, List.any_eq_true]
theorem risen_lot (n : Nat) (rows : List Str) : Lot n (risenS n rows) := List.filter_sublist
theorem up_iff {n : Nat} (hn : n ≤ 4) {a : List Str} (h : Lot n a) : (a.all fun r => !lackB n a r) = decide (a = risenS n a) := by
  have refl := g_refl n (four hn)
  rw [Bool.eq_iff_iff, List.all_eq_true, decide_eq_true_eq]
  constructor
  · intro q
    rw [lot_filter hn h]
    conv => rhs; unfold risenS
    apply List.filter_congr
    intro o ho
    rw [← lot_filter hn h, Bool.eq_iff_iff, decide_eq_true_eq, List.any_eq_true]
    constructor
    · exact fun m => ⟨o, m, refl o ho⟩
    · rintro ⟨r, hr, ov⟩
      have := q r hr
      unfold lackB at this
      by_cases m : o ∈ a
      · exact m
      · exfalso
        have z : ((rowsS n).any fun o => overS o r && !decide (o ∈ a)) = true := List.any_eq_true.mpr ⟨o, ho, by simp [ov, m]⟩
        rw [z] at this
        cases this
  · intro e r hr
    unfold lackB
    rw [Bool.not_eq_true', Bool.eq_false_iff]
    intro z
    obtain ⟨o, ho, q⟩ := List.any_eq_true.mp z
    simp only [Bool.and_eq_true, Bool.not_eq_true', decide_eq_false_iff_not] at q
    refine q.2 ?_
    rw [e]
    exact mem_risen.mpr ⟨ho, r, hr, q.1⟩
end Pl

set_option Elab.async false
set_option linter.all false
set_option maxRecDepth 100000
set_option maxHeartbeats 4000000
/-! Pl7: least rows, drawn lots, repr -/
namespace Pl
open PySem Mi
/-! ### plain: the least rows of an upward closure -/
/-! ### drawn lots -/
theorem take_snoc {α : Type} {l : List α} {i : Nat} {x : α} (h : l[i]? = some x) : l.take (i + 1) = l.take i ++ [x] := by
  rw [List.take_add_one, h]
  rfl
theorem law_lot_ok {m n : Nat} {o : Ob} (B : Bag m o) (hm : m + 20 < 2 ^ 40) (hn : n ≤ 4) :
    ∃ (o' : Ob) (a : List Str), Cm.m_law_lot [.io o, .v (.int (n : Nat))] = .ok (.tup (txs a)) [.io o', .v (.int (n : Nat))] ∧ Bag (m + 17) o' ∧ Lot n a := by
  obtain ⟨o1, d, q1, B1, hd⟩ := one_lst B (by omega) [.int 2, .int 2, .int 3, .int 5] (by decide) (by decide)
  have hw : ∃ w : Nat, d = .int (w : Nat) ∧ 0 < w ∧ w < 1000 := by
    simp only [List.mem_cons, List.mem_nil_iff, or_false] at hd
    rcases hd with rfl | rfl | rfl | rfl
    · exact ⟨2, rfl, by decide, by decide⟩
    · exact ⟨2, rfl, by decide, by decide⟩
    · exact ⟨3, rfl, by decide, by decide⟩
    · exact ⟨5, rfl, by decide, by decide⟩
  obtain ⟨w, rfl, w0, w1⟩ := hw
  have hlen := rows_len hn
  have st : ∀ i d acc e, (txs (rowsS n))[i]? = some d → (∃ o' a, acc = txs a ∧ e = [.io o', .v (.int (n : Nat)), .v (.int (w : Nat)), .un] ∧ Bag (m + 1 + i) o' ∧ a.Sublist ((rowsS n).take i)) →
      ∃ acc' e', lcStep [3] (gSet 3) (tB1 (x2 gEq (xCall Cm.m_law_draw (qIo 0 (qVal (xVar 2) qNil))) (xC (.int 0)))) (lcPush (xVar 3)) d acc e = .ok acc' e' ∧
        ∃ o' a, acc' = txs a ∧ e' = [.io o', .v (.int (n : Nat)), .v (.int (w : Nat)), .un] ∧ Bag (m + 1 + (i + 1)) o' ∧ a.Sublist ((rowsS n).take (i + 1)) := by
    rintro i d acc e hd ⟨o', a, rfl, rfl, B2, hs⟩
    obtain ⟨x, hx, rfl⟩ := txs_get hd
    have hi : i < (rowsS n).length := (List.getElem?_eq_some_iff.mp hx).1
    obtain ⟨o2, r, q2, B3, hr⟩ := draw B2 (by omega) w w0 w1
    have hal : (txs a).length < 4000 := by
      rw [len_txs]
      have := hs.length_le
      simp only [List.length_take] at this
      omega
    have g1 : gSet 3 (.str x) [.io o', .v (.int (n : Nat)), .v (.int (w : Nat)), .un] = some [.io o', .v (.int (n : Nat)), .v (.int (w : Nat)), .v (.str x)] := by simp
    have t1 : tB1 (x2 gEq (xCall Cm.m_law_draw (qIo 0 (qVal (xVar 2) qNil))) (xC (.int 0))) [.io o', .v (.int (n : Nat)), .v (.int (w : Nat)), .v (.str x)] = .ok ((r : Int) == 0) [.io o2, .v (.int (n : Nat)), .v (.int (w : Nat)), .v (.str x)] := by
      simp [↓bind_eq, q2, gEq_ii]
    cases hb : ((r : Int) == 0) with
    | true =>
      rw [hb] at t1
      refine ⟨txs (a ++ [x]), [.io o2, .v (.int (n : Nat)), .v (.int (w : Nat)), .un], ?_, o2, a ++ [x], rfl, rfl, B3, ?_⟩
      · rw [lcStep_push (z := .str x) (e4 := [.io o2, .v (.int (n : Nat)), .v (.int (w : Nat)), .v (.str x)]) g1 t1 (by simp) hal]
        simp [txs]
      · rw [take_snoc hx]
        exact hs.append (List.Sublist.refl _)
    | false =>
      rw [hb] at t1
      refine ⟨txs a, [.io o2, .v (.int (n : Nat)), .v (.int (w : Nat)), .un], ?_, o2, a, rfl, rfl, B3, ?_⟩
      · rw [lcStep_skip g1 t1]
        simp
      · rw [take_snoc hx]
        exact hs.trans (List.sublist_append_left _ _)
  obtain ⟨acc, e, h1, o', a, rfl, rfl, B4, hs⟩ := lcL_inv _ st (acc := []) (e := [.io o1, .v (.int (n : Nat)), .v (.int (w : Nat)), .un]) ⟨o1, [], rfl, rfl, B1, by simp⟩
  rw [len_txs] at B4 hs
  rw [List.take_length] at hs
  refine ⟨o', a, ?_, B4.mono (by omega), hs⟩
  simp [↓bind_eq, Cm.m_law_lot, Cm.m_law_lot_b, mDef, q1, r_law_rows hn, iterD, h1, gTuple]
/-! ### repr -/
end Pl

set_option Elab.async false
set_option linter.all false
set_option maxRecDepth 100000
set_option maxHeartbeats 4000000
/-! Pj1: the jar: draws, picks, names -/
namespace Pl
open PySem Mi
/-! ### names -/
theorem gAdd_ss {x y : Str} (h : x.length + y.length ≤ 100000) : gAdd (.str x) (.str y) = some (.str (x ++ y)) := by
  have := sizeBig
  simp only [gAdd]
  rw [if_pos (by omega)]
end Pl

set_option Elab.async false
set_option linter.all false
set_option maxRecDepth 100000
set_option maxHeartbeats 4000000
/-! Pj2: tables -/
namespace Pl
open PySem Mi
def nxE (r : Rs Fl) : Option En := match r with
  | .ok .nx e => some e
  | _ => none
theorem nxE_ok {r : Rs Fl} {e : En} (h : nxE r = some e) : r = .ok .nx e := by
  cases r with
  | ok f e' => cases f <;> cases h; rfl
  | _ => cases h
def tabD (n : Nat) (t : Str → Int) : D := .dct false ((rowsS n).map Ky.str) ((rowsS n).map fun x => .int (t x))
/-! ### signs of rows -/
/-! ### numbers that fit -/
end Pl

set_option Elab.async false
set_option linter.all false
set_option maxRecDepth 100000
set_option maxHeartbeats 4000000
/-! Pj3: tables drawn; shares made -/
namespace Pl
open PySem Mi
/-- how a def ends: its result, its object -/
def PIo (P : D → Ob → Prop) (fl : Fl) (e : En) : Prop := ∃ d o', (fl = .rt d ∨ (fl = .nx ∧ d = .non)) ∧ e[0]? = some (.io o') ∧ P d o'
def PV (d : D) (fl : Fl) (_ : En) : Prop := fl = .rt d ∨ (fl = .nx ∧ d = .non)
theorem PIo.ret {P : D → Ob → Prop} {d : D} {o' : Ob} {r : En} (h : P d o') : PIo P (.rt d) (.io o' :: r) := ⟨d, o', .inl rfl, rfl, h⟩
theorem PIo.nx {P : D → Ob → Prop} {o' : Ob} {r : En} (h : P .non o') : PIo P .nx (.io o' :: r) := ⟨.non, o', .inr ⟨rfl, rfl⟩, rfl, h⟩
theorem PV.ret {d : D} {e : En} : PV d (.rt d) e := .inl rfl
theorem PV.nx {e : En} : PV .non .nx e := .inr ⟨rfl, rfl⟩
theorem dv1 {N : Nat} {mb : En → Rs Fl} {a d : D} (h : Wp mb (.v a :: List.replicate (N - 1) .un) (PV d)) : mDef 1 N mb [.v a] = .ok d [.v a] := mDef_1 h
theorem dv2 {N : Nat} {mb : En → Rs Fl} {a b d : D} (h : Wp mb (.v a :: .v b :: List.replicate (N - 2) .un) (PV d)) : mDef 2 N mb [.v a, .v b] = .ok d [.v a, .v b] := mDef_2 h
def sumT (l : List Str) (t : Str → Int) : Int := (l.map t).sum
structure Tab (n : Nat) (t : Str → Int) : Prop where
  bd : ∀ x ∈ rowsS n, 0 ≤ t x ∧ t x ≤ 1000000000000
  nz : sumT (rowsS n) t ≠ 0
end Pl

set_option Elab.async false
set_option linter.all false
set_option maxRecDepth 100000
set_option maxHeartbeats 4000000
/-! Ps1: shares as objects -/
namespace Pl
open PySem Mi
def numsD (l : List Str) (t : Str → Int) : List D := l.map fun x => .int (t x)
def shNs : List Str := ["marks", "numbers", "total", "known"]
def shVs (n : Nat) (ms : List Str) (t : Str → Int) : List D := [.tup (txs ms), .tup (numsD (rowsS n) t), .int (sumT (rowsS n) t), tabD n t]
def shD (n : Nat) (ms : List Str) (t : Str → Int) : D := .obj "Shares" shNs (shVs n ms t)
/-! ### dict(zip(..)) -/
/-! ### numbers are judged -/
theorem ne1 : ¬ ("marks" : Str) = "numbers" := by decide +kernel
theorem ne2 : ¬ ("marks" : Str) = "total" := by decide +kernel
theorem ne3 : ¬ ("marks" : Str) = "known" := by decide +kernel
theorem ne4 : ¬ ("numbers" : Str) = "total" := by decide +kernel
theorem ne5 : ¬ ("numbers" : Str) = "known" := by decide +kernel
theorem ne6 : ¬ ("total" : Str) = "known" := by decide +kernel
/-! ### shares are made -/
theorem fld_marks {n : Nat} {ms : List Str} {t : Str → Int} : gFld "Shares" "marks" (shD n ms t) = some (.tup (txs ms)) := rfl
theorem fld_numbers {n : Nat} {ms : List Str} {t : Str → Int} : gFld "Shares" "numbers" (shD n ms t) = some (.tup (numsD (rowsS n) t)) := by simp [shD, shNs, shVs, ne1, ne2, ne3, ne4, ne5, ne6]
end Pl

set_option Elab.async false
set_option linter.all false
set_option maxRecDepth 100000
set_option maxHeartbeats 4000000
/-! Wr: what can be written by repr, compared by == -/
namespace Pl
open PySem Mi
/-- d is plain data, of such a weight and depth; eq: it can be compared -/
structure Rp (w k : Nat) (d : D) (p : PyData) : Prop where
  py : d.py = some p
  sh : p.showable = true
  ls : p.leavesShort 2000 = true
  wt : p.weight ≤ w
  dp : p.depth ≤ k
  lay : PyData.canLay0 p = true
theorem Rp.mono {w k w' k' : Nat} {d : D} {p : PyData} (h : Rp w k d p) (h1 : w ≤ w') (h2 : k ≤ k') : Rp w' k' d p := ⟨h.py, h.sh, h.ls, by have := h.wt; omega, by have := h.dp; omega, h.lay⟩
theorem Rp.non : Rp 0 0 .non .none := ⟨rfl, rfl, rfl, Nat.le_refl _, Nat.le_refl _, rfl⟩
theorem Rp.bl (b : Bool) : Rp 0 0 (.bl b) (.bool b) := ⟨rfl, rfl, rfl, Nat.le_refl _, Nat.le_refl _, rfl⟩
theorem Rp.int {i : Int} (h : i.natAbs < 2 ^ 200) : Rp 201 0 (.int i) (.int i) := by
  have h2 := log2_small h
  refine ⟨rfl, ?_, ?_, ?_, Nat.le_refl _, rfl⟩
  · show decide (i.natAbs.log2 < 1920) = true
    simp; omega
  · show decide ((PyData.shown (.int i)).length ≤ 2000) = true
    have e : (PyData.shown (.int i)) = Str.ofString (toString i) := rfl
    have l := PySem.int_text_length_le (a := i) (k := 201) (by decide) (by omega)
    rw [e, PySem.ofString_length, decide_eq_true_eq]
    exact Nat.le_trans l (by decide)
  · show (if (i == 0) = true then 0 else i.natAbs.log2 + 1) ≤ 201
    split <;> omega
theorem Rp.str {x : Str} {k : Nat} (h : ∀ c ∈ x.cps.toList, c < 0x110000) (hl : x.length ≤ k) : Rp k 0 (.str x) (.str x) := by
  refine ⟨rfl, rfl, ?_, hl, Nat.le_refl _, ?_⟩
  · show (x.cps.toList.all fun c => decide (c < 16 ^ 8)) = true
    rw [List.all_eq_true]
    intro c hc
    have := h c hc
    simp
    omega
  · show PyData.canLay0 (.str x) = true
    rw [PyData.canLay0]
    show (x.cps.all fun c => decide (c < 0x110000)) = true
    rw [← Array.all_toList, List.all_eq_true]
    exact fun c hc => by simpa using h c hc
/-- a list of such -/
structure Rps (w k : Nat) (ds : List D) (ps : List PyData) : Prop where
  py : D.py.pys ds = some ps
  sh : PyData.showableAll ps = true
  ls : PyData.leavesShortAll 2000 ps = true
  wt : PyData.weightAll ps ≤ w
  dp : PyData.depthAll ps ≤ k
  lay : PyData.canLayAll0 ps = true
theorem Rps.nil {k : Nat} : Rps 0 k [] [] := ⟨rfl, rfl, rfl, Nat.le_refl _, Nat.zero_le _, rfl⟩
theorem Rps.cons {w w' k : Nat} {d : D} {p : PyData} {ds : List D} {ps : List PyData} (h : Rp w k d p) (t : Rps w' k ds ps) : Rps (w + 1 + w') k (d :: ds) (p :: ps) := by
  refine ⟨?_, ?_, ?_, ?_, ?_, ?_⟩
  · simp [D.py.pys, h.py, t.py]
  · rw [PyData.showableAll, h.sh, t.sh]; rfl
  · rw [PyData.leavesShortAll, h.ls, t.ls]; rfl
  · have := h.wt; have := t.wt; rw [PyData.weightAll]; omega
  · have := h.dp; have := t.dp; rw [PyData.depthAll]; omega
  · rw [PyData.canLayAll0, h.lay, t.lay]; rfl
theorem Rps.all {w k : Nat} {α : Type} (f : α → D) (g : α → PyData) : ∀ (l : List α), (∀ x ∈ l, Rp w k (f x) (g x)) → Rps ((w + 1) * l.length) k (l.map f) (l.map g)
  | [], _ => .nil
  | x :: l, h => by
    have := Rps.cons (h x List.mem_cons_self) (Rps.all f g l fun y hy => h y (List.mem_cons_of_mem _ hy))
    rw [List.length_cons, Nat.mul_succ, Nat.add_comm]
    exact this
theorem Rps.lst {w k : Nat} {ds : List D} {ps : List PyData} (h : Rps w k ds ps) : Rp w (k + 1) (.lst ds) (.list ps) := by
  refine ⟨by rw [D.py, h.py]; rfl, h.sh, h.ls, h.wt, ?_, ?_⟩
  · show PyData.depthAll ps + 1 ≤ k + 1
    have := h.dp; omega
  · rw [PyData.canLay0]; exact h.lay
theorem Rps.tup {w k : Nat} {ds : List D} {ps : List PyData} (h : Rps w k ds ps) : Rp w (k + 1) (.tup ds) (.tuple ps) := by
  refine ⟨by rw [D.py, h.py]; rfl, h.sh, h.ls, h.wt, ?_, ?_⟩
  · show PyData.depthAll ps + 1 ≤ k + 1
    have := h.dp; omega
  · rw [PyData.canLay0]; exact h.lay
theorem Rps.mono {w k w' k' : Nat} {d : List D} {p : List PyData} (h : Rps w k d p) (h1 : w ≤ w') (h2 : k ≤ k') : Rps w' k' d p := ⟨h.py, h.sh, h.ls, by have := h.wt; omega, by have := h.dp; omega, h.lay⟩
theorem Rp.shaped {w k : Nat} {d : D} {p : PyData} (h : Rp w k d p) (hk : k ≤ 60) : SeqAt.shaped p = true := by
  unfold SeqAt.shaped
  have := h.dp
  rw [h.lay]
  simp
  omega
theorem Rp.eq {w k w' k' : Nat} {d e : D} {p q : PyData} (h : Rp w k d p) (h' : Rp w' k' e q) (hk : k ≤ 60) (hk' : k' ≤ 60) (hs : ∀ x y, d = .str x → e = .str y → False) : gEq d e = some (.bl (PyData.eqv p q)) ∧ gNe d e = some (.bl (!PyData.eqv p q)) := by
  have key : eqD d e = some (PyData.eqv p q) := by
    have gen : (match d.py, e.py with
        | some p, some q => if SeqAt.shaped p = true ∧ SeqAt.shaped q = true then some (PyData.eqv p q) else none
        | _, _ => none) = some (PyData.eqv p q) := by
      rw [h.py, h'.py]
      simp only
      rw [if_pos ⟨h.shaped hk, h'.shaped hk'⟩]
    cases d with
    | str x =>
      cases e with
      | str y => exact (hs x y rfl rfl).elim
      | _ => exact gen
    | _ => exact gen
  exact ⟨by rw [gEq, key]; rfl, by rw [gNe, key]; rfl⟩
end Pl

set_option Elab.async false
set_option linter.all false
set_option maxRecDepth 100000
set_option maxHeartbeats 4000000
/-! Ps2: sums of lots, help -/
namespace Pl
open PySem Mi
theorem sum_le {l : List Str} {t : Str → Int} {m : Int} (h : ∀ x ∈ l, 0 ≤ t x ∧ t x ≤ m) (hm : 0 ≤ m) : 0 ≤ sumT l t ∧ sumT l t ≤ l.length * m := by
  induction l with
  | nil => simp [sumT]
  | cons x l ih =>
    obtain ⟨h1, h2⟩ := ih fun y hy => h y (List.mem_cons_of_mem _ hy)
    obtain ⟨h3, h4⟩ := h x List.mem_cons_self
    have e : sumT (x :: l) t = t x + sumT l t := by simp [sumT]
    rw [e, List.length_cons]
    have : ((l.length + 1 : Nat) : Int) * m = (l.length : Int) * m + m := by rw [Int.natCast_add, Int.add_mul]; simp
    omega
theorem Tab.sum {n : Nat} {t : Str → Int} (T : Tab n t) {a : List Str} (h : InR n a) (hl : a.length ≤ 16) : (sumT a t).natAbs < 2 ^ 45 ∧ 0 ≤ sumT a t := by
  obtain ⟨h1, h2⟩ := sum_le (l := a) (t := t) (m := 1000000000000) (fun x hx => T.bd x (h x hx)) (by decide)
  have : (a.length : Int) * 1000000000000 ≤ 16 * 1000000000000 := Int.mul_le_mul_of_nonneg_right (by omega) (by decide)
  omega
end Pl

set_option Elab.async false
set_option linter.all false
set_option maxRecDepth 100000
set_option maxHeartbeats 4000000
/-! Pj4: the jar is made; the law's loop -/
namespace Pl
open PySem Mi
theorem gSl_fz (a : List D) (i : Nat) : gSl none (some ((i : Nat) : Int)) (.fz a) = some (.lst (a.take i)) := by
  simp only [gSl]
  rw [cut_to2]
theorem gLt_ii (i j : Int) : gLt (.int i) (.int j) = some (.bl (decide (i < j))) := rfl
theorem gGe_ii (i j : Int) : gGe (.int i) (.int j) = some (.bl (decide (j ≤ i))) := rfl
theorem all_true (n : Nat) : gAll [.lst (List.replicate n (.bl true))] = some (.bl true) := by
  have : List.replicate n (D.bl true) = (List.replicate n true).map .bl := by simp
  simp only [gAll]
  rw [this, blsD_map]
  simp
/-- how many turns -/
theorem turns (ns : List Int) (c : Nat) (hc : c ≤ 90) : ∃ n : Nat, n ≤ 90 ∧ (if (if (c : Int) < (ns.length : Int) then (c : Int) else (ns.length : Int)) > 2 then (if (c : Int) < (ns.length : Int) then (c : Int) else (ns.length : Int)) else 2) = (n : Nat) := by
  refine ⟨if (if c < ns.length then c else ns.length) > 2 then (if c < ns.length then c else ns.length) else 2, ?_, ?_⟩
  · split <;> split at * <;> omega
  · split <;> split <;> split <;> split <;> omega
end Pl

set_option Elab.async false
set_option linter.all false
set_option maxRecDepth 100000
set_option maxHeartbeats 4000000
/-! Ps3: rows two by two: or, and, the first pair that fails -/
namespace Pl
open PySem Mi
section
variable {n : Nat} (hn : n ≤ 4) {a b : Str} (ha : a ∈ rowsS n) (hb : b ∈ rowsS n)
include hn ha hb
end
/-! ### loops that search -/
end Pl

set_option Elab.async false
set_option linter.all false
set_option maxRecDepth 100000
set_option maxHeartbeats 4000000
/-! Ps4: the laws' own or and and, own search for the first pair that fails -/
namespace Pl
open PySem Mi
section
variable {n : Nat} (hn : n ≤ 4) {a b : Str} (ha : a ∈ rowsS n) (hb : b ∈ rowsS n)
include hn ha hb
end
@[simp] theorem ev_xChain (g g' : D → D → Option D) (ma mb mc : En → Rs D) (env : En) : xChain g g' ma mb mc env = (ma env).bind fun d1 e1 => (mb e1).bind fun d2 e2 => match g d1 d2 with
  | some (.bl true) => (mc e2).bind fun d3 e3 => .of (g' d2 d3) e3
  | some (.bl false) => .ok (.bl false) e2
  | _ => .bad := id rfl
end Pl

set_option Elab.async false
set_option linter.all false
set_option maxRecDepth 100000
set_option maxHeartbeats 4000000
/-! Ps5: the loop of turns of a law, over a jar -/
namespace Pl
open PySem Mi
end Pl

set_option Elab.async false
set_option linter.all false
set_option maxRecDepth 100000
set_option maxHeartbeats 4000000
/-! Ps6: pairs found, written; when they speak against it -/
namespace Pl
open PySem Mi
theorem g_rch : ∀ n ∈ [0, 1, 2, 3, 4], ∀ x ∈ rowsS n, x.length ≤ 4 ∧ ∀ c ∈ x.cps.toList, c < 0x110000 := by decide +kernel
theorem row_rp {n : Nat} (hn : n ≤ 4) {x : Str} (hx : x ∈ rowsS n) : Rp 4 0 (.str x) (.str x) := .str (g_rch n (four hn) x hx).2 (g_rch n (four hn) x hx).1
end Pl

set_option Elab.async false
set_option linter.all false
set_option maxRecDepth 100000
set_option maxHeartbeats 4000000
/-! Ps7: rows that climb: from one mark to all -/
namespace Pl
open PySem Mi
theorem one4 {n : Nat} (h0 : 0 < n) (hn : n ≤ 4) : n ∈ [1, 2, 3, 4] := by
  simp; omega
end Pl

set_option Elab.async false
set_option linter.all false
set_option maxRecDepth 100000
set_option maxHeartbeats 4000000
/-! Ps8: loops that ask all; climbs -/
namespace Pl
open PySem Mi
end Pl

set_option Elab.async false
set_option linter.all false
set_option maxRecDepth 100000
set_option maxHeartbeats 4000000
/-! Ps9: near pairs are enough where all numbers are above 0 -/
namespace Pl
open PySem Mi
end Pl

set_option Elab.async false
set_option linter.all false
set_option maxRecDepth 100000
set_option maxHeartbeats 4000000
/-! Ps10: all rising lots -/
namespace Pl
open PySem Mi
def growS : Nat → List (List Str)
  | 0 => [[], [""]]
  | n + 1 => (growS n).flatMap fun low => ((growS n).filter fun high => low.all fun x => decide (x ∈ high)).map fun high => (low.map fun x => ("0" : Str) ++ x) ++ high.map fun x => ("1" : Str) ++ x
def growD (n : Nat) : List D := (growS n).map fun a => .tup (txs a)
def slot1 (o : Option En) : Option (Option Sl) := o.map fun e => e[1]?
theorem slot1_ok {r : Rs Fl} {s : Sl} (h : slot1 (nxE r) = some (some s)) : ∃ e, r = .ok .nx e ∧ e[1]? = some s := by
  cases hr : nxE r with
  | none => rw [hr] at h; cases h
  | some e =>
    rw [hr] at h
    exact ⟨e, nxE_ok hr, Option.some.inj h⟩
theorem g_lots : ∀ n ∈ [0, 1, 2, 3, 4], slot1 (nxE (mSeq (mAsg (gSet 1) (xLst (xCons (xTup xNil) (xCons (xTup (xCons (xC (.str "")) xNil)) xNil))))
  (mFor (xRng1 (xCons (xVar 0) xNil)) (gSet 2) (mSeq (mOw 3 (fLst xNil))
  (mSeq (mFor (xIter (xVar 1)) (gSet 4) (mFor (xIter (xVar 1)) (gSet 5) (mIf (ttTru (xN gAll (xCons (xVal (mLc [6] (xIter (xVar 4)) (gSet 6) ttYes (lcPush (x2 gIn (xVar 6) (xVar 5))))) xNil))) (mDrop (xMeth 3 gApp (xCons (xN gTuple (xCons (x2 Mi.gAdd (xVal (mLc [6] (xIter (xVar 4)) (gSet 6) ttYes (lcPush (x2 Mi.gAdd (xC (.str "0")) (xVar 6))))) (xVal (mLc [6] (xIter (xVar 5)) (gSet 6) ttYes (lcPush (x2 Mi.gAdd (xC (.str "1")) (xVar 6)))))) xNil)) xNil))) mNx)))
  (mAsg (gSet 1) (xVar 3))))) [.v (.int (n : Nat)), .un, .un, .un, .un, .un, .un])) = some (some (.v (.lst (growD n)))) := by decide +kernel
theorem g_sortOk : ∀ n ∈ [0, 1, 2, 3, 4], sortOk (growD n) = true := by decide +kernel
theorem g_growL : ∀ n ∈ [0, 1, 2, 3, 4], ∀ a ∈ growS n, a.isSublist (rowsS n) = true := by decide +kernel
/-- all rising lots, in order -/
def risL (n : Nat) : List D := (growD n).mergeSort leD
theorem ris_mem {n : Nat} {d : D} : d ∈ risL n ↔ ∃ a ∈ growS n, d = .tup (txs a) := by
  unfold risL growD
  rw [List.mem_mergeSort, List.mem_map]
  exact ⟨fun ⟨a, h, e⟩ => ⟨a, h, e.symm⟩, fun ⟨a, h, e⟩ => ⟨a, h, e.symm⟩⟩
theorem grow_lot {n : Nat} (hn : n ≤ 4) {a : List Str} (h : a ∈ growS n) : Lot n a := List.isSublist_iff_sublist.mp (g_growL n (four hn) a h)
theorem gSort_grow {n : Nat} (hn : n ≤ 4) : gSortX [.lst (growD n)] = some (.lst (risL n)) := by
  show gSort [.lst (growD n)] = _
  simp only [gSort]
  rw [if_pos (g_sortOk n (four hn))]
  rfl
theorem rising_lots_ok {n : Nat} (hn : n ≤ 4) : Cm.m_rising_lots [.v (.int (n : Nat))] = .ok (.lst (risL n)) [.v (.int (n : Nat))] := by
  obtain ⟨e, h, he⟩ := slot1_ok (g_lots n (four hn))
  have hs := gSort_grow hn
  have h2 := Wp.of (Q := fun fl e => match fl with
    | .nx => Wp (mRet (xN gSortX (xCons (xVar 1) xNil))) e fun fl _ => fl = .rt (.lst (risL n))
    | fl => fl = .rt (.lst (risL n))) h (wp_ret (by simp [↓bind_eq, he, hs]))
  refine mDef_1 ?_
  refine wp_seq (wp_asg ?_)
  simp [↓bind_eq]
  obtain ⟨fl, e', q1, q2⟩ := h2.ex
  rw [h] at q1
  cases q1
  simp [↓bind_eq] at h
  refine wp_seq (Wp.of (e := e) (a := .nx) ?_ q2)
  simpa [↓bind_eq] using h
end Pl

set_option Elab.async false
set_option linter.all false
set_option maxRecDepth 100000
set_option maxHeartbeats 4000000
/-! Ps11: less share of a rising lot; shares above others -/
namespace Pl
open PySem Mi
def unD : D → List Str
  | .tup ds => ds.map fun d => match d with
    | .str x => x
    | _ => ""
  | _ => []
theorem unD_txs (a : List Str) : unD (.tup (txs a)) = a := by
  simp only [unD, txs, List.map_map]
  exact List.map_id' a
/-! ### both above one another -/
theorem sum_cons (x : Str) (l : List Str) (t : Str → Int) : sumT (x :: l) t = t x + sumT l t := by simp [sumT]
end Pl

set_option Elab.async false
set_option linter.all false
set_option maxRecDepth 100000
set_option maxHeartbeats 4000000
/-! Ps12: two tables drawn -/
namespace Pl
open PySem Mi
@[simp] theorem ev_xIterK (j : Nat) (env : En) : xIterK j env = match env[j]? with
  | some (.v d) => .of (keysD d) env
  | _ => .bad := id rfl
end Pl

set_option Elab.async false
set_option linter.all false
set_option maxRecDepth 100000
set_option maxHeartbeats 4000000
/-! Ps13: dicts by comprehension; the helps of all pairs of rising lots -/
namespace Pl
open PySem Mi
/-! ### dicts by comprehension -/
theorem inr_inj {a b : List Str} (h : (a.map Sum.inr : List L2.Key) = b.map Sum.inr) : a = b := by
  induction a generalizing b with
  | nil => cases b with
    | nil => rfl
    | cons y b => simp at h
  | cons x a ih => cases b with
    | nil => simp at h
    | cons y b =>
      simp only [List.map_cons, List.cons.injEq] at h
      obtain ⟨h1, h2⟩ := h
      cases h1
      rw [ih h2]
theorem nd_map {α β : Type} {f : α → β} (hf : ∀ a b, f a = f b → a = b) {l : List α} (h : l.Nodup) : (l.map f).Nodup := List.pairwise_map.mpr (List.Pairwise.imp (fun {a b} q e => q (hf _ _ e)) h)
/-! ### the lots -/
def risS (n : Nat) : List (List Str) := (risL n).map unD
theorem ris_enc (n : Nat) : risL n = (risS n).map fun a => .tup (txs a) := by
  unfold risS
  rw [List.map_map]
  have : (risL n).map (fun d => D.tup (txs (unD d))) = (risL n).map id := List.map_congr_left fun d hd => by
    obtain ⟨a, _, rfl⟩ := ris_mem.mp hd
    rw [unD_txs]
    rfl
  rw [List.map_id] at this
  exact this.symm
theorem risS_mem {n : Nat} {a : List Str} : a ∈ risS n ↔ a ∈ growS n := by
  unfold risS
  rw [List.mem_map]
  constructor
  · rintro ⟨d, hd, rfl⟩
    obtain ⟨b, hb, rfl⟩ := ris_mem.mp hd
    rw [unD_txs]
    exact hb
  · intro h
    exact ⟨_, ris_mem.mpr ⟨a, h, rfl⟩, unD_txs a⟩
theorem three {n : Nat} (h : n ≤ 3) : n ∈ [0, 1, 2, 3] := by
  have : n = 0 ∨ n = 1 ∨ n = 2 ∨ n = 3 := by omega
  rcases this with rfl | rfl | rfl | rfl <;> simp
theorem tup_inj {a b : List Str} (h : D.tup (txs a) = D.tup (txs b)) : a = b := by
  have := congrArg unD h
  rwa [unD_txs, unD_txs] at this
theorem risS_lot {n : Nat} (hn : n ≤ 4) {a : List Str} (ha : a ∈ risS n) : Lot n a := grow_lot hn (risS_mem.mp ha)
/-! ### triples of the help and both lots -/
theorem risL_len (n : Nat) : (risL n).length = (risS n).length := by simp [risS]
@[simp] theorem ev_mDc (t : Bool) (vs : List Nat) (mi : En → Rs (List D)) (mg : D → En → Option En) (mt : En → Rs Bool) (mk mv : En → Rs D) (env : En) : mDc t vs mi mg mt mk mv env = (mi env).bind fun ds e1 => if okVs e1 vs = true then (match dcL vs mg mt mk mv ds (.dct t [] []) (wipeE e1 vs) with
  | .ok o e2 => .ok o (backE e1 e2 vs)
  | _ => .bad) else .bad := id rfl
@[simp] theorem val_dct (t : Bool) (ks : List Ky) (vs : List D) : (Ob.dct t ks vs).val = .dct t ks vs := id rfl
end Pl

set_option Elab.async false
set_option linter.all false
set_option maxRecDepth 100000
set_option maxHeartbeats 4000000
/-! Pc1: the can of the laws k51 .. k72: drips, tags, numbers -/
namespace Pl
open PySem Mi
/-! ### a drawn order -/
theorem gAdd_ll {a b : List D} (h : a.length + b.length ≤ 100000) : gAdd (.lst a) (.lst b) = some (.lst (a ++ b)) := by
  have := sizeBig
  simp only [gAdd]
  rw [if_pos (by omega)]
/-! ### numbers -/
end Pl

set_option Elab.async false
set_option linter.all false
set_option maxRecDepth 100000
set_option maxHeartbeats 4000000
/-! Pc2: the can is made; the laws' loop -/
namespace Pl
open PySem Mi
end Pl

set_option Elab.async false
set_option linter.all false
set_option maxRecDepth 100000
set_option maxHeartbeats 4000000
/-! Ps15: which lots are rising -/
namespace Pl
open PySem Mi
def UpC (n : Nat) (a : List Str) : Prop := ∀ r ∈ a, ∀ o ∈ rowsS n, overS o r = true → o ∈ a
theorem up_eq {n : Nat} (hn : n ≤ 4) {a : List Str} (h : Lot n a) : a = risenS n a ↔ UpC n a := by
  have u := up_iff hn h
  constructor
  · intro e r hr o ho ov
    rw [e]
    exact mem_risen.mpr ⟨ho, r, hr, ov⟩
  · intro q
    refine of_decide_eq_true (u.symm.trans ?_)
    rw [List.all_eq_true]
    intro r hr
    unfold lackB
    rw [Bool.not_eq_true', Bool.eq_false_iff]
    intro z
    obtain ⟨o, ho, w⟩ := List.any_eq_true.mp z
    simp only [Bool.and_eq_true, Bool.not_eq_true', decide_eq_false_iff_not] at w
    exact w.2 (q r hr o ho w.1)
theorem g_rows01 : ∀ n ∈ [0, 1, 2, 3], rowsS (n + 1) = (rowsS n).map (fun x => ("0" : Str) ++ x) ++ (rowsS n).map (fun x => ("1" : Str) ++ x) := by decide +kernel
theorem g_over01 : ∀ n ∈ [0, 1, 2, 3], ∀ x ∈ rowsS n, overS (("1" : Str) ++ x) (("0" : Str) ++ x) = true ∧ ∀ y ∈ rowsS n, overS (("0" : Str) ++ x) (("0" : Str) ++ y) = overS x y ∧ overS (("1" : Str) ++ x) (("1" : Str) ++ y) = overS x y := by decide +kernel
theorem g_01 : ∀ n ∈ [0, 1, 2, 3], ∀ x ∈ rowsS n, ∀ y ∈ rowsS n, ((("0" : Str) ++ x) = (("0" : Str) ++ y) → x = y) ∧ ((("1" : Str) ++ x) = (("1" : Str) ++ y) → x = y) ∧ (("0" : Str) ++ x) ≠ (("1" : Str) ++ y) := by decide +kernel
theorem up_grow0 {a : List Str} (h : Lot 0 a) : a ∈ growS 0 := by
  have h : a.Sublist [""] := h
  match a, h with
  | [], _ => simp [growS]
  | x :: t, h =>
    have e := h.length_le
    simp only [List.length_cons, List.length_nil] at e
    have : t = [] := List.length_eq_zero_iff.mp (by omega)
    subst this
    have := h.subset List.mem_cons_self
    simp only [List.mem_cons, List.mem_nil_iff, or_false] at this
    subst this
    simp [growS]
theorem up_grow : ∀ (n : Nat), n ≤ 4 → ∀ a : List Str, Lot n a → UpC n a → a ∈ growS n
  | 0, _, _, h, _ => up_grow0 h
  | n + 1, hn, a, h, u => by
    have m3 := three (n := n) (by omega)
    have hr := g_rows01 n m3
    have ho := g_over01 n m3
    have hi := g_01 n m3
    have h2 : a.Sublist ((rowsS n).map (fun x => ("0" : Str) ++ x) ++ (rowsS n).map (fun x => ("1" : Str) ++ x)) := by rw [← hr]; exact h
    obtain ⟨a0, a1, rfl, s0, s1⟩ := List.sublist_append_iff.mp h2
    obtain ⟨lo, l0, rfl⟩ := List.sublist_map_iff.mp s0
    obtain ⟨hg, l1, rfl⟩ := List.sublist_map_iff.mp s1
    have in0 : ∀ x ∈ rowsS n, ("0" : Str) ++ x ∈ rowsS (n + 1) := fun x hx => by rw [hr]; exact List.mem_append_left _ (List.mem_map_of_mem hx)
    have in1 : ∀ x ∈ rowsS n, ("1" : Str) ++ x ∈ rowsS (n + 1) := fun x hx => by rw [hr]; exact List.mem_append_right _ (List.mem_map_of_mem hx)
    have ulo : UpC n lo := by
      intro r hr o hor ov
      have hrn := l0.subset hr
      have := u (("0" : Str) ++ r) (List.mem_append_left _ (List.mem_map_of_mem hr)) (("0" : Str) ++ o) (in0 o hor) (by rw [((ho o hor).2 r hrn).1]; exact ov)
      rcases List.mem_append.mp this with q | q
      · obtain ⟨y, hy, e⟩ := List.mem_map.mp q
        rw [← (hi y (l0.subset hy) o hor).1 e]; exact hy
      · obtain ⟨y, hy, e⟩ := List.mem_map.mp q
        exact absurd e.symm (hi o hor y (l1.subset hy)).2.2
    have uhi : UpC n hg := by
      intro r hr o hor ov
      have hrn := l1.subset hr
      have := u (("1" : Str) ++ r) (List.mem_append_right _ (List.mem_map_of_mem hr)) (("1" : Str) ++ o) (in1 o hor) (by rw [((ho o hor).2 r hrn).2]; exact ov)
      rcases List.mem_append.mp this with q | q
      · obtain ⟨y, hy, e⟩ := List.mem_map.mp q
        exact absurd e (hi y (l0.subset hy) o hor).2.2
      · obtain ⟨y, hy, e⟩ := List.mem_map.mp q
        rw [← (hi y (l1.subset hy) o hor).2.1 e]; exact hy
    have sub : ∀ x ∈ lo, x ∈ hg := by
      intro x hx
      have hxn := l0.subset hx
      have := u (("0" : Str) ++ x) (List.mem_append_left _ (List.mem_map_of_mem hx)) (("1" : Str) ++ x) (in1 x hxn) (ho x hxn).1
      rcases List.mem_append.mp this with q | q
      · obtain ⟨y, hy, e⟩ := List.mem_map.mp q
        exact absurd e (hi y (l0.subset hy) x hxn).2.2
      · obtain ⟨y, hy, e⟩ := List.mem_map.mp q
        rw [← (hi y (l1.subset hy) x hxn).2.1 e]; exact hy
    have g0 := up_grow n (by omega) lo l0 ulo
    have g1 := up_grow n (by omega) hg l1 uhi
    refine List.mem_flatMap.mpr ⟨lo, g0, List.mem_map.mpr ⟨hg, List.mem_filter.mpr ⟨g1, ?_⟩, rfl⟩⟩
    rw [List.all_eq_true]
    exact fun x hx => by simpa using sub x hx
theorem grow_up : ∀ (n : Nat), n ≤ 4 → ∀ a ∈ growS n, Lot n a ∧ UpC n a
  | 0, _, a, h => by
    refine ⟨grow_lot (by omega) h, ?_⟩
    have : ∀ a ∈ growS 0, ∀ r ∈ a, ∀ o ∈ rowsS 0, overS o r = true → o ∈ a := by decide +kernel
    exact this a h
  | n + 1, hn, a, h => by
    refine ⟨grow_lot hn h, ?_⟩
    have m3 := three (n := n) (by omega)
    have hr := g_rows01 n m3
    have ho := g_over01 n m3
    have h10 : ∀ n ∈ [0, 1, 2, 3], ∀ x ∈ rowsS n, ∀ y ∈ rowsS n, overS (("1" : Str) ++ x) (("0" : Str) ++ y) = overS x y ∧ overS (("0" : Str) ++ x) (("1" : Str) ++ y) = false := by decide +kernel
    have h10 := h10 n m3
    obtain ⟨lo, h0, h⟩ := List.mem_flatMap.mp h
    obtain ⟨hg, h1, rfl⟩ := List.mem_map.mp h
    obtain ⟨h1, hs⟩ := List.mem_filter.mp h1
    rw [List.all_eq_true] at hs
    have hs : ∀ x ∈ lo, x ∈ hg := fun x hx => by simpa using hs x hx
    obtain ⟨L0, u0⟩ := grow_up n (by omega) lo h0
    obtain ⟨L1, u1⟩ := grow_up n (by omega) hg h1
    intro r hrr o hor ov
    rw [hr] at hor
    rcases List.mem_append.mp hrr with q | q <;> obtain ⟨y, hy, rfl⟩ := List.mem_map.mp q <;> rcases List.mem_append.mp hor with p | p <;> obtain ⟨z, hz, rfl⟩ := List.mem_map.mp p
    · rw [((ho z hz).2 y (L0.subset hy)).1] at ov
      exact List.mem_append_left _ (List.mem_map_of_mem (u0 y hy z hz ov))
    · rw [(h10 z hz y (L0.subset hy)).1] at ov
      exact List.mem_append_right _ (List.mem_map_of_mem (u1 y (hs y hy) z hz ov))
    · rw [(h10 z hz y (L1.subset hy)).2] at ov
      cases ov
    · rw [((ho z hz).2 y (L1.subset hy)).2] at ov
      exact List.mem_append_right _ (List.mem_map_of_mem (u1 y hy z hz ov))
theorem mem_grow {n : Nat} (hn : n ≤ 4) {a : List Str} : a ∈ growS n ↔ Lot n a ∧ UpC n a := ⟨grow_up n hn a, fun h => up_grow n hn a h.1 h.2⟩
theorem mem_ris {n : Nat} (hn : n ≤ 4) {a : List Str} (h : Lot n a) : a ∈ risS n ↔ a = risenS n a := by
  rw [risS_mem, mem_grow hn, up_eq hn h]
  exact ⟨fun q => q.2, fun q => ⟨h, q⟩⟩
theorem ris_up {n : Nat} (hn : n ≤ 4) {a : List Str} (h : a ∈ risS n) : Lot n a ∧ UpC n a := (mem_grow hn).mp (risS_mem.mp h)
theorem ris_both {n : Nat} (hn : n ≤ 4) {a b : List Str} (ha : a ∈ risS n) (hb : b ∈ risS n) : (a.filter fun x => decide (x ∈ b)) ∈ risS n := by
  obtain ⟨La, ua⟩ := ris_up hn ha
  obtain ⟨Lb, ub⟩ := ris_up hn hb
  refine risS_mem.mpr ((mem_grow hn).mpr ⟨List.filter_sublist.trans La, ?_⟩)
  intro r hr o ho ov
  obtain ⟨h1, h2⟩ := List.mem_filter.mp hr
  have h2 : r ∈ b := by simpa using h2
  exact List.mem_filter.mpr ⟨ua r h1 o ho ov, by simpa using ub r h2 o ho ov⟩
theorem ris_either {n : Nat} (hn : n ≤ 4) {a b : List Str} (ha : a ∈ risS n) (hb : b ∈ risS n) : ((rowsS n).filter fun x => decide (x ∈ a) || decide (x ∈ b)) ∈ risS n := by
  obtain ⟨La, ua⟩ := ris_up hn ha
  obtain ⟨Lb, ub⟩ := ris_up hn hb
  refine risS_mem.mpr ((mem_grow hn).mpr ⟨List.filter_sublist, ?_⟩)
  intro r hr o ho ov
  obtain ⟨h1, h2⟩ := List.mem_filter.mp hr
  refine List.mem_filter.mpr ⟨ho, ?_⟩
  rw [Bool.or_eq_true, decide_eq_true_eq, decide_eq_true_eq] at h2 ⊢
  rcases h2 with h2 | h2
  · exact .inl (ua r h2 o ho ov)
  · exact .inr (ub r h2 o ho ov)
theorem g_grow4 : ∀ n ∈ [0, 1, 2, 3, 4], (growS n).length ≤ 168 ∧ 0 < (growS n).length ∧ (growS n).Nodup := by decide +kernel
theorem ris_len4 {n : Nat} (hn : n ≤ 4) : (risS n).length ≤ 168 ∧ 0 < (risS n).length := by
  have e : (risS n).length = (growS n).length := by rw [← risL_len]; simp [risL, growD]
  rw [e]
  exact ⟨(g_grow4 n (four hn)).1, (g_grow4 n (four hn)).2.1⟩
end Pl

set_option Elab.async false
set_option linter.all false
set_option maxRecDepth 100000
set_option maxHeartbeats 4000000
/-! Ps14: the most hindering lots, plain -/
namespace Pl
open PySem Mi
/-! ### the least help -/
/-! ### the first pair that hinders -/
/-! ### the law's own -/
def pL (a : List Str) : PyData := .tuple (a.map .str)
theorem lot_rp {n : Nat} (hn : n ≤ 4) {a : List Str} (L : Lot n a) : Rp 100 1 (.tup (txs a)) (pL a) := by
  have hl := L.len hn
  exact ((Rps.all (w := 4) (k := 0) (fun x => D.str x) (fun x => PyData.str x) a fun x hx => row_rp hn (L.inR x hx)).tup).mono (by omega) (by omega)
end Pl

set_option Elab.async false
set_option linter.all false
set_option maxRecDepth 100000
set_option maxHeartbeats 4000000
/-! Ps16: marks and lots are right, in a law without classes -/
namespace Pl
open PySem Mi
theorem nm_2 {m : Str} (h : nameB m = true) : Cm.m_is_name_2 [.v (.str m)] = .ok (.bl true) [.v (.str m)] := by
  obtain ⟨h1, h2, h3⟩ := name_len h
  have hb := sizeBig
  have hl : m.length ≤ sizeLine := by omega
  refine mDef_1 (wp_seq (wp_if ?_))
  have c1 : gLe (.int 1) (.int (m.length : Nat)) = some (.bl true) := by rw [gLe_ii]; simp; omega
  have c2 : gLe (.int (m.length : Nat)) (.int 8) = some (.bl true) := by rw [gLe_ii]; simp; omega
  simp [↓bind_eq, isAnyD, isStrD, D.truth, gLen, hl, c1, c2]
  refine wp_nx (wp_ret ?_)
  have key := lcA (v := 1) (e := [.v (.str m), .un]) (me := x2 gIn (xVar 1) (xC (.str "abcdefghijklmnopqrstuvwxyz"))) rfl m.cps.toList (fun c => .str ⟨#[c]⟩) (fun c => .bl (decide (c ∈ ("abcdefghijklmnopqrstuvwxyz" : Str).cps.toList)))
    (fun c hc => by simp [↓bind_eq, sIn_c]) (by have : m.cps.toList.length = m.length := by simp [PySem.Str.length]
                                                omega)
  have ka := gAll_b (fun c => decide (c ∈ ("abcdefghijklmnopqrstuvwxyz" : Str).cps.toList)) m.cps.toList
  have kt : m.cps.toList.all (fun c => decide (c ∈ ("abcdefghijklmnopqrstuvwxyz" : Str).cps.toList)) = true := by
    rw [List.all_eq_true]
    exact fun c hc => by simpa using h3 c hc
  rw [kt] at ka
  simp only [ev_xN, ev_xCons, ev_xVal, ev_mLc, ev_xIter, ev_xVar, ↓bind_eq, iterD, Rs.of_some, List.getElem?_cons_zero, ev_okVs, ev_okVs0, List.getElem?_cons_succ, Bool.and_self, if_true, ev_wipe, ev_wipe0, List.set_cons_succ, List.set_cons_zero, key, ev_val, ev_xNil, ka, ev_back, ev_back0]
theorem wrong_mark_ok_2 {k : Nat} {ms : List Str} (M : Names k ms) (hk : k ≤ 4) : Cm.m_wrong_mark_2 [.v (.tup (txs ms))] = .ok .non [.v (.tup (txs ms))] := by
  obtain ⟨hl, nd, mem⟩ := M
  refine mDef_1 (wp_seq (wp_forD (ds := enumD (txs ms)) (e1 := [.v (.tup (txs ms)), .un, .un]) (by simp [↓bind_eq, iterD]) (fun _ e => ∃ s1 s2, e = [.v (.tup (txs ms)), s1, s2] ∧ isIoS s1 = false ∧ isIoS s2 = false) ⟨_, _, rfl, rfl, rfl⟩ ?_ ?_))
  · rintro i d e hd ⟨s1, s2, rfl, h1, h2⟩
    obtain ⟨x, hx, rfl⟩ := enum_get hd
    obtain ⟨m, hm, rfl⟩ := txs_get hx
    have hi : i < ms.length := (List.getElem?_eq_some_iff.mp hm).1
    have hmp := mem m (List.mem_of_getElem? hm)
    have c1 : gEq (.int (i : Nat)) (.int 4) = some (.bl false) := by
      rw [gEq_ii]
      simp
      omega
    have c2 : gSl none (some ((i : Nat) : Int)) (.tup (txs ms)) = some (.tup (txs (ms.take i))) := by
      simp only [gSl]
      rw [cut_to (by rw [len_txs]; omega), take_txs]
    have c3 : gIn (.str m) (.tup (txs (ms.take i))) = some (.bl false) := by
      rw [gIn_t]
      simp [nodup_take nd hm]
    refine ⟨[.v (.tup (txs ms)), .v (.int (i : Nat)), .v (.str m)], by simp [h1, h2], wp_if ?_⟩
    simp [↓bind_eq, c1, nm_2 hmp, c2, c3, D.truth, isInt]
    exact wp_nx ⟨_, _, rfl, rfl, rfl⟩
  · rintro e ⟨s1, s2, rfl, _, _⟩
    exact wp_ret (by simp)
theorem check_marks_ok_2 {k : Nat} {ms : List Str} (M : Names k ms) (hk : k ≤ 4) (h0 : 0 < k) : Cm.m_check_marks_2 [.v (.tup (txs ms))] = .ok .non [.v (.tup (txs ms))] := by
  have c1 : gEq (.tup (txs ms)) (.tup []) = some (.bl false) := by
    rw [gEq_tnil fun x hx => okS_name (M.2.2 x hx)]
    have : ms ≠ [] := fun e => by have := M.1; rw [e] at this; simp at this; omega
    simp [this]
  simp [↓bind_eq, Cm.m_check_marks_2, Cm.m_check_marks_2_b, mDef, isAnyD, isTupD, D.truth, c1, wrong_mark_ok_2 M hk, gNotN, isNon]
theorem g_is_row_2 : ∀ n ∈ [0, 1, 2, 3, 4], ∀ a ∈ rowsS n, Cm.m_is_row_2 [.v (.str a), .v (.int (n : Nat))] = .ok (.bl true) [.v (.str a), .v (.int (n : Nat))] := by decide +kernel
theorem r_is_row_2 {n : Nat} (h : n ≤ 4) {a : Str} (ha : a ∈ rowsS n) : Cm.m_is_row_2 [.v (.str a), .v (.int (n : Nat))] = .ok (.bl true) [.v (.str a), .v (.int (n : Nat))] := g_is_row_2 n (four h) a ha
theorem wrong_in_lot_ok_2 {n : Nat} (hn : n ≤ 4) {a : List Str} (h : Lot n a) : Cm.m_wrong_in_lot_2 [.v (.tup (txs a)), .v (.int (n : Nat))] = .ok .non [.v (.tup (txs a)), .v (.int (n : Nat))] := by
  have key := forL_inv (mg := gUnp 2 (gsCons (gSet 2) (gsCons (gSet 3) gsNil))) (mb := (mIf (ttOr (ttNot (ttTru (xCall Cm.m_is_row_2 (qVal (xVar 3) (qVal (xVar 1) qNil))))) (ttAnd (tB1 (x2 gGt (xVar 2) (xC (.int 0)))) (tB1 (x2 gLe (xVar 3) (x2 gIx (xVar 0) (x2 Mi.gSub (xVar 2) (xC (.int 1)))))))) (mRet (xVar 2)) mNx)) (ds := enumD (txs a))
    (fun _ e => ∃ s1 s2, e = [.v (.tup (txs a)), .v (.int (n : Nat)), s1, s2] ∧ (s1 = .un ∨ ∃ d, s1 = .v d) ∧ (s2 = .un ∨ ∃ d, s2 = .v d)) (fun r => ∃ s1 s2, r = .ok .nx [.v (.tup (txs a)), .v (.int (n : Nat)), s1, s2])
    (fun i d e hd ⟨s1, s2, he, h1, h2⟩ => by
      subst he
      obtain ⟨x, hx, rfl⟩ := enum_get hd
      obtain ⟨m, hm, rfl⟩ := txs_get hx
      obtain ⟨hi, em⟩ := List.getElem?_eq_some_iff.mp hm
      refine ⟨[.v (.tup (txs a)), .v (.int (n : Nat)), .v (.int (i : Nat)), .v (.str m)], ?_, ?_⟩
      · rcases h1 with rfl | ⟨d1, rfl⟩ <;> rcases h2 with rfl | ⟨d2, rfl⟩ <;> simp
      · by_cases h0 : i = 0
        · subst h0
          simp [↓bind_eq, r_is_row_2 hn (h.inR m (List.mem_of_getElem? hm)), D.truth, gGt_ii]
          exact ⟨_, _, ⟨rfl, rfl⟩, .inr ⟨_, rfl⟩, .inr ⟨_, rfl⟩⟩
        · have hi1 : i - 1 < a.length := by omega
          have c1 : gGt (.int (i : Nat)) (.int 0) = some (.bl true) := by
            rw [gGt_ii]
            simp
            omega
          have c2 : gIx (.tup (txs a)) (.int ((i : Nat) - 1 : Int)) = some (.str a[i - 1]) := by
            have e1 : ((i : Nat) - 1 : Int) = ((i - 1 : Nat) : Int) := by omega
            rw [e1]
            simp only [gIx]
            refine atI_nat ?_
            simp [txs, hi1]
          have c3 : gLe (.str m) (.str a[i - 1]) = some (.bl false) := by
            rw [gLe_ss]
            have : sLt a[i - 1] a[i] = true := List.pairwise_iff_getElem.mp (h.up hn) (i - 1) i hi1 hi (by omega)
            rw [← em, this]
            rfl
          simp [↓bind_eq, r_is_row_2 hn (h.inR m (List.mem_of_getElem? hm)), D.truth, c1, c2, c3]
          exact ⟨_, _, ⟨rfl, rfl⟩, .inr ⟨_, rfl⟩, .inr ⟨_, rfl⟩⟩)
    (fun e ⟨s1, s2, he, _, _⟩ => ⟨s1, s2, by rw [he]⟩) (e := [.v (.tup (txs a)), .v (.int (n : Nat)), .un, .un]) ⟨.un, .un, rfl, .inl rfl, .inl rfl⟩
  obtain ⟨s1, s2, hr⟩ := key
  simp [↓bind_eq, Cm.m_wrong_in_lot_2, Cm.m_wrong_in_lot_2_b, mDef, iterD, hr]
theorem check_lot_ok_2 {n : Nat} (hn : n ≤ 4) {a : List Str} (h : Lot n a) : Cm.m_check_lot_2 [.v (.tup (txs a)), .v (.int (n : Nat))] = .ok .non [.v (.tup (txs a)), .v (.int (n : Nat))] := by
  simp [↓bind_eq, Cm.m_check_lot_2, Cm.m_check_lot_2_b, mDef, isTupD, D.truth, wrong_in_lot_ok_2 hn h, gNotN, isNon]
theorem is_rising_ok {n : Nat} {ms : List Str} (M : Names n ms) (hn : n ≤ 4) (h0 : 0 < n) {a : List Str} (h : Lot n a) :
    Cm.m_is_rising [.v (.tup (txs ms)), .v (.tup (txs a))] = .ok (.bl (decide (a = risenS n a))) [.v (.tup (txs ms)), .v (.tup (txs a))] := by
  have l : (txs ms).length = n := by rw [len_txs, M.1]
  obtain ⟨d, h1, h2⟩ := lacking_row_ok hn h
  rw [up_iff hn h] at h2
  simp [↓bind_eq, Cm.m_is_rising, Cm.m_is_rising_b, mDef, check_marks_ok_2 M hn h0, gLen, l, check_lot_ok_2 hn h, h1, gIsN, h2]
end Pl

set_option Elab.async false
set_option linter.all false
set_option maxRecDepth 100000
set_option maxHeartbeats 4000000
/-! Px15: data are equal to themselves -/
namespace Pl
open PySem Mi
mutual
theorem py_refl : ∀ (d : D) (p : PyData), d.py = some p → PyData.eqv p p = true
  | .non, p, h => by cases h; rfl
  | .bl b, p, h => by cases h; cases b <;> rfl
  | .int i, p, h => by cases h; simp [PyData.eqv]
  | .str s, p, h => by cases h; simp [PyData.eqv]
  | .tup xs, p, h => by
    simp only [D.py, Option.map_eq_some_iff] at h
    obtain ⟨ps, h1, rfl⟩ := h
    rw [PyData.eqv]
    exact pys_refl xs ps h1
  | .lst xs, p, h => by
    simp only [D.py, Option.map_eq_some_iff] at h
    obtain ⟨ps, h1, rfl⟩ := h
    rw [PyData.eqv]
    exact pys_refl xs ps h1
  | .dct _ _ _, p, h => by cases h
  | .obj _ _ _, p, h => by cases h
  | .fz _, p, h => by cases h
  | .exn _ _ _ _, p, h => by cases h
theorem pys_refl : ∀ (ds : List D) (ps : List PyData), D.py.pys ds = some ps → PyData.eqvAll ps ps = true
  | [], ps, h => by cases h; rfl
  | d :: ds, ps, h => by
    rw [D.py.pys] at h
    obtain ⟨p, h1, h2⟩ := Option.bind_eq_some_iff.mp h
    obtain ⟨r, h3, rfl⟩ := Option.map_eq_some_iff.mp h2
    rw [PyData.eqvAll, py_refl d p h1, pys_refl ds r h3]
    rfl
end
theorem Rp.self {w k : Nat} {d : D} {p : PyData} (h : Rp w k d p) (hk : k ≤ 60) (hs : ∀ x, d = .str x → False) : gEq d d = some (.bl true) ∧ gNe d d = some (.bl false) := by
  have e := py_refl d p h.py
  obtain ⟨q1, q2⟩ := h.eq h hk hk (fun x y a _ => hs x a)
  rw [e] at q1 q2
  exact ⟨q1, q2⟩
end Pl

set_option Elab.async false
set_option linter.all false
set_option maxRecDepth 100000
set_option maxHeartbeats 4000000
/-! Pf0: sorted, with a count: what the kernel can reckon -/
namespace Pl
open PySem Mi
def mergeF {α : Type} (le : α → α → Bool) : Nat → List α → List α → List α
  | 0, _, _ => []
  | _ + 1, [], ys => ys
  | _ + 1, xs, [] => xs
  | k + 1, x :: xs, y :: ys => if le x y then x :: mergeF le k xs (y :: ys) else y :: mergeF le k (x :: xs) ys
theorem mergeF_eq {α : Type} (le : α → α → Bool) : ∀ (k : Nat) (xs ys : List α), xs.length + ys.length < k → mergeF le k xs ys = List.merge xs ys le := by
  intro k
  induction k with
  | zero => intro xs ys h; omega
  | succ k ih =>
    intro xs ys h
    cases xs with
    | nil => rw [List.nil_merge]; rfl
    | cons x xs =>
      cases ys with
      | nil => rw [List.merge_right]; rfl
      | cons y ys =>
        rw [List.cons_merge_cons]
        show (if le x y then x :: mergeF le k xs (y :: ys) else y :: mergeF le k (x :: xs) ys) = _
        simp only [List.length_cons] at h
        rw [ih xs (y :: ys) (by simp only [List.length_cons]; omega), ih (x :: xs) ys (by simp only [List.length_cons]; omega)]
def sortF {α : Type} (le : α → α → Bool) : Nat → List α → List α
  | 0, _ => []
  | _ + 1, [] => []
  | _ + 1, [a] => [a]
  | k + 1, a :: b :: xs => mergeF le (xs.length + 3) (sortF le k ((a :: b :: xs).take ((xs.length + 3) / 2))) (sortF le k ((a :: b :: xs).drop ((xs.length + 3) / 2)))
theorem sortF_eq {α : Type} (le : α → α → Bool) : ∀ (k : Nat) (xs : List α), xs.length < k → sortF le k xs = xs.mergeSort le := by
  intro k
  induction k with
  | zero => intro xs h; omega
  | succ k ih =>
    intro xs h
    match xs, h with
    | [], _ => simp [sortF]
    | [a], _ => simp [sortF]
    | a :: b :: xs, h =>
      simp only [List.length_cons] at h
      have h1 : ((a :: b :: xs).take ((xs.length + 3) / 2)).length < k := by rw [List.length_take]; simp only [List.length_cons]; omega
      have h2 : ((a :: b :: xs).drop ((xs.length + 3) / 2)).length < k := by rw [List.length_drop]; simp only [List.length_cons]; omega
      show mergeF le (xs.length + 3) (sortF le k _) (sortF le k _) = _
      rw [ih _ h1, ih _ h2, mergeF_eq _ _ _ _ (by rw [List.length_mergeSort, List.length_mergeSort, List.length_take, List.length_drop]; simp only [List.length_cons]; omega)]
      conv => rhs; rw [List.mergeSort]
      simp only [List.MergeSort.Internal.splitInTwo_fst, List.MergeSort.Internal.splitInTwo_snd, List.length_cons]
end Pl

set_option Elab.async false
set_option linter.all false
set_option maxRecDepth 100000
set_option maxHeartbeats 4000000
/-! Pb1: the bag of the first laws is made; their loop -/
namespace Pl
open PySem Mi
/-- the seed's loop -/
theorem seed_ok (ns : List Int) (k : Nat) (hk : k < 100) (h : Int) (s0 : Int) (hs : s0.natAbs < 2 ^ 31) (ds : List D) (hd : ∀ d ∈ ds, ∃ i, d = .int i) (s4 s5 : Sl) (h4 : isIoS s4 = false) :
    ∃ (s : Int) (s4' : Sl), forL (gSet 4) (mAsg (gSet 3) (x2 Mi.gMod (xN gInt (xCons (x2 Mi.gAdd (x2 Mi.gAdd (x2 Mi.gMul (xVar 3) (xC (.int 51713))) (x2 Mi.gMod (xN gInt (xCons (xVar 4) xNil)) (xC (.int 1000121)))) (x2 Mi.gMul (xC (.int 17)) (xVar 1))) xNil)) (xC (.int 2147483549)))) ds
      [.v (.fz (ns.map .int)), .v (.int (k : Nat)), .v (.int h), .v (.int s0), s4, s5] = .ok .nx [.v (.fz (ns.map .int)), .v (.int (k : Nat)), .v (.int h), .v (.int s), s4', s5] ∧ s.natAbs < 2 ^ 31 ∧ isIoS s4' = false := by
  have key := forL_inv (mg := gSet 4) (mb := mAsg (gSet 3) (x2 Mi.gMod (xN gInt (xCons (x2 Mi.gAdd (x2 Mi.gAdd (x2 Mi.gMul (xVar 3) (xC (.int 51713))) (x2 Mi.gMod (xN gInt (xCons (xVar 4) xNil)) (xC (.int 1000121)))) (x2 Mi.gMul (xC (.int 17)) (xVar 1))) xNil)) (xC (.int 2147483549)))) (ds := ds)
    (fun _ e => ∃ s s4', e = [.v (.fz (ns.map .int)), .v (.int (k : Nat)), .v (.int h), .v (.int s), s4', s5] ∧ s.natAbs < 2 ^ 31 ∧ isIoS s4' = false)
    (fun r => ∃ s s4', r = .ok .nx [.v (.fz (ns.map .int)), .v (.int (k : Nat)), .v (.int h), .v (.int s), s4', s5] ∧ s.natAbs < 2 ^ 31 ∧ isIoS s4' = false)
    (fun i d e hd' ⟨s, s4', he, hs, h4⟩ => by
      subst he
      obtain ⟨j, rfl⟩ := hd d (List.mem_of_getElem? hd')
      refine ⟨[.v (.fz (ns.map .int)), .v (.int (k : Nat)), .v (.int h), .v (.int s), .v (.int j), s5], by simp [h4], ?_⟩
      have m1 : ∀ i, gMod (.int i) (.int 1000121) = some (.int (i % 1000121)) := fun i => gMod_ok (by decide)
      have m2 : ∀ i, gMod (.int i) (.int 2147483549) = some (.int (i % 2147483549)) := fun i => gMod_ok (by decide)
      have u1 : gMul (.int s) (.int 51713) = some (.int (s * 51713)) := gMul_ok (by omega) (by decide)
      have u2 : gMul (.int 17) (.int (k : Nat)) = some (.int (17 * (k : Nat))) := gMul_ok (by decide) (by omega)
      simp [↓bind_eq, m1, m2, u1, u2]
      refine ⟨_, _, ⟨rfl, rfl⟩, ?_, rfl⟩
      omega)
    (fun e ⟨s, s4', he, hs, h4⟩ => ⟨s, s4', by rw [he], hs, h4⟩) (e := [.v (.fz (ns.map .int)), .v (.int (k : Nat)), .v (.int h), .v (.int s0), s4, s5]) ⟨s0, s4, rfl, hs, h4⟩
  obtain ⟨s, s4', hr, hs, h4⟩ := key
  exact ⟨s, s4', hr, hs, h4⟩
theorem bag_ok (ns : List Int) (k : Nat) (hk : k < 100) : ∃ o e, Cm.m_law_bag [.fz (ns.map .int), .int (k : Nat)] = .ok o e ∧ Bag 0 o := by
  -- what the script holds at k
  have hh : ∃ h : Int, xIf (tB1 (x2 gLt (xVar 1) (xN gLen (xCons (xVar 0) xNil)))) (xN gInt (xCons (x2 gIx (xVar 0) (xVar 1)) xNil)) (xC (.int 0)) [.v (.fz (ns.map .int)), .v (.int (k : Nat)), .un, .un, .un, .un] = .ok (.int h) [.v (.fz (ns.map .int)), .v (.int (k : Nat)), .un, .un, .un, .un] := by
    by_cases hl : k < ns.length
    · refine ⟨ns[k], ?_⟩
      have c : gIx (.fz (ns.map .int)) (.int (k : Nat)) = some (.int ns[k]) := by
        simp only [gIx]
        exact atI_nat (by simp [hl])
      have c2 : gLt (.int (k : Nat)) (.int ((ns.length : Nat) : Int)) = some (.bl true) := by
        rw [gLt_ii]
        simp
        omega
      simp [↓bind_eq, gLen, c, c2]
    · refine ⟨0, ?_⟩
      have c2 : gLt (.int (k : Nat)) (.int ((ns.length : Nat) : Int)) = some (.bl false) := by
        rw [gLt_ii]
        simp
        omega
      simp [↓bind_eq, gLen, c2]
  obtain ⟨h, hh⟩ := hh
  have u1 : gMul (.int 99013) (.int ((k : Nat) + 5 : Int)) = some (.int (99013 * ((k : Nat) + 5))) := gMul_ok (by decide) (by omega)
  obtain ⟨s, s4', q1, q2, q3⟩ := seed_ok ns k hk h (99013 * ((k : Nat) + 5)) (by omega) ((ns.map .int).take 7) (fun d hd => by
    obtain ⟨i, _, rfl⟩ := List.mem_map.mp (List.mem_of_mem_take hd)
    exact ⟨i, rfl⟩) .un .un rfl
  have c1 := gSl_fz (ns.map .int) 7
  replace c1 : gSl none (some 7) (.fz (ns.map .int)) = some (.lst ((ns.map .int).take 7)) := c1
  have p1 : gPow (.int 10) (.int 15) = some (.int 1000000000000000) := by decide +kernel
  have m1 : ∀ i, gMod (.int i) (.int 999931) = some (.int (i % 999931)) := fun i => gMod_ok (by decide)
  have m2 : ∀ i, gMod (.int i) (.int 2147483549) = some (.int (i % 2147483549)) := fun i => gMod_ok (by decide)
  have u2 : gMul (.int 99991) (.int (h % 999931)) = some (.int (99991 * (h % 999931))) := gMul_ok (by decide) (by omega)
  have held : ∃ a : Int, xIf (ttOr (tB1 (x2 gLt (xVar 2) (xC (.int 0)))) (tB1 (x2 gGe (xVar 2) (x2 Mi.gPow (xC (.int 10)) (xC (.int 15)))))) (xN gAbs (xCons (xVar 2) xNil)) (xC (.int 0)) [.v (.fz (ns.map .int)), .v (.int (k : Nat)), .v (.int h), .v (.int s), s4', .un] = .ok (.int a) [.v (.fz (ns.map .int)), .v (.int (k : Nat)), .v (.int h), .v (.int s), s4', .un] := by
    by_cases b1 : h < 0
    · refine ⟨-h, ?_⟩
      simp [↓bind_eq, gLt_ii, b1, gAbs]
    · by_cases b2 : 1000000000000000 ≤ h
      · refine ⟨h, ?_⟩
        simp [↓bind_eq, gLt_ii, gGe_ii, b1, b2, gAbs, p1]
      · refine ⟨0, ?_⟩
        simp [↓bind_eq, gLt_ii, gGe_ii, b1, b2, gAbs, p1]
  obtain ⟨a, held⟩ := held
  refine ⟨bagO a ((s + 99991 * (h % 999931)) % 2147483549) 0, [.v (.fz (ns.map .int)), .v (.int (k : Nat)), .v (.int h), .v (.int s), s4', .v (.int a)], ?_, a, _, 0, rfl, by omega, by decide⟩
  simp [↓bind_eq, ↓hh, ↓held, Cm.m_law_bag, mDefN, Cm.m_law_bag_b, nSeq, isInt, u1, c1, iterD, q1, q3, m1, m2, u2]
/-- the law's loop: each turn holds -/
theorem loop_ok {m_right : En → Rs D} (hr : ∀ o, Bag 0 o → ∃ e, m_right [.io o] = .ok (.bl true) e) (ns : List Int) (n : Nat) (hn : n ≤ 90) :
    lcL [1] (gSet 1) ttYes (lcPush (xCallF m_right (xCallN Cm.m_law_bag (xCons (xVar 0) (xCons (xVar 1) xNil))))) (rng n) [] [.v (.fz (ns.map .int)), .un] = .ok (List.replicate n (.bl true)) [.v (.fz (ns.map .int)), .un] := by
  have st : ∀ i d acc e, (rng n)[i]? = some d → (acc = List.replicate i (.bl true) ∧ e = [.v (.fz (ns.map .int)), .un]) →
      ∃ acc' e', lcStep [1] (gSet 1) ttYes (lcPush (xCallF m_right (xCallN Cm.m_law_bag (xCons (xVar 0) (xCons (xVar 1) xNil))))) d acc e = .ok acc' e' ∧ (acc' = List.replicate (i + 1) (.bl true) ∧ e' = [.v (.fz (ns.map .int)), .un]) := by
    rintro i d acc e hd ⟨rfl, rfl⟩
    obtain ⟨hi, rfl⟩ := rng_get hd
    obtain ⟨o, e1, q1, B⟩ := bag_ok ns i (by omega)
    obtain ⟨e2, q2⟩ := hr o B
    refine ⟨_, _, ?_, rfl, rfl⟩
    rw [lcStep_push (z := .bl true) (e2 := [.v (.fz (ns.map .int)), .v (.int (i : Nat))]) (e3 := [.v (.fz (ns.map .int)), .v (.int (i : Nat))]) (e4 := [.v (.fz (ns.map .int)), .v (.int (i : Nat))]) (by simp) (by simp) (by simp [↓bind_eq, q1, q2]) (by simp; omega)]
    simp [List.replicate_succ']
  obtain ⟨acc, e, h1, h2, h3⟩ := lcL_inv _ st (acc := []) (e := [.v (.fz (ns.map .int)), .un]) ⟨rfl, rfl⟩
  rw [rng_len] at h2
  rw [h1, h2, h3]
end Pl

set_option Elab.async false
set_option linter.all false
set_option maxRecDepth 100000
set_option maxHeartbeats 4000000
/-! Pb2: shares drawn from the bag; shares are made -/
namespace Pl
open PySem Mi
def smallZ : List Int := [0, 1, 2, 3, 4, 5, 7, 1000000, 1000000000000]
end Pl

set_option Elab.async false
set_option linter.all false
set_option maxRecDepth 100000
set_option maxHeartbeats 4000000
/-! Pb3: the text of shares -/
namespace Pl
open PySem Mi
theorem fold_size (g : Str) : ∀ (l : List Str) (acc : Array Nat), (l.foldl (fun a p => a ++ g.cps ++ p.cps) acc).size = acc.size + (l.map fun p => g.length + p.length).sum
  | [], acc => by simp
  | x :: l, acc => by
    rw [List.foldl_cons, fold_size g l]
    simp only [Array.size_append, List.map_cons, List.sum_cons]
    have : g.cps.size = g.length := rfl
    have : x.cps.size = x.length := rfl
    omega
theorem sum_bd {α : Type} (f : α → Nat) (b : Nat) : ∀ l : List α, (∀ p ∈ l, f p ≤ b) → (l.map f).sum ≤ b * l.length
  | [], _ => by simp
  | x :: l, h => by
    have h1 := h x List.mem_cons_self
    have ih := sum_bd f b l fun p hp => h p (List.mem_cons_of_mem _ hp)
    simp only [List.map_cons, List.sum_cons, List.length_cons, Nat.mul_succ]
    omega
theorem join_len {g : Str} {b : Nat} (hg : g.length ≤ b) {l : List Str} (h : ∀ p ∈ l, p.length ≤ b) : (Txt.join g l).length ≤ (2 * b) * l.length := by
  cases l with
  | nil => exact Nat.le_refl _
  | cons x t =>
    show (t.foldl (fun a p => a ++ g.cps ++ p.cps) x.cps).size ≤ _
    rw [fold_size]
    have h1 := h x List.mem_cons_self
    have h2 := sum_bd (fun p => g.length + p.length) (2 * b) t fun p hp => by have := h p (List.mem_cons_of_mem _ hp); omega
    have : x.cps.size = x.length := rfl
    rw [List.length_cons, Nat.mul_succ]
    omega
theorem seqS_txs : ∀ a : List Str, seqS (.tup (txs a)) = some a ∧ seqS (.lst (txs a)) = some a := by
  have h : ∀ a : List Str, strsD (txs a) = some a := by
    intro a
    induction a with
    | nil => rfl
    | cons x l ih =>
      simp only [txs, List.map_cons] at ih ⊢
      simp [strsD, ih]
  exact fun a => ⟨h a, h a⟩
theorem gJoin_ok {g : Str} {b : Nat} (hg : g.length ≤ b) {l : List Str} (h : ∀ p ∈ l, p.length ≤ b) (hb : 2 * b * l.length ≤ 1000000) : gJoin (.str g) [.tup (txs l)] = some (.str (Txt.join g l)) ∧ gJoin (.str g) [.lst (txs l)] = some (.str (Txt.join g l)) := by
  have s1 := sum_bd (fun p : Str => p.length) b l h
  have s2 : l.length * g.length ≤ b * l.length := by rw [Nat.mul_comm b]; exact Nat.mul_le_mul_left _ hg
  have s3 : 2 * b * l.length = b * l.length + b * l.length := by rw [Nat.mul_assoc, Nat.two_mul]
  have c : (l.map (·.length)).sum + l.length * g.length ≤ 1000000 := by
    have : (l.map fun p : Str => p.length).sum = (l.map (·.length)).sum := rfl
    omega
  refine ⟨?_, ?_⟩
  · simp only [gJoin, (seqS_txs l).1, Option.bind_some]
    rw [if_pos c]
  · simp only [gJoin, (seqS_txs l).2, Option.bind_some]
    rw [if_pos c]
/-! ### a row -/
def numT (z : Int) : Str := (toString z : String)
theorem numT_len {z : Int} (h0 : 0 ≤ z) (h1 : z ≤ 1000000000000) : (numT z).length ≤ 100 := by
  have h2 : z.natAbs.log2 < 61 := log2_small (by omega)
  have l := PySem.int_text_length_le (a := z) (k := 61) (by decide) h2
  unfold numT
  rw [PySem.ofString_length]
  omega
def rwT (x : Str) (z : Int) : Str := Str.empty ++ x ++ (": " : Str) ++ numT z
theorem rwT_len {x : Str} {z : Int} (hx : x.length ≤ 4) (h0 : 0 ≤ z) (h1 : z ≤ 1000000000000) : (rwT x z).length ≤ 106 := by
  have := numT_len h0 h1
  unfold rwT
  rw [Str.length_append, Str.length_append, Str.length_append]
  have e1 : Str.empty.length = 0 := rfl
  have e2 : (": " : Str).length = 2 := by decide +kernel
  omega
theorem fstr_ok {e : En} {x : Str} {z : Int} {i j : Nat} (hi : e[i]? = some (.v (.str x))) (hj : e[j]? = some (.v (.int z))) (hx : x.length ≤ 4) (h0 : 0 ≤ z) (h1 : z ≤ 1000000000000) :
    xFstr (jCons (x1 gFmt (xVar i)) (jCons (xC (.str ": ")) (jCons (x1 gFmt (xVar j)) jNil))) e = .ok (.str (rwT x z)) e := by
  have big := sizeBig
  have l1 := numT_len h0 h1
  have l2 := rwT_len hx h0 h1
  have g1 : gFmt (.str x) = some (.str x) := by simp [gFmt]; omega
  have g2 : gFmt (.int z) = some (.str (numT z)) := by
    have h3 : z.natAbs.log2 < 61 := log2_small (by omega)
    have h2 : z.natAbs.log2 < 1920 := by omega
    simp only [gFmt]
    rw [if_pos h2]
    rfl
  have e1 : Str.empty.length = 0 := rfl
  have e2 : (": " : Str).length = 2 := by decide +kernel
  have c1 : (Str.empty ++ x).length ≤ sizeLine := by rw [Str.length_append]; omega
  have c2 : (Str.empty ++ x ++ (": " : Str)).length ≤ sizeLine := by rw [Str.length_append, Str.length_append]; omega
  have c3 : (Str.empty ++ x ++ (": " : Str) ++ numT z).length ≤ sizeLine := by
    have : (rwT x z).length ≤ sizeLine := by omega
    exact this
  simp only [xFstr, jCons, jNil, ev_x1, ev_xVar, ev_xC, hi, hj, g1, g2, Rs.of_some, ↓bind_eq, if_pos c1, if_pos c2, if_pos c3]
  rfl
/-! ### the text -/
def textS (n : Nat) (ms : List Str) (t : Str → Int) : Str := Txt.join "\n" ((("marks " : Str) ++ Txt.join ", " ms) :: ((rowsS n).filter fun x => decide (0 < t x)).map fun x => rwT x (t x))
theorem g_rlen : ∀ n ∈ [0, 1, 2, 3, 4], ∀ x ∈ rowsS n, x.length ≤ 4 := by decide +kernel
theorem textS_len {n : Nat} {ms : List Str} {t : Str → Int} (M : Names n ms) (T : Tab n t) (hn : n ≤ 4) : (textS n ms t).length ≤ 10000 := by
  have rl := rows_len hn
  have jl : (Txt.join ", " ms).length ≤ 16 * ms.length := join_len (b := 8) (by decide +kernel) fun p hp => (name_len (M.2.2 p hp)).2.1
  have e1 : ("marks " : Str).length = 6 := by decide +kernel
  have := M.1
  refine Nat.le_trans (join_len (b := 106) (by decide +kernel) ?_) ?_
  · intro p hp
    rcases List.mem_cons.mp hp with rfl | hp
    · rw [Str.length_append]; omega
    · obtain ⟨x, hx, rfl⟩ := List.mem_map.mp hp
      have hx := (List.mem_filter.mp hx).1
      exact rwT_len (g_rlen n (four hn) x hx) (T.bd x hx).1 (T.bd x hx).2
  · have := List.length_filter_le (fun x => decide (0 < t x)) (rowsS n)
    rw [List.length_cons, List.length_map]
    omega
theorem shares_text_ok {n : Nat} {ms : List Str} {t : Str → Int} (M : Names n ms) (T : Tab n t) (hn : n ≤ 4) : Cm.m_shares_text [.v (.tup (txs ms)), .v (.tup (numsD (rowsS n) t))] = .ok (.str (textS n ms t)) [.v (.tup (txs ms)), .v (.tup (numsD (rowsS n) t))] := by
  have rl := rows_len hn
  have lm : (txs ms).length = n := by rw [len_txs, M.1]
  have rr := r_all_rows hn
  have zd : zipD (txs (rowsS n)) (numsD (rowsS n) t) = (rowsS n).map fun x => .tup [.str x, .int (t x)] := by
    simp only [zipD, txs, numsD, List.zip_map, List.map_map]
    induction rowsS n with
    | nil => rfl
    | cons a l ih =>
      simp only [List.zip_cons_cons, List.map_cons, ih]
      rfl
  have gg : ∀ z : Int, gGt (.int z) (.int 0) = some (.bl (decide (0 < z))) := fun z => gGt_ii z 0
  have lz := lcZ (v := 3) (w := 4) (e := [.v (.tup (txs ms)), .v (.tup (numsD (rowsS n) t)), .un, .un, .un]) (mt := tB1 (x2 gGt (xVar 4) (xC (.int 0)))) (me := xFstr (jCons (x1 gFmt (xVar 3)) (jCons (xC (.str ": ")) (jCons (x1 gFmt (xVar 4)) jNil)))) rfl rfl (by decide)
    (rowsS n) (fun x => .str x) (fun x => .int (t x)) (fun x => decide (0 < t x)) (fun x => .str (rwT x (t x))) (fun x hx => by simp [↓bind_eq, gg])
    (fun x hx _ => fstr_ok rfl rfl (g_rlen n (four hn) x hx) (T.bd x hx).1 (T.bd x hx).2) (by omega)
  have em : ((rowsS n).filter fun x => decide (0 < t x)).map (fun x => D.str (rwT x (t x))) = txs (((rowsS n).filter fun x => decide (0 < t x)).map fun x => rwT x (t x)) := by simp [txs]
  rw [em] at lz
  obtain ⟨R, hR⟩ : ∃ R, R = ((rowsS n).filter fun x => decide (0 < t x)).map fun x => rwT x (t x) := ⟨_, rfl⟩
  rw [← hR] at lz
  have hRl : R.length ≤ 16 := by
    rw [hR, List.length_map]
    exact Nat.le_trans (List.length_filter_le _ _) rl
  have hRb : ∀ p ∈ R, p.length ≤ 106 := by
    intro p hp
    rw [hR] at hp
    obtain ⟨x, hx, rfl⟩ := List.mem_map.mp hp
    have hx := (List.mem_filter.mp hx).1
    exact rwT_len (g_rlen n (four hn) x hx) (T.bd x hx).1 (T.bd x hx).2
  have M1 := M.1
  have jl : (Txt.join ", " ms).length ≤ 16 * ms.length := join_len (b := 8) (by decide +kernel) fun p hp => (name_len (M.2.2 p hp)).2.1
  have j1 := (gJoin_ok (g := ", ") (b := 8) (by decide +kernel) (l := ms) (fun p hp => (name_len (M.2.2 p hp)).2.1) (by omega)).1
  have e1 : ("marks " : Str).length = 6 := by decide +kernel
  have a1 := gAdd_ss (x := "marks ") (y := Txt.join ", " ms) (by omega)
  have a2 : gAdd (.lst [.str (("marks " : Str) ++ Txt.join ", " ms)]) (.lst (txs R)) = some (.lst (txs ((("marks " : Str) ++ Txt.join ", " ms) :: R))) := gAdd_ll (by rw [len_txs]; simp; omega)
  have j2 := (gJoin_ok (g := "\n") (b := 106) (by decide +kernel) (l := (("marks " : Str) ++ Txt.join ", " ms) :: R) (fun p hp => by
    rcases List.mem_cons.mp hp with rfl | hp
    · rw [Str.length_append]; omega
    · exact hRb p hp) (by rw [List.length_cons]; omega)).2
  have fin : Txt.join "\n" ((("marks " : Str) ++ Txt.join ", " ms) :: R) = textS n ms t := by rw [hR]; rfl
  rw [fin] at j2
  refine dv2 (N := 5) (mb := Cm.m_shares_text_b) ?_
  refine wp_seq (wp_asg ?_)
  simp [↓bind_eq, gLen, lm, rr, iterD, zd, lz]
  refine wp_ret ?_
  generalize (("marks " : Str) ++ Txt.join ", " ms) = w at a1 a2 j2
  simp [↓bind_eq, j1, a1, a2, j2]
  exact .ret
theorem text_ok {n : Nat} {ms : List Str} {t : Str → Int} (M : Names n ms) (T : Tab n t) (hn : n ≤ 4) : Cm.m_Shares_text [.v (shD n ms t)] = .ok (.str (textS n ms t)) [.v (shD n ms t)] := by
  have q := shares_text_ok M T hn
  have f1 := fld_marks (n := n) (ms := ms) (t := t)
  have f2 := fld_numbers (n := n) (ms := ms) (t := t)
  refine dv1 (N := 1) (mb := Cm.m_Shares_text_b) (wp_ret ?_)
  generalize shD n ms t = sh at f1 f2 ⊢
  simp [↓bind_eq, f1, f2, q]
  exact .ret
theorem hasN_text : hasN "text" shNs = false := by decide +kernel
theorem str_ok {n : Nat} {ms : List Str} {t : Str → Int} (M : Names n ms) (T : Tab n t) (hn : n ≤ 4) : Cm.m_Shares___str__ [.v (shD n ms t)] = .ok (.str (textS n ms t)) [.v (shD n ms t)] := by
  have q := text_ok M T hn
  have l := textS_len M T hn
  have big := sizeBig
  have g1 : gFmt (.str (textS n ms t)) = some (.str (textS n ms t)) := by simp [gFmt]; omega
  have hn' := hasN_text
  refine dv1 (N := 1) (mb := Cm.m_Shares___str___b) (wp_ret ?_)
  generalize textS n ms t = S at q g1 ⊢
  simp only [shD] at q ⊢
  simp [↓bind_eq, hn', q, g1]
  exact .ret
end Pl

set_option Elab.async false
set_option linter.all false
set_option maxRecDepth 100000
set_option maxHeartbeats 4000000
/-! Pb4: equal shares -/
namespace Pl
open PySem Mi
section
variable {n n' : Nat} {ms ms' : List Str} {t t' : Str → Int} (M : Names n ms) (T : Tab n t) (hn : n ≤ 4) (M' : Names n' ms') (T' : Tab n' t') (hn' : n' ≤ 4)
include M T hn M' T' hn'
end
end Pl

set_option Elab.async false
set_option linter.all false
set_option maxRecDepth 100000
set_option maxHeartbeats 4000000
/-! Pt1: split undoes join -/
namespace Pl
open PySem Mi PySem.Builtin.Str
section
variable {s sub : Str} {c : Nat} {r : List Nat} (hs : sub.cps.toList = c :: r)
include hs
end
end Pl

set_option Elab.async false
set_option linter.all false
set_option maxRecDepth 100000
set_option maxHeartbeats 4000000
/-! Pt2: the text of shares is read -/
namespace Pl
open PySem Mi
/-- a number whose text is read back -/
def NumOk (z : Int) : Prop := Cm.m_number_in [.v (.str (numT z))] = .ok (.int z) [.v (.str (numT z))] ∧ 10 ∉ (numT z).cps.toList
end Pl

set_option Elab.async false
set_option linter.all false
set_option maxRecDepth 100000
set_option maxHeartbeats 4000000
/-! Pt3: the text of shares is read: the parser -/
namespace Pl
open PySem Mi
/-- numbers that are read back -/
def readZ : List Int := (List.range 301).map (fun i => ((i : Nat) : Int)) ++ [1000000, 1000000000000]
theorem g_readZ : ∀ z ∈ readZ, Cm.m_number_in [.v (.str (numT z))] = .ok (.int z) [.v (.str (numT z))] ∧ 10 ∉ (numT z).cps.toList := by decide +kernel
theorem num_ok {z : Int} (h : z ∈ readZ) : NumOk z := g_readZ z h
end Pl

set_option Elab.async false
set_option linter.all false
set_option maxRecDepth 100000
set_option maxHeartbeats 4000000
/-! Pt4: shares read; unlike shares have unlike texts; the law's own text -/
namespace Pl
open PySem Mi
theorem g_small : ∀ z ∈ smallZ, z ∈ readZ ∧ ∀ c ∈ (numT z).cps.toList, c < 0x110000 := by decide +kernel
def SmallT (n : Nat) (t : Str → Int) : Prop := ∀ x ∈ rowsS n, t x ∈ smallZ
theorem SmallT.ok {n : Nat} {t : Str → Int} (h : SmallT n t) : ∀ x ∈ rowsS n, 0 < t x → NumOk (t x) := fun x hx _ => num_ok (g_small _ (h x hx)).1
end Pl

set_option Elab.async false
set_option linter.all false
set_option maxRecDepth 100000
set_option maxHeartbeats 4000000
/-! Pc3: two marks: help, kindness -/
namespace Pl
open PySem Mi
/-! ### all pairs stand among the helps, one way round -/
end Pl

set_option Elab.async false
set_option linter.all false
set_option maxRecDepth 100000
set_option maxHeartbeats 4000000
/-! Pv1: the claims' laws: numbers, known, text -/
namespace Pl
open PySem Mi
def ReadT (n : Nat) (t : Str → Int) : Prop := ∀ x ∈ rowsS n, t x ∈ readZ
theorem ReadT.ok {n : Nat} {t : Str → Int} (h : ReadT n t) : ∀ x ∈ rowsS n, 0 < t x → NumOk (t x) := fun x hx _ => num_ok (h x hx)
end Pl

set_option Elab.async false
set_option linter.all false
set_option maxRecDepth 100000
set_option maxHeartbeats 4000000
/-! Pv2: the claims' laws: the text, the pairs that speak against fitting -/
namespace Pl
open PySem Mi
/-! ### the pairs that speak against fitting -/
/-! ### which they are -/
end Pl

set_option Elab.async false
set_option linter.all false
set_option maxRecDepth 100000
set_option maxHeartbeats 4000000
/-! Pv3: claims about shares alone: fit and not fit -/
namespace Pl
open PySem Mi
end Pl

set_option Elab.async false
set_option linter.all false
set_option maxRecDepth 100000
set_option maxHeartbeats 4000000
/-! Pv4: x in a list of pairs; the claims' laws' own loops -/
namespace Pl
open PySem Mi
/-! ### the laws' own loops -/
end Pl

set_option Elab.async false
set_option linter.all false
set_option maxRecDepth 100000
set_option maxHeartbeats 4000000
/-! the mirrors of the defs of k08 alone; printed by gen.py -/
namespace Lk08
open PySem Mi
def m_law_right_f1 : En → Rs Fl :=
  (mSeq (mAsg (gSet 5) (xCall Cm.m_law_lot (qIo 0 (qVal (xVar 2) qNil))))
  (mSeq (mAsg (gSet 5) (xCall Cm.m_law_one (qIo 0 (qVal (xLst (xCons (xVar 5) (xCons (xCall Cm.m_law_risen (qVal (xVar 2) (qVal (xSl (xVar 5) oNone (oSome (xC (.int 3)))) qNil))) xNil))) qNil))))
  (mSeq (mIf (ttOr (tB1 (x2 gNe (x2 gInTt (xVar 5) (xVar 3)) (x2 gEq (xVar 5) (xCall Cm.m_law_risen (qVal (xVar 2) (qVal (xVar 5) qNil)))))) (tB1 (x2 gNe (x2 gInTt (xVar 5) (xVar 3)) (xCall Cm.m_is_rising (qVal (xVar 1) (qVal (xVar 5) qNil)))))) (mRet (xC (.bl false))) mNx)
  (mSeq (mAsg (gUnp 2 (gsCons (gSet 6) (gsCons (gSet 7) gsNil))) (xTup (xCons (xCall Cm.m_law_one (qIo 0 (qVal (xVar 3) qNil))) (xCons (xCall Cm.m_law_one (qIo 0 (qVal (xVar 3) qNil))) xNil))))
  (mSeq (mAsg (gSet 8) (xN gTuple (xCons (xVal (mLc [10] (xIter (xVar 6)) (gSet 10) (tB1 (x2 gIn (xVar 10) (xVar 7))) (lcPush (xVar 10)))) xNil)))
  (mSeq (mAsg (gSet 9) (xN gTuple (xCons (xVal (mLc [10] (xIter (xCall Cm.m_law_rows (qVal (xVar 2) qNil))) (gSet 10) (ttOr (tB1 (x2 gIn (xVar 10) (xVar 6))) (tB1 (x2 gIn (xVar 10) (xVar 7)))) (lcPush (xVar 10)))) xNil)))
  (mIf (ttOr (tB1 (x2 gNotInTt (xVar 8) (xVar 3))) (ttOr (tB1 (x2 gNotInTt (xVar 9) (xVar 3))) (tB1 (x2 gNe (xVar 6) (xCall Cm.m_law_risen (qVal (xVar 2) (qVal (xVar 6) qNil))))))) (mRet (xC (.bl false))) mNx)))))))
def m_law_right_b : En → Rs Fl :=
  (mSeq (mAsg (gSet 1) (xCall Cm.m_law_marks (qIo 0 (qVal (x2 Mi.gAdd (xC (.int 1)) (xCall Cm.m_law_draw (qIo 0 (qVal (xC (.int 4)) qNil)))) qNil))))
  (mSeq (mPar [2, 3] (xCons (xN gLen (xCons (xVar 1) xNil)) (xCons (xCall Cm.m_all_rising (qVal (xVar 1) qNil)) xNil)))
  (mSeq (mIf (ttOr (tB1 (x2 gNe (xN gList (xCons (xVar 3) xNil)) (xN gSortX (xCons (xVar 3) xNil)))) (tB1 (x2 gNe (x1 gLenS (xVar 3)) (xN gLen (xCons (xVar 3) xNil))))) (mRet (xC (.bl false))) mNx)
  (mSeq (mFor (xRng1 (xCons (xC (.int 8)) xNil)) (gSet 4) m_law_right_f1)
  (mRet (xC (.bl true)))))))
def m_law_right : En → Rs D := mDef 1 11 m_law_right_b
def m_law_b : En → Rs Fl :=
  (mRet (xN gAll (xCons (xVal (mLc [1] (xRng1 (xCons (xN gMaxB (xCons (xC (.int 2)) (xCons (xN gMinB (xCons (xN gLen (xCons (xVar 0) xNil)) (xCons (xC (.int 4)) xNil))) xNil))) xNil)) (gSet 1) ttYes (lcPush (xCallF m_law_right (xCallN Cm.m_law_bag (xCons (xVar 0) (xCons (xVar 1) xNil))))))) xNil)))
def m_law : En → Rs D := mDef 1 2 m_law_b
end Lk08

set_option Elab.async false
set_option linter.all false
set_option maxRecDepth 100000
set_option maxHeartbeats 4000000
/-! the defs of k08 keep their mirrors; printed by gen.py -/
namespace Lk08
open PySem PySem.Spec Mi L2
abbrev N_law_draw : List Str := ["_law_bag_here", "_law_wide", "_law_figure", "_law_kept", "_law_times"]
abbrev N_law_marks : List Str := ["_law_bag_here", "_law_many", "_law_pool", "_law_k"]
abbrev N_is_name : List Str := ["value", "letter"]
abbrev N_wrong_mark : List Str := ["value", "index", "name"]
abbrev N_check_marks : List Str := ["marks", "wrong"]
abbrev N_rising_lots : List Str := ["many", "found", "turn", "later", "low", "high", "row"]
abbrev N_all_rising : List Str := ["marks"]
abbrev N_law_one : List Str := ["_law_bag_here", "_law_some"]
abbrev N_law_rows : List Str := ["_law_many", "_law_found", "_law_turn", "_law_longer", "_law_head"]
abbrev N_law_lot : List Str := ["_law_bag_here", "_law_many", "_law_few", "_law_row"]
abbrev N_law_over : List Str := ["_law_row", "_law_other", "_law_k"]
abbrev N_law_risen : List Str := ["_law_many", "_law_rows_here", "_law_row", "_law_each"]
abbrev N_is_row : List Str := ["value", "many", "sign"]
abbrev N_wrong_in_lot : List Str := ["value", "many", "index", "row"]
abbrev N_check_lot : List Str := ["value", "many", "wrong"]
abbrev N_is_over : List Str := ["row", "other", "one", "two"]
abbrev N_all_rows : List Str := ["many", "found", "turn", "head", "sign"]
abbrev N_lacking_row : List Str := ["lot", "many", "row", "other"]
abbrev N_is_rising : List Str := ["marks", "one"]
abbrev N_law_right : List Str := ["_law_bag_here", "_law_marks_here", "_law_many", "_law_told", "_law_turn", "_law_lot_here", "_law_one_here", "_law_two", "_law_both", "_law_some", "_law_row"]
abbrev N_law_bag : List Str := ["_law_script", "_law_k", "_law_held_cell", "_law_seed", "_law_this", "_law_held_signs"]
abbrev N_law : List Str := ["_law_script", "_law_k"]
abbrev N_InvalidLot___init__ : List Str := ["self", "index"]
abbrev N_InvalidMarks___init__ : List Str := ["self", "index"]
section
variable [Tb] {P : Program} {w : World} {K : PySem.W.Frag} {mg : Str → Option Value} {base h : Heap} {f : Addr} {fd : FuncData}
theorem ok_InvalidLot___init__ (F : Fun K "__init__" "InvalidLot.__init__" s_InvalidLot___init__ f fd) : FnOk P w K mg base (L2.CX P w) 1 f fd ["self", "index"] (spX K "index") := by
  have sc : FnScope N_InvalidLot___init__ ["self", "index"] (defScope s_InvalidLot___init__) := ⟨rfl, rfl, rfl, by decide +kernel, rfl, by decide +kernel, by decide +kernel⟩
  exact okInit (k := 0) F sc rfl fun cdv A outer s H E => pss_one (ps_ost (pv 0) (pv 1))
theorem ok_InvalidMarks___init__ (F : Fun K "__init__" "InvalidMarks.__init__" s_InvalidMarks___init__ f fd) : FnOk P w K mg base (L2.CX P w) 1 f fd ["self", "index"] (spX K "index") := by
  have sc : FnScope N_InvalidMarks___init__ ["self", "index"] (defScope s_InvalidMarks___init__) := ⟨rfl, rfl, rfl, by decide +kernel, rfl, by decide +kernel, by decide +kernel⟩
  exact okInit (k := 0) F sc rfl fun cdv A outer s H E => pss_one (ps_ost (pv 0) (pv 1))
theorem ok_law_draw (KX : K.In h) (G : h.Ns mainGlobals mg) (c : SaysP fa fn ps ex K) (F : Fun K "_law_draw" "_law_draw" s_law_draw f fd) : FnG P w K mg base 1 f fd ["_law_bag_here", "_law_wide"] (spM K 2 Cm.m_law_draw) := by
  have n_int_ := He.free_ok KX G (c.fact 28 (f := .free "int") rfl)
  have sc : FnScope N_law_draw ["_law_bag_here", "_law_wide"] (defScope s_law_draw) := ⟨rfl, rfl, rfl, by decide +kernel, rfl, by decide +kernel, by decide +kernel⟩
  exact okM (k := 0) F sc fun cdv A outer s H E W co tk =>
  (es_cons (es_sto st_m (ps_asg (ev_op op_addM s_add (ev_bor (ep_ix co (ep_var (pv 0)) (ep_c (d := .int 2) pe_int rfl))) (ev_c (d := .int 1) pe_int rfl)) (pg_sub (pv 0) (ev_c (d := .int 2) pe_int rfl) (set_m (hu_of co.hr)))))
  (es_cons (es_if (et_cmp op_gtM s_ord (ev_bor (ep_ix co (ep_var (pv 0)) (ep_c (d := .int 0) pe_int rfl))) (ev_c (d := .int 0) pe_int rfl) (by first | exact nomark _ | rfl)) (es_cons (es_set (i := 2) (ev_op op_mod s_mod (ev_t cr_int n_int n_int_ (en_cons (ev_bor (ep_ix co (ep_var (pv 0)) (ep_c (d := .int 0) pe_int rfl))) en_nil)) (ev_var (pv 1))) sc.nd rfl (by first | exact .inl rfl | exact .inr rfl))
  (es_cons (es_sto st_m (ps_asg (ev_op op_fdivW s_fdiv (ev_bor (ep_ix co (ep_var (pv 0)) (ep_c (d := .int 0) pe_int rfl))) (ev_var (pv 1))) (pg_sub (pv 0) (ev_c (d := .int 0) pe_int rfl) (set_m (hu_of co.hr)))))
  (es_one (es_ret (ev_var (pv 2)))))) es_nil)
  (es_cons (es_set (i := 3) (ev_op op_addM s_add (ev_t cr_int n_int n_int_ (en_cons (ev_bor (ep_ix co (ep_var (pv 0)) (ep_c (d := .int 1) pe_int rfl))) en_nil)) (ev_op op_mulM s_mul (ev_c (d := .int 65003) pe_int rfl) (ev_bor (ep_ix co (ep_var (pv 0)) (ep_c (d := .int 2) pe_int rfl))))) sc.nd rfl (by first | exact .inl rfl | exact .inr rfl))
  (es_cons (es_set (i := 4) (ev_op op_addM s_add (ev_op op_mod s_mod (ev_t cr_int n_int n_int_ (en_cons (ev_var (pv 3)) en_nil)) (ev_c (d := .int 60013) pe_int rfl)) (ev_c (d := .int 49003) pe_int rfl)) sc.nd rfl (by first | exact .inl rfl | exact .inr rfl))
  (es_cons (es_sto st_m (ps_asg (ev_op op_mod s_mod (ev_t cr_int n_int n_int_ (en_cons (ev_op op_addM s_add (ev_op op_addM s_add (ev_op op_mulM s_mul (ev_var (pv 3)) (ev_var (pv 4))) (ev_op op_mulM s_mul (ev_c (d := .int 11) pe_int rfl) (ev_bor (ep_ix co (ep_var (pv 0)) (ep_c (d := .int 2) pe_int rfl))))) (ev_c (d := .int 19) pe_int rfl)) en_nil)) (ev_c (d := .int 2147483549) pe_int rfl)) (pg_sub (pv 0) (ev_c (d := .int 1) pe_int rfl) (set_m (hu_of co.hr)))))
  (es_one (es_ret (ev_op op_mod s_mod (ev_op op_fdivW s_fdiv (ev_t cr_int n_int n_int_ (en_cons (ev_bor (ep_ix co (ep_var (pv 0)) (ep_c (d := .int 1) pe_int rfl))) en_nil)) (ev_c (d := .int 509) pe_int rfl)) (ev_var (pv 1))))))))))
theorem ok_law_marks (KX : K.In h) (G : h.Ns mainGlobals mg) (c : SaysP fa fn ps ex K) (F : Fun K "_law_marks" "_law_marks" s_law_marks f fd) : FnG P w K mg base 2 f fd ["_law_bag_here", "_law_many"] (spM K 2 Cm.m_law_marks) := by
  have n_len_ := He.free_ok KX G (c.fact 30 (f := .free "len") rfl)
  have n_range_ := He.free_ok KX G (c.fact 34 (f := .free "range") rfl)
  have n_tuple_ := He.free_ok KX G (c.fact 38 (f := .free "tuple") rfl)
  have g__law_draw := He.glo_ok KX G (c.fact 0 (f := .glo "_law_draw") rfl)
  obtain ⟨fd__law_draw, F__law_draw⟩ := c.def_ 0 (d := d_law_draw) rfl
  replace F__law_draw : Fun K "_law_draw" "_law_draw" s_law_draw _ fd__law_draw := fun_of_D F__law_draw
  have K__law_draw := ok_law_draw (P := P) (w := w) (mg := mg) (base := base) KX G c F__law_draw
  have b__law_draw : Binds K fd__law_draw ["_law_bag_here", "_law_wide"] [] := F__law_draw.binds fun _ _ _ _ _ _ us hl => match us, hl with | [_, _], _ => rfl
  have sc : FnScope N_law_marks ["_law_bag_here", "_law_many"] (defScope s_law_marks) := ⟨rfl, rfl, rfl, by decide +kernel, rfl, by decide +kernel, by decide +kernel⟩
  exact okM (k := 1) F sc fun cdv A outer s H E W co tk =>
  (es_cons (es_ow (i := 2) (fun te h => ps_set sc.nd rfl (by first | exact .inl rfl | exact .inr rfl) h) (ef_lst (en_cons (ev_c (d := .str "a") pe_str rfl) (en_cons (ev_c (d := .str "b") pe_str rfl) (en_cons (ev_c (d := .str "c") pe_str rfl) (en_cons (ev_c (d := .str "ab") pe_str rfl) (en_cons (ev_c (d := .str "lamp") pe_str rfl) (en_cons (ev_c (d := .str "marks") pe_str rfl) (en_cons (ev_c (d := .str "nona") pe_str rfl) (en_cons (ev_c (d := .str "x") pe_str rfl) (en_cons (ev_c (d := .str "abcdefgh") pe_str rfl) (en_cons (ev_c (d := .str "aa") pe_str rfl) (en_cons (ev_c (d := .str "z") pe_str rfl) (en_cons (ev_c (d := .str "kind") pe_str rfl) (en_cons (ev_c (d := .str "y") pe_str rfl) (en_cons (ev_c (d := .str "ba") pe_str rfl) en_nil))))))))))))))))
  (es_one (es_ret (ev_t call_tuple_ofU n_tuple n_tuple_ (en_cons (ev_new (ef_lc (own := [("_law_k", 3)]) co.calm sc.nd  (ei_rng1 rfl n_range_ (en_cons (ev_var (pv 1)) en_nil)) (blkOk_of (by kernel_rfl)) (fun _ _ _ _ _ => (eg_name (pg_name sc.nd (i := 3) rfl (by first | exact .inl rfl | exact .inr rfl)))) (fun _ _ _ _ _ => ets_nil) (fun _ _ _ _ _ => (ev_meth mu_popAt (pe_bm PySem.F.plainAttrs_list PySem.F.slot_list_pop PySem.F.type_list_pop mt_popAt (pv 2) (en_cons (ev_call (K__law_draw.mono (by decide)) (co.blk _ _ _ _ _) (takes0 _) g__law_draw F__law_draw.kp b__law_draw (eq_io (pv 0) (eq_val (ev_bor (ep_b cr_len n_len n_len_ (eps_cons (ep_var (pv 2)) eps_nil))) eq_nil))) en_nil).pa))) (by decide))) en_nil)))))
theorem ok_is_name (KX : K.In h) (G : h.Ns mainGlobals mg) (c : SaysP fa fn ps ex K) (F : Fun K "is_name" "is_name" s_is_name f fd) : FnG P w K mg base 1 f fd ["value"] (spM K 1 Cm.m_is_name_2) := by
  have n_all_ := He.free_ok KX G (c.fact 25 (f := .free "all") rfl)
  have n_isinstance_ := He.free_ok KX G (c.fact 29 (f := .free "isinstance") rfl)
  have n_len_ := He.free_ok KX G (c.fact 30 (f := .free "len") rfl)
  have n_str_ := He.free_ok KX G (c.fact 37 (f := .free "str") rfl)
  obtain ⟨t_MOST_NAME, g_MOST_NAME⟩ := He.int_ok KX G (c.fact 41 (f := .int "MOST_NAME" 8) rfl)
  obtain ⟨t_LETTERS, g_LETTERS⟩ := He.str_ok KX G (c.fact 42 (f := .str "LETTERS" "abcdefghijklmnopqrstuvwxyz") rfl)
  have sc : FnScope N_is_name ["value"] (defScope s_is_name) := ⟨rfl, rfl, rfl, by decide +kernel, rfl, by decide +kernel, by decide +kernel⟩
  exact okM (k := 0) F sc fun cdv A outer s H E W co tk =>
  (es_cons (es_if (et_w (ew_or (et_not (et_tru (ev_isi is_str (ev_var (pv 0)) (pe_bltn rfl n_str_ (by decide +kernel) rfl) rfl n_isinstance_))) (ew_or1 (et_not (et_chain op_leM op_leM s_ord s_ord (ev_c (d := .int 1) pe_int rfl) (ev_b cr_len n_len n_len_ (en_cons (ev_var (pv 0)) en_nil)) (ev_c (d := (.int 8)) (pe_glob (v := .int 8) rfl g_MOST_NAME ⟨_, rfl⟩) rfl)))))) (es_one (es_ret (ev_c (d := .bl false) pe_bl rfl))) es_nil)
  (es_one (es_ret (ev_b (cr_all co.calm) n_all n_all_ (en_cons (ev_new (ef_lc (own := [("letter", 1)]) co.calm sc.nd  (ei_of (ev_var (pv 0))) (blkOk_of (by kernel_rfl)) (fun _ _ _ _ _ => (eg_name (pg_name sc.nd (i := 1) rfl (by first | exact .inl rfl | exact .inr rfl)))) (fun _ _ _ _ _ => ets_nil) (fun _ _ _ _ _ => (ev_cmp (op_inM (hu_of (co.blk _ _ _ _ _).hr)) s_in (ev_var (pv 1)) (ev_c (d := (.str "abcdefghijklmnopqrstuvwxyz")) (pe_glob (v := .str "abcdefghijklmnopqrstuvwxyz") rfl g_LETTERS ⟨_, rfl⟩) rfl) (by first | exact nomark _ | rfl))) (by decide))) en_nil)))))
theorem ok_wrong_mark (KX : K.In h) (G : h.Ns mainGlobals mg) (c : SaysP fa fn ps ex K) (F : Fun K "wrong_mark" "wrong_mark" s_wrong_mark f fd) : FnG P w K mg base 2 f fd ["value"] (spM K 1 Cm.m_wrong_mark_2) := by
  have n_enumerate_ := He.free_ok KX G (c.fact 27 (f := .free "enumerate") rfl)
  obtain ⟨t_MOST_MARKS, g_MOST_MARKS⟩ := He.int_ok KX G (c.fact 40 (f := .int "MOST_MARKS" 4) rfl)
  have g_is_name := He.glo_ok KX G (c.fact 2 (f := .glo "is_name") rfl)
  obtain ⟨fd_is_name, F_is_name⟩ := c.def_ 2 (d := d_is_name) rfl
  replace F_is_name : Fun K "is_name" "is_name" s_is_name _ fd_is_name := fun_of_D F_is_name
  have K_is_name := ok_is_name (P := P) (w := w) (mg := mg) (base := base) KX G c F_is_name
  have b_is_name : Binds K fd_is_name ["value"] [] := F_is_name.binds fun _ _ _ _ _ _ us hl => match us, hl with | [_], _ => rfl
  have sc : FnScope N_wrong_mark ["value"] (defScope s_wrong_mark) := ⟨rfl, rfl, rfl, by decide +kernel, rfl, by decide +kernel, by decide +kernel⟩
  exact okM (k := 1) F sc fun cdv A outer s H E W co tk =>
  (es_cons (es_for (passes_of rfl) co.calm (ei_enum rfl n_enumerate_ (en_cons (ev_var (pv 0)) en_nil)) (eg_unp (n := 2) co.calm (eg_cons (eg_name (pg_name sc.nd (i := 1) rfl (by first | exact .inl rfl | exact .inr rfl))) (eg_cons (eg_name (pg_name sc.nd (i := 2) rfl (by first | exact .inl rfl | exact .inr rfl))) eg_nil))) (es_one (es_if (et_w (ew_or (et_cmp (op_eqM co.hr.units) s_eq (ev_var (pv 1)) (ev_c (d := (.int 4)) (pe_glob (v := .int 4) rfl g_MOST_MARKS ⟨_, rfl⟩) rfl) (by first | exact nomark _ | rfl)) (ew_or (et_not (et_tru (ev_call (K_is_name.mono (by decide)) co tk g_is_name F_is_name.kp b_is_name (eq_val (ev_var (pv 2)) eq_nil)))) (ew_or1 (et_cmp (op_inM (hu_of co.hr)) s_in (ev_var (pv 2)) (ev_sl (ev_var (pv 0)) eo_none (eo_some (ev_var (pv 1)))) (by first | exact nomark _ | rfl)))))) (es_one (es_ret (ev_var (pv 1)))) es_nil)))
  (es_one (es_ret (ev_c (d := .non) pe_non rfl))))
theorem ok_check_marks (KX : K.In h) (G : h.Ns mainGlobals mg) (c : SaysP fa fn ps ex K) (F : Fun K "check_marks" "check_marks" s_check_marks f fd) : FnG P w K mg base 3 f fd ["marks"] (spM K 1 Cm.m_check_marks_2) := by
  have n_isinstance_ := He.free_ok KX G (c.fact 29 (f := .free "isinstance") rfl)
  have n_tuple_ := He.free_ok KX G (c.fact 38 (f := .free "tuple") rfl)
  have g_InvalidMarks := He.glo_ok KX G (c.fact 23 (f := .glo "InvalidMarks") rfl)
  have ex0 : ex K = true := c.more
  simp only [ex, Bool.and_eq_true] at ex0
  obtain ⟨⟨⟨kt0, e_xi_InvalidLot⟩, e_xi_InvalidMarks⟩, _⟩ := ex0
  have kt : Kits K [] := ⟨kt0⟩
  have xi_InvalidMarks := xiB_ok e_xi_InvalidMarks
  obtain ⟨fd_InvalidMarks, F_InvalidMarks⟩ := c.def_ 23 (d := d_InvalidMarks___init__) rfl
  replace F_InvalidMarks : Fun K "__init__" "InvalidMarks.__init__" s_InvalidMarks___init__ _ fd_InvalidMarks := fun_of_D F_InvalidMarks
  have I_InvalidMarks := ok_InvalidMarks___init__ (P := P) (w := w) (mg := mg) (base := base) F_InvalidMarks
  have bI_InvalidMarks : Binds K fd_InvalidMarks ["self", "index"] [] := F_InvalidMarks.binds fun _ _ _ _ _ _ us hl => match us, hl with | [_, _], _ => rfl
  have g_wrong_mark := He.glo_ok KX G (c.fact 3 (f := .glo "wrong_mark") rfl)
  obtain ⟨fd_wrong_mark, F_wrong_mark⟩ := c.def_ 3 (d := d_wrong_mark) rfl
  replace F_wrong_mark : Fun K "wrong_mark" "wrong_mark" s_wrong_mark _ fd_wrong_mark := fun_of_D F_wrong_mark
  have K_wrong_mark := ok_wrong_mark (P := P) (w := w) (mg := mg) (base := base) KX G c F_wrong_mark
  have b_wrong_mark : Binds K fd_wrong_mark ["value"] [] := F_wrong_mark.binds fun _ _ _ _ _ _ us hl => match us, hl with | [_], _ => rfl
  have sc : FnScope N_check_marks ["marks"] (defScope s_check_marks) := ⟨rfl, rfl, rfl, by decide +kernel, rfl, by decide +kernel, by decide +kernel⟩
  exact okM (k := 2) F sc fun cdv A outer s H E W co tk =>
  (es_cons (es_if (et_w (ew_or (et_not (et_tru (ev_isi is_tup (ev_var (pv 0)) (pe_bltn rfl n_tuple_ (by decide +kernel) rfl) rfl n_isinstance_))) (ew_or1 (et_cmp (op_eqM co.hr.units) s_eq (ev_var (pv 0)) (ev_tup en_nil) (by first | exact nomark _ | rfl))))) (es_one (es_raise xi_InvalidMarks I_InvalidMarks (co.mono (by decide)) tk bI_InvalidMarks g_InvalidMarks (ev_c (d := .non) pe_non rfl))) es_nil)
  (es_cons (es_set (i := 1) (ev_call (K_wrong_mark.mono (by decide)) co tk g_wrong_mark F_wrong_mark.kp b_wrong_mark (eq_val (ev_var (pv 0)) eq_nil)) sc.nd rfl (by first | exact .inl rfl | exact .inr rfl))
  (es_one (es_if (et_cmp op_notN s_notN (ev_var (pv 1)) (ev_c (d := .non) pe_non rfl) (by first | exact nomark _ | rfl)) (es_one (es_raise xi_InvalidMarks I_InvalidMarks (co.mono (by decide)) tk bI_InvalidMarks g_InvalidMarks (ev_var (pv 1)))) es_nil))))
theorem ok_rising_lots (KX : K.In h) (G : h.Ns mainGlobals mg) (c : SaysP fa fn ps ex K) (F : Fun K "rising_lots" "rising_lots" s_rising_lots f fd) : FnG P w K mg base 1 f fd ["many"] (spM K 1 Cm.m_rising_lots) := by
  have n_all_ := He.free_ok KX G (c.fact 25 (f := .free "all") rfl)
  have n_range_ := He.free_ok KX G (c.fact 34 (f := .free "range") rfl)
  have n_sorted_ := He.free_ok KX G (c.fact 36 (f := .free "sorted") rfl)
  have n_tuple_ := He.free_ok KX G (c.fact 38 (f := .free "tuple") rfl)
  have sc : FnScope N_rising_lots ["many"] (defScope s_rising_lots) := ⟨rfl, rfl, rfl, by decide +kernel, rfl, by decide +kernel, by decide +kernel⟩
  exact okM (k := 0) F sc fun cdv A outer s H E W co tk =>
  (es_cons (es_set (i := 1) (ev_lst (en_cons (ev_tup en_nil) (en_cons (ev_tup (en_cons (ev_c (d := .str "") pe_str rfl) en_nil)) en_nil))) sc.nd rfl (by first | exact .inl rfl | exact .inr rfl))
  (es_cons (es_for (passes_of rfl) co.calm (ei_rng1 rfl n_range_ (en_cons (ev_var (pv 0)) en_nil)) (eg_name (pg_name sc.nd (i := 2) rfl (by first | exact .inl rfl | exact .inr rfl))) (es_cons (es_ow (i := 3) (fun te h => ps_set sc.nd rfl (by first | exact .inl rfl | exact .inr rfl) h) (ef_lst en_nil))
  (es_cons (es_for (passes_of rfl) co.calm (ei_of (ev_var (pv 1))) (eg_name (pg_name sc.nd (i := 4) rfl (by first | exact .inl rfl | exact .inr rfl))) (es_one (es_for (passes_of rfl) co.calm (ei_of (ev_var (pv 1))) (eg_name (pg_name sc.nd (i := 5) rfl (by first | exact .inl rfl | exact .inr rfl))) (es_one (es_if (et_tru (ev_b (cr_all co.calm) n_all n_all_ (en_cons (ev_new (ef_lc (own := [("row", 6)]) co.calm sc.nd  (ei_of (ev_var (pv 4))) (blkOk_of (by kernel_rfl)) (fun _ _ _ _ _ => (eg_name (pg_name sc.nd (i := 6) rfl (by first | exact .inl rfl | exact .inr rfl)))) (fun _ _ _ _ _ => ets_nil) (fun _ _ _ _ _ => (ev_cmp (op_inM (hu_of (co.blk _ _ _ _ _).hr)) s_in (ev_var (pv 6)) (ev_var (pv 5)) (by first | exact nomark _ | rfl))) (by decide))) en_nil))) (es_one (es_expr (ev_meth mu_app (pe_bm PySem.F.plainAttrs_list PySem.F.slot_list_append PySem.F.type_list_append mt_append (pv 3) (en_cons (ev_t call_tuple_ofU n_tuple n_tuple_ (en_cons (ev_op op_addM s_add (ev_new (ef_lc (own := [("row", 6)]) co.calm sc.nd  (ei_of (ev_var (pv 4))) (blkOk_of (by kernel_rfl)) (fun _ _ _ _ _ => (eg_name (pg_name sc.nd (i := 6) rfl (by first | exact .inl rfl | exact .inr rfl)))) (fun _ _ _ _ _ => ets_nil) (fun _ _ _ _ _ => (ev_op op_addM s_add (ev_c (d := .str "0") pe_str rfl) (ev_var (pv 6)))) (by decide))) (ev_new (ef_lc (own := [("row", 6)]) co.calm sc.nd  (ei_of (ev_var (pv 5))) (blkOk_of (by kernel_rfl)) (fun _ _ _ _ _ => (eg_name (pg_name sc.nd (i := 6) rfl (by first | exact .inl rfl | exact .inr rfl)))) (fun _ _ _ _ _ => ets_nil) (fun _ _ _ _ _ => (ev_op op_addM s_add (ev_c (d := .str "1") pe_str rfl) (ev_var (pv 6)))) (by decide)))) en_nil)) en_nil).pa)))) es_nil)))))
  (es_one (es_set (i := 1) (ev_var (pv 3)) sc.nd rfl (by first | exact .inl rfl | exact .inr rfl))))))
  (es_one (es_ret (ev_b (cr_sortX co.calm co.hr.units) n_sortX n_sorted_ (en_cons (ev_var (pv 1)) en_nil))))))
theorem ok_all_rising (KX : K.In h) (G : h.Ns mainGlobals mg) (c : SaysP fa fn ps ex K) (F : Fun K "all_rising" "all_rising" s_all_rising f fd) : FnG P w K mg base 4 f fd ["marks"] (spM K 1 Cm.m_all_rising) := by
  have n_len_ := He.free_ok KX G (c.fact 30 (f := .free "len") rfl)
  have n_tuple_ := He.free_ok KX G (c.fact 38 (f := .free "tuple") rfl)
  have g_check_marks := He.glo_ok KX G (c.fact 4 (f := .glo "check_marks") rfl)
  obtain ⟨fd_check_marks, F_check_marks⟩ := c.def_ 4 (d := d_check_marks) rfl
  replace F_check_marks : Fun K "check_marks" "check_marks" s_check_marks _ fd_check_marks := fun_of_D F_check_marks
  have K_check_marks := ok_check_marks (P := P) (w := w) (mg := mg) (base := base) KX G c F_check_marks
  have b_check_marks : Binds K fd_check_marks ["marks"] [] := F_check_marks.binds fun _ _ _ _ _ _ us hl => match us, hl with | [_], _ => rfl
  have g_rising_lots := He.glo_ok KX G (c.fact 5 (f := .glo "rising_lots") rfl)
  obtain ⟨fd_rising_lots, F_rising_lots⟩ := c.def_ 5 (d := d_rising_lots) rfl
  replace F_rising_lots : Fun K "rising_lots" "rising_lots" s_rising_lots _ fd_rising_lots := fun_of_D F_rising_lots
  have K_rising_lots := ok_rising_lots (P := P) (w := w) (mg := mg) (base := base) KX G c F_rising_lots
  have b_rising_lots : Binds K fd_rising_lots ["many"] [] := F_rising_lots.binds fun _ _ _ _ _ _ us hl => match us, hl with | [_], _ => rfl
  have sc : FnScope N_all_rising ["marks"] (defScope s_all_rising) := ⟨rfl, rfl, rfl, by decide +kernel, rfl, by decide +kernel, by decide +kernel⟩
  exact okM (k := 3) F sc fun cdv A outer s H E W co tk =>
  (es_cons (es_expr (ev_call (K_check_marks.mono (by decide)) co tk g_check_marks F_check_marks.kp b_check_marks (eq_val (ev_var (pv 0)) eq_nil)))
  (es_one (es_ret (ev_t call_tuple_ofU n_tuple n_tuple_ (en_cons (ev_call (K_rising_lots.mono (by decide)) co tk g_rising_lots F_rising_lots.kp b_rising_lots (eq_val (ev_b cr_len n_len n_len_ (en_cons (ev_var (pv 0)) en_nil)) eq_nil)) en_nil)))))
theorem ok_law_one (KX : K.In h) (G : h.Ns mainGlobals mg) (c : SaysP fa fn ps ex K) (F : Fun K "_law_one" "_law_one" s_law_one f fd) : FnG P w K mg base 2 f fd ["_law_bag_here", "_law_some"] (spM K 2 Cm.m_law_one) := by
  have n_len_ := He.free_ok KX G (c.fact 30 (f := .free "len") rfl)
  have g__law_draw := He.glo_ok KX G (c.fact 0 (f := .glo "_law_draw") rfl)
  obtain ⟨fd__law_draw, F__law_draw⟩ := c.def_ 0 (d := d_law_draw) rfl
  replace F__law_draw : Fun K "_law_draw" "_law_draw" s_law_draw _ fd__law_draw := fun_of_D F__law_draw
  have K__law_draw := ok_law_draw (P := P) (w := w) (mg := mg) (base := base) KX G c F__law_draw
  have b__law_draw : Binds K fd__law_draw ["_law_bag_here", "_law_wide"] [] := F__law_draw.binds fun _ _ _ _ _ _ us hl => match us, hl with | [_, _], _ => rfl
  have sc : FnScope N_law_one ["_law_bag_here", "_law_some"] (defScope s_law_one) := ⟨rfl, rfl, rfl, by decide +kernel, rfl, by decide +kernel, by decide +kernel⟩
  exact okM (k := 1) F sc fun cdv A outer s H E W co tk =>
  (es_one (es_ret (ev_ix co (ev_var (pv 1)) (ev_call (K__law_draw.mono (by decide)) co tk g__law_draw F__law_draw.kp b__law_draw (eq_io (pv 0) (eq_val (ev_b cr_len n_len n_len_ (en_cons (ev_var (pv 1)) en_nil)) eq_nil))))))
theorem ok_law_rows (KX : K.In h) (G : h.Ns mainGlobals mg) (c : SaysP fa fn ps ex K) (F : Fun K "_law_rows" "_law_rows" s_law_rows f fd) : FnG P w K mg base 1 f fd ["_law_many"] (spM K 1 Cm.m_law_rows) := by
  have n_range_ := He.free_ok KX G (c.fact 34 (f := .free "range") rfl)
  have sc : FnScope N_law_rows ["_law_many"] (defScope s_law_rows) := ⟨rfl, rfl, rfl, by decide +kernel, rfl, by decide +kernel, by decide +kernel⟩
  exact okM (k := 0) F sc fun cdv A outer s H E W co tk =>
  (es_cons (es_set (i := 1) (ev_lst (en_cons (ev_c (d := .str "") pe_str rfl) en_nil)) sc.nd rfl (by first | exact .inl rfl | exact .inr rfl))
  (es_cons (es_for (passes_of rfl) co.calm (ei_rng1 rfl n_range_ (en_cons (ev_var (pv 0)) en_nil)) (eg_name (pg_name sc.nd (i := 2) rfl (by first | exact .inl rfl | exact .inr rfl))) (es_cons (es_set (i := 3) (ev_lst en_nil) sc.nd rfl (by first | exact .inl rfl | exact .inr rfl))
  (es_cons (es_for (passes_of rfl) co.calm (ei_of (ev_var (pv 1))) (eg_name (pg_name sc.nd (i := 4) rfl (by first | exact .inl rfl | exact .inr rfl))) (es_one (es_set (i := 3) (ev_op op_addM s_add (ev_var (pv 3)) (ev_lst (en_cons (ev_op op_addM s_add (ev_var (pv 4)) (ev_c (d := .str "0") pe_str rfl)) (en_cons (ev_op op_addM s_add (ev_var (pv 4)) (ev_c (d := .str "1") pe_str rfl)) en_nil)))) sc.nd rfl (by first | exact .inl rfl | exact .inr rfl))))
  (es_one (es_set (i := 1) (ev_var (pv 3)) sc.nd rfl (by first | exact .inl rfl | exact .inr rfl))))))
  (es_one (es_ret (ev_var (pv 1))))))
theorem ok_law_lot (KX : K.In h) (G : h.Ns mainGlobals mg) (c : SaysP fa fn ps ex K) (F : Fun K "_law_lot" "_law_lot" s_law_lot f fd) : FnG P w K mg base 3 f fd ["_law_bag_here", "_law_many"] (spM K 2 Cm.m_law_lot) := by
  have n_tuple_ := He.free_ok KX G (c.fact 38 (f := .free "tuple") rfl)
  have g__law_draw := He.glo_ok KX G (c.fact 0 (f := .glo "_law_draw") rfl)
  obtain ⟨fd__law_draw, F__law_draw⟩ := c.def_ 0 (d := d_law_draw) rfl
  replace F__law_draw : Fun K "_law_draw" "_law_draw" s_law_draw _ fd__law_draw := fun_of_D F__law_draw
  have K__law_draw := ok_law_draw (P := P) (w := w) (mg := mg) (base := base) KX G c F__law_draw
  have b__law_draw : Binds K fd__law_draw ["_law_bag_here", "_law_wide"] [] := F__law_draw.binds fun _ _ _ _ _ _ us hl => match us, hl with | [_, _], _ => rfl
  have g__law_one := He.glo_ok KX G (c.fact 7 (f := .glo "_law_one") rfl)
  obtain ⟨fd__law_one, F__law_one⟩ := c.def_ 7 (d := d_law_one) rfl
  replace F__law_one : Fun K "_law_one" "_law_one" s_law_one _ fd__law_one := fun_of_D F__law_one
  have K__law_one := ok_law_one (P := P) (w := w) (mg := mg) (base := base) KX G c F__law_one
  have b__law_one : Binds K fd__law_one ["_law_bag_here", "_law_some"] [] := F__law_one.binds fun _ _ _ _ _ _ us hl => match us, hl with | [_, _], _ => rfl
  have g__law_rows := He.glo_ok KX G (c.fact 8 (f := .glo "_law_rows") rfl)
  obtain ⟨fd__law_rows, F__law_rows⟩ := c.def_ 8 (d := d_law_rows) rfl
  replace F__law_rows : Fun K "_law_rows" "_law_rows" s_law_rows _ fd__law_rows := fun_of_D F__law_rows
  have K__law_rows := ok_law_rows (P := P) (w := w) (mg := mg) (base := base) KX G c F__law_rows
  have b__law_rows : Binds K fd__law_rows ["_law_many"] [] := F__law_rows.binds fun _ _ _ _ _ _ us hl => match us, hl with | [_], _ => rfl
  have sc : FnScope N_law_lot ["_law_bag_here", "_law_many"] (defScope s_law_lot) := ⟨rfl, rfl, rfl, by decide +kernel, rfl, by decide +kernel, by decide +kernel⟩
  exact okM (k := 2) F sc fun cdv A outer s H E W co tk =>
  (es_cons (es_set (i := 2) (ev_call (K__law_one.mono (by decide)) co tk g__law_one F__law_one.kp b__law_one (eq_io (pv 0) (eq_val (ev_lst (en_cons (ev_c (d := .int 2) pe_int rfl) (en_cons (ev_c (d := .int 2) pe_int rfl) (en_cons (ev_c (d := .int 3) pe_int rfl) (en_cons (ev_c (d := .int 5) pe_int rfl) en_nil))))) eq_nil))) sc.nd rfl (by first | exact .inl rfl | exact .inr rfl))
  (es_one (es_ret (ev_t call_tuple_ofU n_tuple n_tuple_ (en_cons (ev_new (ef_lc (own := [("_law_row", 3)]) co.calm sc.nd  (ei_of (ev_call (K__law_rows.mono (by decide)) co tk g__law_rows F__law_rows.kp b__law_rows (eq_val (ev_var (pv 1)) eq_nil))) (blkOk_of (by kernel_rfl)) (fun _ _ _ _ _ => (eg_name (pg_name sc.nd (i := 3) rfl (by first | exact .inl rfl | exact .inr rfl)))) (fun _ _ _ _ _ => (ets_one (et_cmp (op_eqM (co.blk _ _ _ _ _).hr.units) s_eq (ev_call (K__law_draw.mono (by decide)) (co.blk _ _ _ _ _) (takes0 _) g__law_draw F__law_draw.kp b__law_draw (eq_io (pv 0) (eq_val (ev_var (pv 2)) eq_nil))) (ev_c (d := .int 0) pe_int rfl) (by first | exact nomark _ | rfl)))) (fun _ _ _ _ _ => (ev_var (pv 3))) (by decide))) en_nil)))))
theorem ok_law_over (KX : K.In h) (G : h.Ns mainGlobals mg) (c : SaysP fa fn ps ex K) (F : Fun K "_law_over" "_law_over" s_law_over f fd) : FnG P w K mg base 1 f fd ["_law_row", "_law_other"] (spM K 2 Cm.m_law_over_2) := by
  have n_len_ := He.free_ok KX G (c.fact 30 (f := .free "len") rfl)
  have n_range_ := He.free_ok KX G (c.fact 34 (f := .free "range") rfl)
  have sc : FnScope N_law_over ["_law_row", "_law_other"] (defScope s_law_over) := ⟨rfl, rfl, rfl, by decide +kernel, rfl, by decide +kernel, by decide +kernel⟩
  exact okM (k := 0) F sc fun cdv A outer s H E W co tk =>
  (es_one (es_ret (ev_cmp (op_eqM co.hr.units) s_eq (ev_new (ef_lc (own := [("_law_k", 2)]) co.calm sc.nd  (ei_rng1 rfl n_range_ (en_cons (ev_b cr_len n_len n_len_ (en_cons (ev_var (pv 0)) en_nil)) en_nil)) (blkOk_of (by kernel_rfl)) (fun _ _ _ _ _ => (eg_name (pg_name sc.nd (i := 2) rfl (by first | exact .inl rfl | exact .inr rfl)))) (fun _ _ _ _ _ => (ets_one (et_cmp op_ltM s_ord (ev_ix (co.blk _ _ _ _ _) (ev_var (pv 0)) (ev_var (pv 2))) (ev_ix (co.blk _ _ _ _ _) (ev_var (pv 1)) (ev_var (pv 2))) (by first | exact nomark _ | rfl)))) (fun _ _ _ _ _ => (ev_var (pv 2))) (by decide))) (ev_lst en_nil) (by first | exact nomark _ | rfl))))
theorem ok_law_risen (KX : K.In h) (G : h.Ns mainGlobals mg) (c : SaysP fa fn ps ex K) (F : Fun K "_law_risen" "_law_risen" s_law_risen f fd) : FnG P w K mg base 2 f fd ["_law_many", "_law_rows_here"] (spM K 2 Cm.m_law_risen) := by
  have n_tuple_ := He.free_ok KX G (c.fact 38 (f := .free "tuple") rfl)
  have g__law_over := He.glo_ok KX G (c.fact 10 (f := .glo "_law_over") rfl)
  obtain ⟨fd__law_over, F__law_over⟩ := c.def_ 10 (d := d_law_over) rfl
  replace F__law_over : Fun K "_law_over" "_law_over" s_law_over _ fd__law_over := fun_of_D F__law_over
  have K__law_over := ok_law_over (P := P) (w := w) (mg := mg) (base := base) KX G c F__law_over
  have b__law_over : Binds K fd__law_over ["_law_row", "_law_other"] [] := F__law_over.binds fun _ _ _ _ _ _ us hl => match us, hl with | [_, _], _ => rfl
  have g__law_rows := He.glo_ok KX G (c.fact 8 (f := .glo "_law_rows") rfl)
  obtain ⟨fd__law_rows, F__law_rows⟩ := c.def_ 8 (d := d_law_rows) rfl
  replace F__law_rows : Fun K "_law_rows" "_law_rows" s_law_rows _ fd__law_rows := fun_of_D F__law_rows
  have K__law_rows := ok_law_rows (P := P) (w := w) (mg := mg) (base := base) KX G c F__law_rows
  have b__law_rows : Binds K fd__law_rows ["_law_many"] [] := F__law_rows.binds fun _ _ _ _ _ _ us hl => match us, hl with | [_], _ => rfl
  have sc : FnScope N_law_risen ["_law_many", "_law_rows_here"] (defScope s_law_risen) := ⟨rfl, rfl, rfl, by decide +kernel, rfl, by decide +kernel, by decide +kernel⟩
  exact okM (k := 1) F sc fun cdv A outer s H E W co tk =>
  (es_one (es_ret (ev_t call_tuple_ofU n_tuple n_tuple_ (en_cons (ev_new (ef_lc (own := [("_law_row", 2)]) co.calm sc.nd  (ei_of (ev_call (K__law_rows.mono (by decide)) co tk g__law_rows F__law_rows.kp b__law_rows (eq_val (ev_var (pv 0)) eq_nil))) (blkOk_of (by kernel_rfl)) (fun _ _ _ _ _ => (eg_name (pg_name sc.nd (i := 2) rfl (by first | exact .inl rfl | exact .inr rfl)))) (fun _ _ _ _ _ => (ets_one (et_cmp (op_neM (co.blk _ _ _ _ _).hr.units) s_ne (ev_new (ef_lc (own := [("_law_each", 3)]) (co.blk _ _ _ _ _).calm sc.nd  (ei_of (ev_var (pv 1))) (blkOk_of (by kernel_rfl)) (fun _ _ _ _ _ => (eg_name (pg_name sc.nd (i := 3) rfl (by first | exact .inl rfl | exact .inr rfl)))) (fun _ _ _ _ _ => (ets_one (et_tru (ev_call (K__law_over.mono (by decide)) ((co.blk _ _ _ _ _).blk _ _ _ _ _) (takes0 _) g__law_over F__law_over.kp b__law_over (eq_val (ev_var (pv 2)) (eq_val (ev_var (pv 3)) eq_nil)))))) (fun _ _ _ _ _ => (ev_var (pv 3))) (by decide))) (ev_lst en_nil) (by first | exact nomark _ | rfl)))) (fun _ _ _ _ _ => (ev_var (pv 2))) (by decide))) en_nil))))
theorem ok_is_row (KX : K.In h) (G : h.Ns mainGlobals mg) (c : SaysP fa fn ps ex K) (F : Fun K "is_row" "is_row" s_is_row f fd) : FnG P w K mg base 1 f fd ["value", "many"] (spM K 2 Cm.m_is_row_2) := by
  have n_all_ := He.free_ok KX G (c.fact 25 (f := .free "all") rfl)
  have n_isinstance_ := He.free_ok KX G (c.fact 29 (f := .free "isinstance") rfl)
  have n_len_ := He.free_ok KX G (c.fact 30 (f := .free "len") rfl)
  have n_str_ := He.free_ok KX G (c.fact 37 (f := .free "str") rfl)
  obtain ⟨t_SIGNS, g_SIGNS⟩ := He.str_ok KX G (c.fact 43 (f := .str "SIGNS" "01") rfl)
  have sc : FnScope N_is_row ["value", "many"] (defScope s_is_row) := ⟨rfl, rfl, rfl, by decide +kernel, rfl, by decide +kernel, by decide +kernel⟩
  exact okM (k := 0) F sc fun cdv A outer s H E W co tk =>
  (es_one (es_ret (ev_and (ev_isi is_str (ev_var (pv 0)) (pe_bltn rfl n_str_ (by decide +kernel) rfl) rfl n_isinstance_) (ev_and (ev_cmp (op_eqM co.hr.units) s_eq (ev_b cr_len n_len n_len_ (en_cons (ev_var (pv 0)) en_nil)) (ev_var (pv 1)) (by first | exact nomark _ | rfl)) (ev_last (ev_b (cr_all co.calm) n_all n_all_ (en_cons (ev_new (ef_lc (own := [("sign", 2)]) co.calm sc.nd  (ei_of (ev_var (pv 0))) (blkOk_of (by kernel_rfl)) (fun _ _ _ _ _ => (eg_name (pg_name sc.nd (i := 2) rfl (by first | exact .inl rfl | exact .inr rfl)))) (fun _ _ _ _ _ => ets_nil) (fun _ _ _ _ _ => (ev_cmp (op_inM (hu_of (co.blk _ _ _ _ _).hr)) s_in (ev_var (pv 2)) (ev_c (d := (.str "01")) (pe_glob (v := .str "01") rfl g_SIGNS ⟨_, rfl⟩) rfl) (by first | exact nomark _ | rfl))) (by decide))) en_nil)))))))
theorem ok_wrong_in_lot (KX : K.In h) (G : h.Ns mainGlobals mg) (c : SaysP fa fn ps ex K) (F : Fun K "wrong_in_lot" "wrong_in_lot" s_wrong_in_lot f fd) : FnG P w K mg base 2 f fd ["value", "many"] (spM K 2 Cm.m_wrong_in_lot_2) := by
  have n_enumerate_ := He.free_ok KX G (c.fact 27 (f := .free "enumerate") rfl)
  have g_is_row := He.glo_ok KX G (c.fact 12 (f := .glo "is_row") rfl)
  obtain ⟨fd_is_row, F_is_row⟩ := c.def_ 12 (d := d_is_row) rfl
  replace F_is_row : Fun K "is_row" "is_row" s_is_row _ fd_is_row := fun_of_D F_is_row
  have K_is_row := ok_is_row (P := P) (w := w) (mg := mg) (base := base) KX G c F_is_row
  have b_is_row : Binds K fd_is_row ["value", "many"] [] := F_is_row.binds fun _ _ _ _ _ _ us hl => match us, hl with | [_, _], _ => rfl
  have sc : FnScope N_wrong_in_lot ["value", "many"] (defScope s_wrong_in_lot) := ⟨rfl, rfl, rfl, by decide +kernel, rfl, by decide +kernel, by decide +kernel⟩
  exact okM (k := 1) F sc fun cdv A outer s H E W co tk =>
  (es_cons (es_for (passes_of rfl) co.calm (ei_enum rfl n_enumerate_ (en_cons (ev_var (pv 0)) en_nil)) (eg_unp (n := 2) co.calm (eg_cons (eg_name (pg_name sc.nd (i := 2) rfl (by first | exact .inl rfl | exact .inr rfl))) (eg_cons (eg_name (pg_name sc.nd (i := 3) rfl (by first | exact .inl rfl | exact .inr rfl))) eg_nil))) (es_one (es_if (et_w (ew_or (et_not (et_tru (ev_call (K_is_row.mono (by decide)) co tk g_is_row F_is_row.kp b_is_row (eq_val (ev_var (pv 3)) (eq_val (ev_var (pv 1)) eq_nil))))) (ew_or1 (et_w (ew_and (et_cmp op_gtM s_ord (ev_var (pv 2)) (ev_c (d := .int 0) pe_int rfl) (by first | exact nomark _ | rfl)) (ew_and1 (et_cmp op_leM s_ord (ev_var (pv 3)) (ev_ix co (ev_var (pv 0)) (ev_op op_sub s_sub (ev_var (pv 2)) (ev_c (d := .int 1) pe_int rfl))) (by first | exact nomark _ | rfl)))))))) (es_one (es_ret (ev_var (pv 2)))) es_nil)))
  (es_one (es_ret (ev_c (d := .non) pe_non rfl))))
theorem ok_check_lot (KX : K.In h) (G : h.Ns mainGlobals mg) (c : SaysP fa fn ps ex K) (F : Fun K "check_lot" "check_lot" s_check_lot f fd) : FnG P w K mg base 3 f fd ["value", "many"] (spM K 2 Cm.m_check_lot_2) := by
  have n_isinstance_ := He.free_ok KX G (c.fact 29 (f := .free "isinstance") rfl)
  have n_tuple_ := He.free_ok KX G (c.fact 38 (f := .free "tuple") rfl)
  have g_InvalidLot := He.glo_ok KX G (c.fact 22 (f := .glo "InvalidLot") rfl)
  have ex0 : ex K = true := c.more
  simp only [ex, Bool.and_eq_true] at ex0
  obtain ⟨⟨⟨kt0, e_xi_InvalidLot⟩, e_xi_InvalidMarks⟩, _⟩ := ex0
  have kt : Kits K [] := ⟨kt0⟩
  have xi_InvalidLot := xiB_ok e_xi_InvalidLot
  obtain ⟨fd_InvalidLot, F_InvalidLot⟩ := c.def_ 22 (d := d_InvalidLot___init__) rfl
  replace F_InvalidLot : Fun K "__init__" "InvalidLot.__init__" s_InvalidLot___init__ _ fd_InvalidLot := fun_of_D F_InvalidLot
  have I_InvalidLot := ok_InvalidLot___init__ (P := P) (w := w) (mg := mg) (base := base) F_InvalidLot
  have bI_InvalidLot : Binds K fd_InvalidLot ["self", "index"] [] := F_InvalidLot.binds fun _ _ _ _ _ _ us hl => match us, hl with | [_, _], _ => rfl
  have g_wrong_in_lot := He.glo_ok KX G (c.fact 13 (f := .glo "wrong_in_lot") rfl)
  obtain ⟨fd_wrong_in_lot, F_wrong_in_lot⟩ := c.def_ 13 (d := d_wrong_in_lot) rfl
  replace F_wrong_in_lot : Fun K "wrong_in_lot" "wrong_in_lot" s_wrong_in_lot _ fd_wrong_in_lot := fun_of_D F_wrong_in_lot
  have K_wrong_in_lot := ok_wrong_in_lot (P := P) (w := w) (mg := mg) (base := base) KX G c F_wrong_in_lot
  have b_wrong_in_lot : Binds K fd_wrong_in_lot ["value", "many"] [] := F_wrong_in_lot.binds fun _ _ _ _ _ _ us hl => match us, hl with | [_, _], _ => rfl
  have sc : FnScope N_check_lot ["value", "many"] (defScope s_check_lot) := ⟨rfl, rfl, rfl, by decide +kernel, rfl, by decide +kernel, by decide +kernel⟩
  exact okM (k := 2) F sc fun cdv A outer s H E W co tk =>
  (es_cons (es_if (et_not (et_tru (ev_isi is_tup (ev_var (pv 0)) (pe_bltn rfl n_tuple_ (by decide +kernel) rfl) rfl n_isinstance_))) (es_one (es_raise xi_InvalidLot I_InvalidLot (co.mono (by decide)) tk bI_InvalidLot g_InvalidLot (ev_c (d := .non) pe_non rfl))) es_nil)
  (es_cons (es_set (i := 2) (ev_call (K_wrong_in_lot.mono (by decide)) co tk g_wrong_in_lot F_wrong_in_lot.kp b_wrong_in_lot (eq_val (ev_var (pv 0)) (eq_val (ev_var (pv 1)) eq_nil))) sc.nd rfl (by first | exact .inl rfl | exact .inr rfl))
  (es_one (es_if (et_cmp op_notN s_notN (ev_var (pv 2)) (ev_c (d := .non) pe_non rfl) (by first | exact nomark _ | rfl)) (es_one (es_raise xi_InvalidLot I_InvalidLot (co.mono (by decide)) tk bI_InvalidLot g_InvalidLot (ev_var (pv 2)))) es_nil))))
theorem ok_is_over (KX : K.In h) (G : h.Ns mainGlobals mg) (c : SaysP fa fn ps ex K) (F : Fun K "is_over" "is_over" s_is_over f fd) : FnG P w K mg base 1 f fd ["row", "other"] (spM K 2 Cm.m_is_over) := by
  have n_all_ := He.free_ok KX G (c.fact 25 (f := .free "all") rfl)
  have n_zip_ := He.free_ok KX G (c.fact 39 (f := .free "zip") rfl)
  have sc : FnScope N_is_over ["row", "other"] (defScope s_is_over) := ⟨rfl, rfl, rfl, by decide +kernel, rfl, by decide +kernel, by decide +kernel⟩
  exact okM (k := 0) F sc fun cdv A outer s H E W co tk =>
  (es_one (es_ret (ev_b (cr_all co.calm) n_all n_all_ (en_cons (ev_new (ef_lc (own := [("one", 2), ("two", 3)]) co.calm sc.nd  (ei_zip rfl n_zip_ (en_cons (ev_var (pv 0)) (en_cons (ev_var (pv 1)) en_nil))) (blkOk_of (by kernel_rfl)) (fun _ _ _ _ _ => (eg_unp (n := 2) (co.blk _ _ _ _ _).calm (eg_cons (eg_name (pg_name sc.nd (i := 2) rfl (by first | exact .inl rfl | exact .inr rfl))) (eg_cons (eg_name (pg_name sc.nd (i := 3) rfl (by first | exact .inl rfl | exact .inr rfl))) eg_nil)))) (fun _ _ _ _ _ => ets_nil) (fun _ _ _ _ _ => (ev_cmp op_geM s_ord (ev_var (pv 2)) (ev_var (pv 3)) (by first | exact nomark _ | rfl))) (by decide))) en_nil))))
theorem ok_all_rows (KX : K.In h) (G : h.Ns mainGlobals mg) (c : SaysP fa fn ps ex K) (F : Fun K "all_rows" "all_rows" s_all_rows f fd) : FnG P w K mg base 1 f fd ["many"] (spM K 1 Cm.m_all_rows) := by
  have n_range_ := He.free_ok KX G (c.fact 34 (f := .free "range") rfl)
  obtain ⟨t_SIGNS, g_SIGNS⟩ := He.str_ok KX G (c.fact 43 (f := .str "SIGNS" "01") rfl)
  have sc : FnScope N_all_rows ["many"] (defScope s_all_rows) := ⟨rfl, rfl, rfl, by decide +kernel, rfl, by decide +kernel, by decide +kernel⟩
  exact okM (k := 0) F sc fun cdv A outer s H E W co tk =>
  (es_cons (es_set (i := 1) (ev_lst (en_cons (ev_c (d := .str "") pe_str rfl) en_nil)) sc.nd rfl (by first | exact .inl rfl | exact .inr rfl))
  (es_cons (es_for (passes_of rfl) co.calm (ei_rng1 rfl n_range_ (en_cons (ev_var (pv 0)) en_nil)) (eg_name (pg_name sc.nd (i := 2) rfl (by first | exact .inl rfl | exact .inr rfl))) (es_one (es_setLc2V (i := 1) (own := [("head", 3), ("sign", 4)]) (vs1 := [4]) co.calm sc.nd rfl rfl (sw_true rfl rfl rfl (by decide +kernel))  (ei_of (ev_var (pv 1))) (blkOk_of (by kernel_rfl)) (by decide) (fun _ _ _ _ _ => (eg_name (pg_name sc.nd (i := 3) rfl (by first | exact .inl rfl | exact .inr rfl)))) (fun _ _ _ _ _ => ets_nil) (fun _ _ _ _ _ => (ei_of (ev_c (d := (.str "01")) (pe_glob (v := .str "01") rfl g_SIGNS ⟨_, rfl⟩) rfl))) (fun _ _ _ _ _ => (eg_name (pg_name sc.nd (i := 4) rfl (by first | exact .inl rfl | exact .inr rfl)))) (fun _ _ _ _ _ => ets_nil) (fun _ _ _ _ _ => (ev_op op_addM s_add (ev_var (pv 3)) (ev_var (pv 4)))) (by decide) (by decide))))
  (es_one (es_ret (ev_var (pv 1))))))
theorem ok_lacking_row (KX : K.In h) (G : h.Ns mainGlobals mg) (c : SaysP fa fn ps ex K) (F : Fun K "lacking_row" "lacking_row" s_lacking_row f fd) : FnG P w K mg base 2 f fd ["lot", "many"] (spM K 2 Cm.m_lacking_row) := by
  have n_any_ := He.free_ok KX G (c.fact 26 (f := .free "any") rfl)
  have g_all_rows := He.glo_ok KX G (c.fact 16 (f := .glo "all_rows") rfl)
  obtain ⟨fd_all_rows, F_all_rows⟩ := c.def_ 16 (d := d_all_rows) rfl
  replace F_all_rows : Fun K "all_rows" "all_rows" s_all_rows _ fd_all_rows := fun_of_D F_all_rows
  have K_all_rows := ok_all_rows (P := P) (w := w) (mg := mg) (base := base) KX G c F_all_rows
  have b_all_rows : Binds K fd_all_rows ["many"] [] := F_all_rows.binds fun _ _ _ _ _ _ us hl => match us, hl with | [_], _ => rfl
  have g_is_over := He.glo_ok KX G (c.fact 15 (f := .glo "is_over") rfl)
  obtain ⟨fd_is_over, F_is_over⟩ := c.def_ 15 (d := d_is_over) rfl
  replace F_is_over : Fun K "is_over" "is_over" s_is_over _ fd_is_over := fun_of_D F_is_over
  have K_is_over := ok_is_over (P := P) (w := w) (mg := mg) (base := base) KX G c F_is_over
  have b_is_over : Binds K fd_is_over ["row", "other"] [] := F_is_over.binds fun _ _ _ _ _ _ us hl => match us, hl with | [_, _], _ => rfl
  have sc : FnScope N_lacking_row ["lot", "many"] (defScope s_lacking_row) := ⟨rfl, rfl, rfl, by decide +kernel, rfl, by decide +kernel, by decide +kernel⟩
  exact okM (k := 1) F sc fun cdv A outer s H E W co tk =>
  (es_cons (es_for (passes_of rfl) co.calm (ei_of (ev_var (pv 0))) (eg_name (pg_name sc.nd (i := 2) rfl (by first | exact .inl rfl | exact .inr rfl))) (es_one (es_if (et_tru (ev_b (cr_any co.calm) n_any n_any_ (en_cons (ev_new (ef_lc (own := [("other", 3)]) co.calm sc.nd  (ei_of (ev_call (K_all_rows.mono (by decide)) co tk g_all_rows F_all_rows.kp b_all_rows (eq_val (ev_var (pv 1)) eq_nil))) (blkOk_of (by kernel_rfl)) (fun _ _ _ _ _ => (eg_name (pg_name sc.nd (i := 3) rfl (by first | exact .inl rfl | exact .inr rfl)))) (fun _ _ _ _ _ => ets_nil) (fun _ _ _ _ _ => (ev_and (ev_call (K_is_over.mono (by decide)) (co.blk _ _ _ _ _) (takes0 _) g_is_over F_is_over.kp b_is_over (eq_val (ev_var (pv 3)) (eq_val (ev_var (pv 2)) eq_nil))) (ev_last (ev_cmp (op_notInM (hu_of (co.blk _ _ _ _ _).hr)) s_notIn (ev_var (pv 3)) (ev_var (pv 0)) (by first | exact nomark _ | rfl))))) (by decide))) en_nil))) (es_one (es_ret (ev_var (pv 2)))) es_nil)))
  (es_one (es_ret (ev_c (d := .non) pe_non rfl))))
theorem ok_is_rising (KX : K.In h) (G : h.Ns mainGlobals mg) (c : SaysP fa fn ps ex K) (F : Fun K "is_rising" "is_rising" s_is_rising f fd) : FnG P w K mg base 4 f fd ["marks", "one"] (spM K 2 Cm.m_is_rising) := by
  have n_len_ := He.free_ok KX G (c.fact 30 (f := .free "len") rfl)
  have g_check_lot := He.glo_ok KX G (c.fact 14 (f := .glo "check_lot") rfl)
  obtain ⟨fd_check_lot, F_check_lot⟩ := c.def_ 14 (d := d_check_lot) rfl
  replace F_check_lot : Fun K "check_lot" "check_lot" s_check_lot _ fd_check_lot := fun_of_D F_check_lot
  have K_check_lot := ok_check_lot (P := P) (w := w) (mg := mg) (base := base) KX G c F_check_lot
  have b_check_lot : Binds K fd_check_lot ["value", "many"] [] := F_check_lot.binds fun _ _ _ _ _ _ us hl => match us, hl with | [_, _], _ => rfl
  have g_check_marks := He.glo_ok KX G (c.fact 4 (f := .glo "check_marks") rfl)
  obtain ⟨fd_check_marks, F_check_marks⟩ := c.def_ 4 (d := d_check_marks) rfl
  replace F_check_marks : Fun K "check_marks" "check_marks" s_check_marks _ fd_check_marks := fun_of_D F_check_marks
  have K_check_marks := ok_check_marks (P := P) (w := w) (mg := mg) (base := base) KX G c F_check_marks
  have b_check_marks : Binds K fd_check_marks ["marks"] [] := F_check_marks.binds fun _ _ _ _ _ _ us hl => match us, hl with | [_], _ => rfl
  have g_lacking_row := He.glo_ok KX G (c.fact 17 (f := .glo "lacking_row") rfl)
  obtain ⟨fd_lacking_row, F_lacking_row⟩ := c.def_ 17 (d := d_lacking_row) rfl
  replace F_lacking_row : Fun K "lacking_row" "lacking_row" s_lacking_row _ fd_lacking_row := fun_of_D F_lacking_row
  have K_lacking_row := ok_lacking_row (P := P) (w := w) (mg := mg) (base := base) KX G c F_lacking_row
  have b_lacking_row : Binds K fd_lacking_row ["lot", "many"] [] := F_lacking_row.binds fun _ _ _ _ _ _ us hl => match us, hl with | [_, _], _ => rfl
  have sc : FnScope N_is_rising ["marks", "one"] (defScope s_is_rising) := ⟨rfl, rfl, rfl, by decide +kernel, rfl, by decide +kernel, by decide +kernel⟩
  exact okM (k := 3) F sc fun cdv A outer s H E W co tk =>
  (es_cons (es_expr (ev_call (K_check_marks.mono (by decide)) co tk g_check_marks F_check_marks.kp b_check_marks (eq_val (ev_var (pv 0)) eq_nil)))
  (es_cons (es_expr (ev_call (K_check_lot.mono (by decide)) co tk g_check_lot F_check_lot.kp b_check_lot (eq_val (ev_var (pv 1)) (eq_val (ev_b cr_len n_len n_len_ (en_cons (ev_var (pv 0)) en_nil)) eq_nil))))
  (es_one (es_ret (ev_cmp op_isN s_isN (ev_call (K_lacking_row.mono (by decide)) co tk g_lacking_row F_lacking_row.kp b_lacking_row (eq_val (ev_var (pv 1)) (eq_val (ev_b cr_len n_len n_len_ (en_cons (ev_var (pv 0)) en_nil)) eq_nil))) (ev_c (d := .non) pe_non rfl) (by first | exact nomark _ | rfl))))))
theorem ok_law_right (KX : K.In h) (G : h.Ns mainGlobals mg) (c : SaysP fa fn ps ex K) (F : Fun K "_law_right" "_law_right" s_law_right f fd) : FnG P w K mg base 5 f fd ["_law_bag_here"] (spM K 1 m_law_right) := by
  have n_len_ := He.free_ok KX G (c.fact 30 (f := .free "len") rfl)
  have n_list_ := He.free_ok KX G (c.fact 31 (f := .free "list") rfl)
  have n_range_ := He.free_ok KX G (c.fact 34 (f := .free "range") rfl)
  have n_set_ := He.free_ok KX G (c.fact 35 (f := .free "set") rfl)
  have n_sorted_ := He.free_ok KX G (c.fact 36 (f := .free "sorted") rfl)
  have n_tuple_ := He.free_ok KX G (c.fact 38 (f := .free "tuple") rfl)
  have g__law_draw := He.glo_ok KX G (c.fact 0 (f := .glo "_law_draw") rfl)
  obtain ⟨fd__law_draw, F__law_draw⟩ := c.def_ 0 (d := d_law_draw) rfl
  replace F__law_draw : Fun K "_law_draw" "_law_draw" s_law_draw _ fd__law_draw := fun_of_D F__law_draw
  have K__law_draw := ok_law_draw (P := P) (w := w) (mg := mg) (base := base) KX G c F__law_draw
  have b__law_draw : Binds K fd__law_draw ["_law_bag_here", "_law_wide"] [] := F__law_draw.binds fun _ _ _ _ _ _ us hl => match us, hl with | [_, _], _ => rfl
  have g__law_lot := He.glo_ok KX G (c.fact 9 (f := .glo "_law_lot") rfl)
  obtain ⟨fd__law_lot, F__law_lot⟩ := c.def_ 9 (d := d_law_lot) rfl
  replace F__law_lot : Fun K "_law_lot" "_law_lot" s_law_lot _ fd__law_lot := fun_of_D F__law_lot
  have K__law_lot := ok_law_lot (P := P) (w := w) (mg := mg) (base := base) KX G c F__law_lot
  have b__law_lot : Binds K fd__law_lot ["_law_bag_here", "_law_many"] [] := F__law_lot.binds fun _ _ _ _ _ _ us hl => match us, hl with | [_, _], _ => rfl
  have g__law_marks := He.glo_ok KX G (c.fact 1 (f := .glo "_law_marks") rfl)
  obtain ⟨fd__law_marks, F__law_marks⟩ := c.def_ 1 (d := d_law_marks) rfl
  replace F__law_marks : Fun K "_law_marks" "_law_marks" s_law_marks _ fd__law_marks := fun_of_D F__law_marks
  have K__law_marks := ok_law_marks (P := P) (w := w) (mg := mg) (base := base) KX G c F__law_marks
  have b__law_marks : Binds K fd__law_marks ["_law_bag_here", "_law_many"] [] := F__law_marks.binds fun _ _ _ _ _ _ us hl => match us, hl with | [_, _], _ => rfl
  have g__law_one := He.glo_ok KX G (c.fact 7 (f := .glo "_law_one") rfl)
  obtain ⟨fd__law_one, F__law_one⟩ := c.def_ 7 (d := d_law_one) rfl
  replace F__law_one : Fun K "_law_one" "_law_one" s_law_one _ fd__law_one := fun_of_D F__law_one
  have K__law_one := ok_law_one (P := P) (w := w) (mg := mg) (base := base) KX G c F__law_one
  have b__law_one : Binds K fd__law_one ["_law_bag_here", "_law_some"] [] := F__law_one.binds fun _ _ _ _ _ _ us hl => match us, hl with | [_, _], _ => rfl
  have g__law_risen := He.glo_ok KX G (c.fact 11 (f := .glo "_law_risen") rfl)
  obtain ⟨fd__law_risen, F__law_risen⟩ := c.def_ 11 (d := d_law_risen) rfl
  replace F__law_risen : Fun K "_law_risen" "_law_risen" s_law_risen _ fd__law_risen := fun_of_D F__law_risen
  have K__law_risen := ok_law_risen (P := P) (w := w) (mg := mg) (base := base) KX G c F__law_risen
  have b__law_risen : Binds K fd__law_risen ["_law_many", "_law_rows_here"] [] := F__law_risen.binds fun _ _ _ _ _ _ us hl => match us, hl with | [_, _], _ => rfl
  have g__law_rows := He.glo_ok KX G (c.fact 8 (f := .glo "_law_rows") rfl)
  obtain ⟨fd__law_rows, F__law_rows⟩ := c.def_ 8 (d := d_law_rows) rfl
  replace F__law_rows : Fun K "_law_rows" "_law_rows" s_law_rows _ fd__law_rows := fun_of_D F__law_rows
  have K__law_rows := ok_law_rows (P := P) (w := w) (mg := mg) (base := base) KX G c F__law_rows
  have b__law_rows : Binds K fd__law_rows ["_law_many"] [] := F__law_rows.binds fun _ _ _ _ _ _ us hl => match us, hl with | [_], _ => rfl
  have g_all_rising := He.glo_ok KX G (c.fact 6 (f := .glo "all_rising") rfl)
  obtain ⟨fd_all_rising, F_all_rising⟩ := c.def_ 6 (d := d_all_rising) rfl
  replace F_all_rising : Fun K "all_rising" "all_rising" s_all_rising _ fd_all_rising := fun_of_D F_all_rising
  have K_all_rising := ok_all_rising (P := P) (w := w) (mg := mg) (base := base) KX G c F_all_rising
  have b_all_rising : Binds K fd_all_rising ["marks"] [] := F_all_rising.binds fun _ _ _ _ _ _ us hl => match us, hl with | [_], _ => rfl
  have g_is_rising := He.glo_ok KX G (c.fact 18 (f := .glo "is_rising") rfl)
  obtain ⟨fd_is_rising, F_is_rising⟩ := c.def_ 18 (d := d_is_rising) rfl
  replace F_is_rising : Fun K "is_rising" "is_rising" s_is_rising _ fd_is_rising := fun_of_D F_is_rising
  have K_is_rising := ok_is_rising (P := P) (w := w) (mg := mg) (base := base) KX G c F_is_rising
  have b_is_rising : Binds K fd_is_rising ["marks", "one"] [] := F_is_rising.binds fun _ _ _ _ _ _ us hl => match us, hl with | [_, _], _ => rfl
  have sc : FnScope N_law_right ["_law_bag_here"] (defScope s_law_right) := ⟨rfl, rfl, rfl, by decide +kernel, rfl, by decide +kernel, by decide +kernel⟩
  exact okM (k := 4) F sc fun cdv A outer s H E W co tk =>
  (es_cons (es_set (i := 1) (ev_call (K__law_marks.mono (by decide)) co tk g__law_marks F__law_marks.kp b__law_marks (eq_io (pv 0) (eq_val (ev_op op_addM s_add (ev_c (d := .int 1) pe_int rfl) (ev_call (K__law_draw.mono (by decide)) co tk g__law_draw F__law_draw.kp b__law_draw (eq_io (pv 0) (eq_val (ev_c (d := .int 4) pe_int rfl) eq_nil)))) eq_nil))) sc.nd rfl (by first | exact .inl rfl | exact .inr rfl))
  (es_cons (es_par2 (i := 2) (j := 3) (fun ta h => ps_par co.calm sc.nd rfl rfl (by decide) rfl rfl h rfl) (en_cons (ev_b cr_len n_len n_len_ (en_cons (ev_var (pv 1)) en_nil)) (en_cons (ev_call (K_all_rising.mono (by decide)) co tk g_all_rising F_all_rising.kp b_all_rising (eq_val (ev_var (pv 1)) eq_nil)) en_nil)))
  (es_cons (es_if (et_w (ew_or (et_cmp (op_neM co.hr.units) s_ne (ev_t call_list_of n_list n_list_ (en_cons (ev_var (pv 3)) en_nil)) (ev_b (cr_sortX co.calm co.hr.units) n_sortX n_sorted_ (en_cons (ev_var (pv 3)) en_nil)) (by first | exact nomark _ | rfl)) (ew_or1 (et_cmp (op_neM co.hr.units) s_ne (ev_lenS co.calm co.hr.units n_len_ n_set_ (ev_var (pv 3))) (ev_b cr_len n_len n_len_ (en_cons (ev_var (pv 3)) en_nil)) (by first | exact nomark _ | rfl))))) (es_one (es_ret (ev_c (d := .bl false) pe_bl rfl))) es_nil)
  (es_cons (es_for (passes_of rfl) co.calm (ei_rng1 rfl n_range_ (en_cons (ev_c (d := .int 8) pe_int rfl) en_nil)) (eg_name (pg_name sc.nd (i := 4) rfl (by first | exact .inl rfl | exact .inr rfl))) (es_cons (es_set (i := 5) (ev_call (K__law_lot.mono (by decide)) co tk g__law_lot F__law_lot.kp b__law_lot (eq_io (pv 0) (eq_val (ev_var (pv 2)) eq_nil))) sc.nd rfl (by first | exact .inl rfl | exact .inr rfl))
  (es_cons (es_set (i := 5) (ev_call (K__law_one.mono (by decide)) co tk g__law_one F__law_one.kp b__law_one (eq_io (pv 0) (eq_val (ev_lst (en_cons (ev_var (pv 5)) (en_cons (ev_call (K__law_risen.mono (by decide)) co tk g__law_risen F__law_risen.kp b__law_risen (eq_val (ev_var (pv 2)) (eq_val (ev_sl (ev_var (pv 5)) eo_none (eo_some (ev_c (d := .int 3) pe_int rfl))) eq_nil))) en_nil))) eq_nil))) sc.nd rfl (by first | exact .inl rfl | exact .inr rfl))
  (es_cons (es_if (et_w (ew_or (et_cmp (op_neM co.hr.units) s_ne (ev_cmp (op_inTt (hu65 co.hr)) s_inTt (ev_var (pv 5)) (ev_var (pv 3)) (by first | exact nomark _ | rfl)) (ev_cmp (op_eqM co.hr.units) s_eq (ev_var (pv 5)) (ev_call (K__law_risen.mono (by decide)) co tk g__law_risen F__law_risen.kp b__law_risen (eq_val (ev_var (pv 2)) (eq_val (ev_var (pv 5)) eq_nil))) (by first | exact nomark _ | rfl)) (by first | exact nomark _ | rfl)) (ew_or1 (et_cmp (op_neM co.hr.units) s_ne (ev_cmp (op_inTt (hu65 co.hr)) s_inTt (ev_var (pv 5)) (ev_var (pv 3)) (by first | exact nomark _ | rfl)) (ev_call (K_is_rising.mono (by decide)) co tk g_is_rising F_is_rising.kp b_is_rising (eq_val (ev_var (pv 1)) (eq_val (ev_var (pv 5)) eq_nil))) (by first | exact nomark _ | rfl))))) (es_one (es_ret (ev_c (d := .bl false) pe_bl rfl))) es_nil)
  (es_cons (es_asg (ev_tup (en_cons (ev_call (K__law_one.mono (by decide)) co tk g__law_one F__law_one.kp b__law_one (eq_io (pv 0) (eq_val (ev_var (pv 3)) eq_nil))) (en_cons (ev_call (K__law_one.mono (by decide)) co tk g__law_one F__law_one.kp b__law_one (eq_io (pv 0) (eq_val (ev_var (pv 3)) eq_nil))) en_nil))) (eg_unp (n := 2) co.calm (eg_cons (eg_name (pg_name sc.nd (i := 6) rfl (by first | exact .inl rfl | exact .inr rfl))) (eg_cons (eg_name (pg_name sc.nd (i := 7) rfl (by first | exact .inl rfl | exact .inr rfl))) eg_nil))))
  (es_cons (es_set (i := 8) (ev_t call_tuple_ofU n_tuple n_tuple_ (en_cons (ev_new (ef_lc (own := [("_law_row", 10)]) co.calm sc.nd  (ei_of (ev_var (pv 6))) (blkOk_of (by kernel_rfl)) (fun _ _ _ _ _ => (eg_name (pg_name sc.nd (i := 10) rfl (by first | exact .inl rfl | exact .inr rfl)))) (fun _ _ _ _ _ => (ets_one (et_cmp (op_inM (hu_of (co.blk _ _ _ _ _).hr)) s_in (ev_var (pv 10)) (ev_var (pv 7)) (by first | exact nomark _ | rfl)))) (fun _ _ _ _ _ => (ev_var (pv 10))) (by decide))) en_nil)) sc.nd rfl (by first | exact .inl rfl | exact .inr rfl))
  (es_cons (es_set (i := 9) (ev_t call_tuple_ofU n_tuple n_tuple_ (en_cons (ev_new (ef_lc (own := [("_law_row", 10)]) co.calm sc.nd  (ei_of (ev_call (K__law_rows.mono (by decide)) co tk g__law_rows F__law_rows.kp b__law_rows (eq_val (ev_var (pv 2)) eq_nil))) (blkOk_of (by kernel_rfl)) (fun _ _ _ _ _ => (eg_name (pg_name sc.nd (i := 10) rfl (by first | exact .inl rfl | exact .inr rfl)))) (fun _ _ _ _ _ => (ets_one (et_w (ew_or (et_cmp (op_inM (hu_of (co.blk _ _ _ _ _).hr)) s_in (ev_var (pv 10)) (ev_var (pv 6)) (by first | exact nomark _ | rfl)) (ew_or1 (et_cmp (op_inM (hu_of (co.blk _ _ _ _ _).hr)) s_in (ev_var (pv 10)) (ev_var (pv 7)) (by first | exact nomark _ | rfl))))))) (fun _ _ _ _ _ => (ev_var (pv 10))) (by decide))) en_nil)) sc.nd rfl (by first | exact .inl rfl | exact .inr rfl))
  (es_one (es_if (et_w (ew_or (et_cmp (op_notInTt (hu65 co.hr)) s_notInTt (ev_var (pv 8)) (ev_var (pv 3)) (by first | exact nomark _ | rfl)) (ew_or (et_cmp (op_notInTt (hu65 co.hr)) s_notInTt (ev_var (pv 9)) (ev_var (pv 3)) (by first | exact nomark _ | rfl)) (ew_or1 (et_cmp (op_neM co.hr.units) s_ne (ev_var (pv 6)) (ev_call (K__law_risen.mono (by decide)) co tk g__law_risen F__law_risen.kp b__law_risen (eq_val (ev_var (pv 2)) (eq_val (ev_var (pv 6)) eq_nil))) (by first | exact nomark _ | rfl)))))) (es_one (es_ret (ev_c (d := .bl false) pe_bl rfl))) es_nil)))))))))
  (es_one (es_ret (ev_c (d := .bl true) pe_bl rfl)))))))
theorem ok_law_bag (KX : K.In h) (G : h.Ns mainGlobals mg) (c : SaysP fa fn ps ex K) (F : Fun K "_law_bag" "_law_bag" s_law_bag f fd) : FnG P w K mg base 1 f fd ["_law_script", "_law_k"] (spN K 2 Cm.m_law_bag) := by
  have n_abs_ := He.free_ok KX G (c.fact 24 (f := .free "abs") rfl)
  have n_int_ := He.free_ok KX G (c.fact 28 (f := .free "int") rfl)
  have n_len_ := He.free_ok KX G (c.fact 30 (f := .free "len") rfl)
  have sc : FnScope N_law_bag ["_law_script", "_law_k"] (defScope s_law_bag) := ⟨rfl, rfl, rfl, by decide +kernel, rfl, by decide +kernel, by decide +kernel⟩
  exact okN (k := 0) F sc fun cdv A outer s H E W co tk =>
  (sn_cons (es_par2 (i := 2) (j := 3) (fun ta h => ps_par co.calm sc.nd rfl rfl (by decide) rfl rfl h rfl) (en_cons (ev_if (et_cmp op_ltM s_ord (ev_var (pv 1)) (ev_b cr_len n_len n_len_ (en_cons (ev_var (pv 0)) en_nil)) (by first | exact nomark _ | rfl)) (ev_t cr_int n_int n_int_ (en_cons (ev_ix co (ev_var (pv 0)) (ev_var (pv 1))) en_nil)) (ev_c (d := .int 0) pe_int rfl)) (en_cons (ev_op op_mulM s_mul (ev_c (d := .int 99013) pe_int rfl) (ev_op op_addM s_add (ev_var (pv 1)) (ev_c (d := .int 5) pe_int rfl))) en_nil)))
  (sn_cons (es_for (passes_of rfl) co.calm (ei_of (ev_sl (ev_var (pv 0)) eo_none (eo_some (ev_c (d := .int 7) pe_int rfl)))) (eg_name (pg_name sc.nd (i := 4) rfl (by first | exact .inl rfl | exact .inr rfl))) (es_one (es_set (i := 3) (ev_op op_mod s_mod (ev_t cr_int n_int n_int_ (en_cons (ev_op op_addM s_add (ev_op op_addM s_add (ev_op op_mulM s_mul (ev_var (pv 3)) (ev_c (d := .int 51713) pe_int rfl)) (ev_op op_mod s_mod (ev_t cr_int n_int n_int_ (en_cons (ev_var (pv 4)) en_nil)) (ev_c (d := .int 1000121) pe_int rfl))) (ev_op op_mulM s_mul (ev_c (d := .int 17) pe_int rfl) (ev_var (pv 1)))) en_nil)) (ev_c (d := .int 2147483549) pe_int rfl)) sc.nd rfl (by first | exact .inl rfl | exact .inr rfl))))
  (sn_cons (es_set (i := 5) (ev_if (et_w (ew_or (et_cmp op_ltM s_ord (ev_var (pv 2)) (ev_c (d := .int 0) pe_int rfl) (by first | exact nomark _ | rfl)) (ew_or1 (et_cmp op_geM s_ord (ev_var (pv 2)) (ev_op op_pow s_pow (ev_c (d := .int 10) pe_int rfl) (ev_c (d := .int 15) pe_int rfl)) (by first | exact nomark _ | rfl))))) (ev_b call_abs n_abs n_abs_ (en_cons (ev_var (pv 2)) en_nil)) (ev_c (d := .int 0) pe_int rfl)) sc.nd rfl (by first | exact .inl rfl | exact .inr rfl))
  (sn_ret (ef_lst (en_cons (ev_var (pv 5)) (en_cons (ev_op op_mod s_mod (ev_t cr_int n_int n_int_ (en_cons (ev_op op_addM s_add (ev_var (pv 3)) (ev_op op_mulM s_mul (ev_c (d := .int 99991) pe_int rfl) (ev_op op_mod s_mod (ev_t cr_int n_int n_int_ (en_cons (ev_var (pv 2)) en_nil)) (ev_c (d := .int 999931) pe_int rfl)))) en_nil)) (ev_c (d := .int 2147483549) pe_int rfl)) (en_cons (ev_c (d := .int 0) pe_int rfl) en_nil))))))))
theorem ok_law (KX : K.In h) (G : h.Ns mainGlobals mg) (c : SaysP fa fn ps ex K) (F : Fun K "law" "law" s_law f fd) : FnG P w K mg base 6 f fd ["_law_script"] (spM K 1 m_law) := by
  have n_all_ := He.free_ok KX G (c.fact 25 (f := .free "all") rfl)
  have n_len_ := He.free_ok KX G (c.fact 30 (f := .free "len") rfl)
  have n_max_ := He.free_ok KX G (c.fact 32 (f := .free "max") rfl)
  have n_min_ := He.free_ok KX G (c.fact 33 (f := .free "min") rfl)
  have n_range_ := He.free_ok KX G (c.fact 34 (f := .free "range") rfl)
  have g__law_bag := He.glo_ok KX G (c.fact 20 (f := .glo "_law_bag") rfl)
  obtain ⟨fd__law_bag, F__law_bag⟩ := c.def_ 20 (d := d_law_bag) rfl
  replace F__law_bag : Fun K "_law_bag" "_law_bag" s_law_bag _ fd__law_bag := fun_of_D F__law_bag
  have K__law_bag := ok_law_bag (P := P) (w := w) (mg := mg) (base := base) KX G c F__law_bag
  have b__law_bag : Binds K fd__law_bag ["_law_script", "_law_k"] [] := F__law_bag.binds fun _ _ _ _ _ _ us hl => match us, hl with | [_, _], _ => rfl
  have g__law_right := He.glo_ok KX G (c.fact 19 (f := .glo "_law_right") rfl)
  obtain ⟨fd__law_right, F__law_right⟩ := c.def_ 19 (d := d_law_right) rfl
  replace F__law_right : Fun K "_law_right" "_law_right" s_law_right _ fd__law_right := fun_of_D F__law_right
  have K__law_right := ok_law_right (P := P) (w := w) (mg := mg) (base := base) KX G c F__law_right
  have b__law_right : Binds K fd__law_right ["_law_bag_here"] [] := F__law_right.binds fun _ _ _ _ _ _ us hl => match us, hl with | [_], _ => rfl
  have sc : FnScope N_law ["_law_script"] (defScope s_law) := ⟨rfl, rfl, rfl, by decide +kernel, rfl, by decide +kernel, by decide +kernel⟩
  exact okM (k := 5) F sc fun cdv A outer s H E W co tk =>
  (es_one (es_ret (ev_b (cr_all co.calm) n_all n_all_ (en_cons (ev_new (ef_lc (own := [("_law_k", 1)]) co.calm sc.nd  (ei_rng1 rfl n_range_ (en_cons (ev_b (call_maxB co.calm) n_best n_max_ (en_cons (ev_c (d := .int 2) pe_int rfl) (en_cons (ev_b (call_minB co.calm) n_best n_min_ (en_cons (ev_b cr_len n_len n_len_ (en_cons (ev_var (pv 0)) en_nil)) (en_cons (ev_c (d := .int 4) pe_int rfl) en_nil))) en_nil))) en_nil)) (blkOk_of (by kernel_rfl)) (fun _ _ _ _ _ => (eg_name (pg_name sc.nd (i := 1) rfl (by first | exact .inl rfl | exact .inr rfl)))) (fun _ _ _ _ _ => ets_nil) (fun _ _ _ _ _ => (ev_callF (K__law_right.mono (by decide)) (co.blk _ _ _ _ _) (takes0 _) g__law_right F__law_right.kp b__law_right (ef_call (K__law_bag.mono (by decide)) (co.blk _ _ _ _ _) (takes0 _) g__law_bag F__law_bag.kp b__law_bag (en_cons (ev_var (pv 0)) (en_cons (ev_var (pv 1)) en_nil))))) (by decide))) en_nil))))
end
end Lk08

set_option Elab.async false
set_option linter.all false
set_option maxRecDepth 100000
set_option maxHeartbeats 4000000
/-! Lk08p: all rising lots, plain -/
namespace Pl
open PySem Mi
def risF8 (n : Nat) : List D := sortF leD ((growD n).length + 1) (growD n)
theorem ris_F8 (n : Nat) : risL n = risF8 n := (sortF_eq _ _ _ (Nat.lt_succ_self _)).symm
theorem g_sort8 : ∀ n ∈ [1, 2, 3, 4], sortOk (risF8 n) = true ∧ sortF leD ((risF8 n).length + 1) (risF8 n) = risF8 n := by decide +kernel
theorem sort_ris8 {n : Nat} (hn : n ≤ 4) (h0 : 0 < n) : gSortX [.tup (risL n)] = some (.lst (risL n)) := by
  obtain ⟨h1, h2⟩ := g_sort8 n (one4 h0 hn)
  rw [← ris_F8] at h1 h2
  rw [sortF_eq _ _ _ (Nat.lt_succ_self _)] at h2
  show gSort [.tup (risL n)] = _
  simp only [gSort]
  rw [if_pos h1, h2]
theorem eqv_pL8 (a b : List Str) : PyData.eqv (pL a) (pL b) = decide (a = b) := by
  have := eqv_txs a b
  unfold pL
  rw [PyData.eqv, this]
theorem ris_rps8 {n : Nat} (hn : n ≤ 4) : Rps ((100 + 1) * (risS n).length) 1 (risL n) ((risS n).map pL) := by
  rw [ris_enc]
  exact Rps.all (fun a => D.tup (txs a)) pL (risS n) fun a ha => lot_rp hn (risS_lot hn ha)
theorem lot_in8 {n : Nat} (hn : n ≤ 4) {a : List Str} (ha : Lot n a) : gInTt (.tup (txs a)) (.tup (risL n)) = some (.bl (decide (a ∈ risS n))) ∧ gNotInTt (.tup (txs a)) (.tup (risL n)) = some (.bl (!decide (a ∈ risS n))) := by
  have r := ris_rps8 hn
  have la := lot_rp hn ha
  have e : inTBt (.tup (txs a)) (.tup (risL n)) = some (decide (a ∈ risS n)) := by
    unfold inTBt
    simp only [la.py, r.tup.py]
    rw [if_pos ⟨la.shaped (by omega), r.tup.shaped (by omega)⟩, List.any_map]
    congr 1
    rw [Bool.eq_iff_iff, List.any_eq_true, decide_eq_true_eq]
    constructor
    · rintro ⟨q, hq, h⟩
      have h : PyData.eqv (pL q) (pL a) = true := h
      rw [eqv_pL8, decide_eq_true_eq] at h
      rw [← h]
      exact hq
    · intro h
      refine ⟨a, h, ?_⟩
      show PyData.eqv (pL a) (pL a) = true
      rw [eqv_pL8]
      simp
  exact ⟨by rw [gInTt, e]; rfl, by rw [gNotInTt, e]; rfl⟩
theorem same8 {n : Nat} (hn : n ≤ 4) : gNe (.lst (risL n)) (.lst (risL n)) = some (.bl false) := ((ris_rps8 hn).lst.self (by omega) fun x h => by cases h).2
theorem risS_nd8 {n : Nat} (hn : n ≤ 4) : (risS n).Nodup := by
  have h : (risL n).Nodup := (List.mergeSort_perm _ _).nodup_iff.mpr (nd_map (fun _ _ => tup_inj) (g_grow4 n (four hn)).2.2)
  rw [ris_enc] at h
  have := List.pairwise_map.mp h
  exact this.imp fun {a b} q e => q (by rw [e])
theorem kyDs_txs : ∀ a : List Str, kyDs (txs a) = some (a.map Sum.inr)
  | [] => rfl
  | x :: a => by
    show kyDs (.str x :: txs a) = _
    simp [kyDs, kyD, kyDs_txs a]
theorem kyTs_map : ∀ L : List (List Str), kyTs (L.map fun a => D.tup (txs a)) = some (L.map fun a => a.map Sum.inr)
  | [] => rfl
  | a :: L => by
    have ih := kyTs_map L
    simp only [List.map_cons, kyTs, kyTD, kyDs_txs, ih, Option.bind_some, Option.map_some]
theorem lenS8 {n : Nat} (hn : n ≤ 4) : gLenS (.tup (risL n)) = some (.int ((risL n).length : Nat)) := by
  show lenS (risL n) = _
  rw [risL_len, ris_enc]
  unfold lenS
  rw [kyTs_map]
  have l := (ris_len4 hn).1
  have nd : ((risS n).map fun a => (a.map Sum.inr : List L2.Key)).Nodup := nd_map (fun _ _ => inr_inj) (risS_nd8 hn)
  simp only [Option.bind_some, List.length_map]
  rw [if_pos ⟨by omega, nd⟩]
theorem all_rising_ok8 {n : Nat} (hn : n ≤ 4) (h0 : 0 < n) {ms : List Str} (M : Names n ms) : Cm.m_all_rising [.v (.tup (txs ms))] = .ok (.tup (risL n)) [.v (.tup (txs ms))] := by
  have gl : gLen [.tup (txs ms)] = some (.int (n : Nat)) := by
    have : gLen [.tup (txs ms)] = some (.int ((txs ms).length : Nat)) := rfl
    rw [this, len_txs, M.1]
  have r := rising_lots_ok hn
  have h := check_marks_ok_2 M hn h0
  generalize risL n = R at r ⊢
  simp [↓bind_eq, Cm.m_all_rising, Cm.m_all_rising_b, mDef, h, gl, r, gTuple]
theorem ris_self8 {n : Nat} (hn : n ≤ 4) {a : List Str} (ha : a ∈ risS n) : a = risenS n a := (mem_ris hn (risS_lot hn ha)).mp ha
end Pl
namespace Lk08
open PySem Mi Pl
theorem turn {m n : Nat} {o : Ob} (hn : n ≤ 4) (h0 : 0 < n) {ms : List Str} (M : Names n ms) (B : Bag m o) (hm : m < 2 ^ 32) {s4 s5 s6 s7 s8 s9 : Sl} (h5 : isIoS s5 = false) (h6 : isIoS s6 = false) (h7 : isIoS s7 = false) (h8 : isIoS s8 = false) (h9 : isIoS s9 = false) :
    Wp m_law_right_f1 [.io o, .v (.tup (txs ms)), .v (.int (n : Nat)), .v (.tup (risL n)), s4, s5, s6, s7, s8, s9, .un] fun fl e => fl = .nx ∧ ∃ (o' : Ob) (s5 s6 s7 s8 s9 : Sl), e = [.io o', .v (.tup (txs ms)), .v (.int (n : Nat)), .v (.tup (risL n)), s4, s5, s6, s7, s8, s9, .un] ∧ isIoS s5 = false ∧ isIoS s6 = false ∧ isIoS s7 = false ∧ isIoS s8 = false ∧ isIoS s9 = false ∧ Bag (m + 20) o' := by
  obtain ⟨o1, lot, q1, B1, L⟩ := law_lot_ok B (by omega) hn
  have Lt : InR n (lot.take 3) := fun x hx => L.inR x (List.mem_of_mem_take hx)
  have q2 := law_risen_ok hn Lt (by have := L.len hn; simp; omega)
  have qs : gSl none (some 3) (.tup (txs lot)) = some (.tup (txs (lot.take 3))) := by rw [← take_txs]; exact gSl_to (txs lot) 3
  obtain ⟨o2, d, q3, B2, hd⟩ := one_lst B1 (by omega) [.tup (txs lot), .tup (txs (risenS n (lot.take 3)))] (by simp) (by simp)
  have hd2 : ∃ l2, d = .tup (txs l2) ∧ Lot n l2 := by
    simp only [List.mem_cons, List.mem_nil_iff, or_false] at hd
    rcases hd with rfl | rfl
    · exact ⟨lot, rfl, L⟩
    · exact ⟨_, rfl, risen_lot n _⟩
  obtain ⟨l2, rfl, L2⟩ := hd2
  have hl2 := L2.len hn
  have q4 := law_risen_ok hn L2.inR (by omega)
  have q5 := gEq_tt (a := l2) (b := risenS n l2) (L2.inR.ok hn) ((risen_in n l2).ok hn)
  have q6 := is_rising_ok M hn h0 L2
  have q7 := (lot_in8 hn L2).1
  have em : decide (l2 ∈ risS n) = decide (l2 = risenS n l2) := by rw [decide_eq_decide]; exact mem_ris hn L2
  rw [em] at q7
  have q8 : gNe (.bl (decide (l2 = risenS n l2))) (.bl (decide (l2 = risenS n l2))) = some (.bl false) := ((Rp.bl _).self (by omega) fun x h => by cases h).2
  have rl := ris_len4 hn
  have rL := risL_len n
  obtain ⟨o3, d1, q9, B3, m1⟩ := one_tup B2 (by omega) (risL n) (by omega) (by omega)
  obtain ⟨o4, d2, q10, B4, m2⟩ := one_tup B3 (by omega) (risL n) (by omega) (by omega)
  rw [ris_enc] at m1 m2
  obtain ⟨a, ha, rfl⟩ := List.mem_map.mp m1
  obtain ⟨b, hb, rfl⟩ := List.mem_map.mp m2
  have La := risS_lot hn ha
  have Lb := risS_lot hn hb
  have l1 := La.len hn
  have rw' := rows_len hn
  have c1 : ∀ s5 s8 s9 : Sl, lcL [10] (gSet 10) (tB1 (x2 gIn (xVar 10) (xVar 7))) (lcPush (xVar 10)) (txs a) [] [.io o4, .v (.tup (txs ms)), .v (.int (n : Nat)), .v (.tup (risL n)), s4, s5, .v (.tup (txs a)), .v (.tup (txs b)), s8, s9, .un] = .ok (txs (a.filter fun x => decide (x ∈ b))) [.io o4, .v (.tup (txs ms)), .v (.int (n : Nat)), .v (.tup (risL n)), s4, s5, .v (.tup (txs a)), .v (.tup (txs b)), s8, s9, .un] := fun s5 s8 s9 =>
    lcT (v := 10) (e := [.io o4, .v (.tup (txs ms)), .v (.int (n : Nat)), .v (.tup (risL n)), s4, s5, .v (.tup (txs a)), .v (.tup (txs b)), s8, s9, .un]) rfl a (fun x => decide (x ∈ b)) (fun x => .str x) (fun x hx => by simp [↓bind_eq, gIn_t]) (fun x hx _ => by simp) (by omega)
  have c2 : ∀ s5 s8 s9 : Sl, lcL [10] (gSet 10) (ttOr (tB1 (x2 gIn (xVar 10) (xVar 6))) (tB1 (x2 gIn (xVar 10) (xVar 7)))) (lcPush (xVar 10)) (txs (rowsS n)) [] [.io o4, .v (.tup (txs ms)), .v (.int (n : Nat)), .v (.tup (risL n)), s4, s5, .v (.tup (txs a)), .v (.tup (txs b)), s8, s9, .un] = .ok (txs ((rowsS n).filter fun x => decide (x ∈ a) || decide (x ∈ b))) [.io o4, .v (.tup (txs ms)), .v (.int (n : Nat)), .v (.tup (risL n)), s4, s5, .v (.tup (txs a)), .v (.tup (txs b)), s8, s9, .un] := fun s5 s8 s9 =>
    lcT (v := 10) (e := [.io o4, .v (.tup (txs ms)), .v (.int (n : Nat)), .v (.tup (risL n)), s4, s5, .v (.tup (txs a)), .v (.tup (txs b)), s8, s9, .un]) rfl (rowsS n) (fun x => decide (x ∈ a) || decide (x ∈ b)) (fun x => .str x) (fun x hx => by
      by_cases h : x ∈ a
      · simp [↓bind_eq, gIn_t, h]
      · simp [↓bind_eq, gIn_t, h]) (fun x hx _ => by simp) (by omega)
  have q11 := r_law_rows hn
  have b1 := ris_both hn ha hb
  have b2 := ris_either hn ha hb
  have q12 := (lot_in8 hn (risS_lot hn b1)).2
  have q13 := (lot_in8 hn (risS_lot hn b2)).2
  have q14 := law_risen_ok hn La.inR (by omega)
  have ea := ris_self8 hn ha
  rw [← ea] at q14
  have q15 := gNe_tt (a := a) (b := a) (La.inR.ok hn) (La.inR.ok hn)
  rw [decide_eq_true b1] at q12
  rw [decide_eq_true b2] at q13
  generalize (a.filter fun x => decide (x ∈ b)) = u1 at c1 q12
  generalize ((rowsS n).filter fun x => decide (x ∈ a) || decide (x ∈ b)) = u2 at c2 q13
  generalize risenS n (lot.take 3) = t3 at q2 q3
  generalize lot.take 3 = t4 at q2 qs
  generalize risenS n l2 = t5 at *
  generalize risL n = R at *
  clear ea m1 m2 b1 b2 La Lb L L2 Lt em rl rL ha hb M
  unfold m_law_right_f1
  refine wp_seq (wp_asg ?_)
  simp [↓bind_eq, q1, h5]
  refine wp_seq (wp_asg ?_)
  simp [↓bind_eq, qs, q2, q3, isInt]
  refine wp_seq (wp_if ?_)
  simp [↓bind_eq, q4, q5, q6, q7, q8]
  refine wp_nx ?_
  refine wp_seq (wp_asg ?_)
  simp [↓bind_eq, q9, q10, h6, h7]
  refine wp_seq (wp_asg ?_)
  simp [↓bind_eq, iterD, c1, gTuple, h8]
  refine wp_seq (wp_asg ?_)
  simp [↓bind_eq, iterD, q11, c2, gTuple, h9]
  refine wp_if ?_
  simp [↓bind_eq, q12, q13, q14, q15]
  refine wp_nx ?_
  exact ⟨rfl, _, _, _, _, _, _, rfl, rfl, rfl, rfl, rfl, rfl, B4.mono (by omega)⟩
theorem right_ok (o : Ob) (B : Bag 0 o) : ∃ e, m_law_right [.io o] = .ok (.bl true) e := by
  obtain ⟨o1, r, q1, B1, hr⟩ := draw B (by omega) 4 (by decide) (by decide)
  replace q1 : Cm.m_law_draw [.io o, .v (.int 4)] = .ok (.int r) [.io o1, .v (.int 4)] := q1
  obtain ⟨o2, ms, q2, B2, M0⟩ := marks_ok B1 (by omega) (1 + r) (by omega)
  have q2 : Cm.m_law_marks [.io o1, .v (.int (1 + (r : Int)))] = .ok (.tup (txs ms)) [.io o2, .v (.int (1 + (r : Int)))] := by
    have e : ((1 + r : Nat) : Int) = 1 + (r : Int) := by omega
    rw [e] at q2
    exact q2
  generalize hn' : 1 + r = n at M0 B2
  have M := M0.names
  have hn : n ≤ 4 := by omega
  have h0 : 0 < n := by omega
  have gl : gLen [.tup (txs ms)] = some (.int (n : Nat)) := by
    have : gLen [.tup (txs ms)] = some (.int ((txs ms).length : Nat)) := rfl
    rw [this, len_txs, M.1]
  have q3 := all_rising_ok8 hn h0 M
  have q4 := sort_ris8 hn h0
  have q5 := same8 hn
  have q6 := lenS8 hn
  have q7 : gLen [.tup (risL n)] = some (.int ((risL n).length : Nat)) := rfl
  have q8 := gNe_ii ((risL n).length : Nat) ((risL n).length : Nat)
  have q9 : gList [.tup (risL n)] = some (.lst (risL n)) := rfl
  have key : Wp m_law_right_b [.io o, .un, .un, .un, .un, .un, .un, .un, .un, .un, .un] fun fl _ => fl = .rt (.bl true) := by
    unfold m_law_right_b
    refine wp_seq (wp_asg ?_)
    simp [↓bind_eq, q1, q2]
    refine wp_seq (wp_par ?_)
    simp [↓bind_eq, gl, q3]
    refine wp_seq (wp_if ?_)
    simp [↓bind_eq, q9, q4, q5, q6, q7, q8]
    refine wp_nx ?_
    refine wp_seq (wp_forD (ds := rng 8) (e1 := [.io o2, .v (.tup (txs ms)), .v (.int (n : Nat)), .v (.tup (risL n)), .un, .un, .un, .un, .un, .un, .un]) (by
        have := rngD_nat (k := 8) (by omega)
        replace this : rngD 0 8 = some (rng 8) := this
        simp [↓bind_eq, this])
      (fun i e => ∃ (o' : Ob) (s4 s5 s6 s7 s8 s9 : Sl), e = [.io o', .v (.tup (txs ms)), .v (.int (n : Nat)), .v (.tup (risL n)), s4, s5, s6, s7, s8, s9, .un] ∧ isIoS s4 = false ∧ isIoS s5 = false ∧ isIoS s6 = false ∧ isIoS s7 = false ∧ isIoS s8 = false ∧ isIoS s9 = false ∧ Bag (100 + 20 * i) o')
      ⟨o2, _, _, _, _, _, _, rfl, rfl, rfl, rfl, rfl, rfl, rfl, B2.mono (by omega)⟩ ?_ ?_)
    · rintro i d e hd ⟨o', s4, s5, s6, s7, s8, s9, rfl, h4, h5, h6, h7, h8, h9, B'⟩
      obtain ⟨hi, rfl⟩ := rng_get hd
      refine ⟨[.io o', .v (.tup (txs ms)), .v (.int (n : Nat)), .v (.tup (risL n)), .v (.int (i : Nat)), s5, s6, s7, s8, s9, .un], by simp [h4], ?_⟩
      refine (turn hn h0 M B' (by omega) h5 h6 h7 h8 h9).mono ?_
      rintro fl e ⟨rfl, o2, s5, s6, s7, s8, s9, rfl, h5, h6, h7, h8, h9, B3⟩
      exact ⟨o2, _, _, _, _, _, _, rfl, rfl, h5, h6, h7, h8, h9, B3.mono (by omega)⟩
    · rintro e ⟨o', s4, s5, s6, s7, s8, s9, rfl, _⟩
      refine wp_ret ?_
      simp [↓bind_eq]
  obtain ⟨fl, e, h1, h2⟩ := key.ex
  subst h2
  refine ⟨mergeA [.io o] e, ?_⟩
  show mDef 1 11 m_law_right_b [.io o] = _
  unfold mDef
  have h1' : m_law_right_b ([Sl.io o] ++ List.replicate (11 - 1) Sl.un) = .ok (.rt (.bl true)) e := h1
  rw [h1']
theorem good (ns : List Int) : ∃ e, m_law [.v (.fz (ns.map .int))] = .ok (.bl true) e := by
  obtain ⟨n, hn, e⟩ := turns ns 4 (by decide)
  have q := loop_ok (fun o B => right_ok o B) ns n hn
  have e2 : rngD 0 (if (if (4 : Int) < (ns.length : Int) then (4 : Int) else (ns.length : Int)) > 2 then (if (4 : Int) < (ns.length : Int) then (4 : Int) else (ns.length : Int)) else 2) = some (rng n) := by
    have e := e
    rw [show ((4 : Nat) : Int) = 4 from rfl] at e
    rw [e]
    exact rngD_nat (by omega)
  simp only [gt_iff_lt] at e2
  refine ⟨_, dv1 (N := 2) (mb := m_law_b) (wp_ret ?_)⟩
  simp [↓bind_eq, gLen, gBest2, e2, q, all_true]
  exact .ret
end Lk08

set_option Elab.async false
set_option linter.all false
set_option maxRecDepth 100000
set_option maxHeartbeats 0
/-! the head of k08; printed by head.py -/
namespace Lk08
open PySem PySem.Spec PyProof.Rows Mi
theorem facts [Tb] {P : Program} {w : World} {K : PySem.W.Frag} {h : Heap} {mg : Str → Option Value} {f : Addr} (X : K.In h) (G : h.Ns mainGlobals mg) (hfa : mg ("law" : Str) = some (.ref f)) (c : SaysP fa fn ps ex K) :
    ∃ fd : FuncData, (∀ (s : Shared) (v : Value), BindsTo s fd ⟨[v], []⟩ [("_law_script", v)]) ∧ ∀ base : Heap, K.In base → base.Ns mainGlobals mg → FnG P w K mg base 6 f fd ["_law_script"] (spM K 1 m_law) := by
  obtain ⟨fd, F⟩ := c.def_ 21 (d := d_law) rfl
  have e := hfa.symm.trans (He.glo_ok X G (c.fact 21 (f := .glo "law") rfl))
  cases e
  have b := L2.FunD.bindsA (ps := ["_law_script"]) F fun _ _ _ _ _ _ us hl => match us, hl with | [_], _ => rfl
  exact ⟨fd, fun s v => b s [v] rfl, fun base _ _ => ok_law X G c (fun_of_D F)⟩
end Lk08
open PySem PySem.W PySem.Calls PyProof.Rows
theorem Lk08.holds (good : ∀ ns : List Int, ∃ e, Lk08.m_law [.v (.fz (ns.map .int))] = .ok (.bl true) e) : PySem.Challenge.rw_wishesrise_k08_whole_all_rising_lots.Holds := by
  w_on; o_law
  refine HandSHeadRun.head_any (r := OpenLaw.row PySem.Challenge.rw_wishesrise_k08_whole_all_rising_lots) (q := view (OpenLaw.row PySem.Challenge.rw_wishesrise_k08_whole_all_rising_lots).prog [32]) (H := Lk08.hk) (ob := Lk08.ob) (M := 20000) (loose := Lk08.names) (d := HandSHeadRun.topDef (OpenLaw.row PySem.Challenge.rw_wishesrise_k08_whole_all_rising_lots).prog 32) (kwd := []) Lk08.ob_eq
    (by kernel_rfl) (fun s => by kernel_rfl) Lk08.run (by kernel_rfl) (by kernel_rfl) (by kernel_rfl) (by rfl) (by first | assumption | decide +kernel) (by decide +kernel) ⟨rfl, rfl, rfl, rfl, rfl, by decide +kernel⟩ ?hw ?hc
  case hw => w_witness2
  case hc =>
    refine Mi.walk_G (l := PySem.Challenge.rw_wishesrise_k08_whole_all_rising_lots) (n := 63) (k := 6) (x := "_law_script") (m := Lk08.m_law) rfl (by decide) (by kernel_rfl) ⟨rfl, by decide, by decide⟩ ?F good
    intro w mg fa h Y G hmg0
    obtain ⟨K, KX, c⟩ := Y
    have hmg : mg ("law" : PySem.Str) = some (.ref fa) := by
      have e : (HandSHeadRun.topDef (OpenLaw.row PySem.Challenge.rw_wishesrise_k08_whole_all_rising_lots).prog 32).name = ("law" : PySem.Str) := by kernel_rfl
      rw [← e]
      exact hmg0
    letI : Mi.Tb := Mi.tb0
    obtain ⟨fd, hb, hF⟩ := Lk08.facts (P := (PySem.Challenge.rw_wishesrise_k08_whole_all_rising_lots).prog) (w := w) KX G hmg c
    exact ⟨K, fd, KX, hb, hF⟩
theorem PySem.Challenge.cw_wishesrise_k08_whole_all_rising_lots_holds : PySem.Challenge.rw_wishesrise_k08_whole_all_rising_lots.Holds := by
  exact Lk08.holds Lk08.good
