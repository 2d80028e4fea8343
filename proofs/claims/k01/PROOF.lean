import PyProof.Rows.All
import Wide.All
import OpenK.AllK
import Wide.FinOn
import HandS.ForMost
import HandS.CallSlots
import HandS.WordsExc
import HandS.TryMany
import HandS.Wide
import HandS.TupAny
import HandS.TupMul
import HandS.IsInst
import HandS.ExcInit
import HandS.More
import HandS.Conv
import HandS.SortInts
import HandS.RaiseMore
import HandS.FStr
import PyProof.DictUpdate
import HandS.DictComp
import HandS.SlotsOwn
import HandS.Head2
import HandS.HeadEnd
import HandS.HeadHook2
import HandS.HeadNt
import HandS.EndBits
import KE.KExcSuper
import HandS.ExcField
import HandS.ExcIs
import KE.KExcIs
import PySem.Challenge.RW_turnwires_k01_errors
set_option Elab.async false
set_option linter.all false
set_option maxRecDepth 100000
set_option maxHeartbeats 2000000
/-! Plain data beside the heap: what a value stands for; the state of a def's slots; expressions, tests, statements that reckon with plain data. -/
namespace DS
open PySem L2

inductive D where
  | non | bl (b : Bool) | int (i : Int) | str (s : Str)
  | scr (xs : List Int)
  | lst (xs : List D) | tup (xs : List D)
  | dk (kvs : List (L2.Key × D))
  | ins (C : Addr) (fs : List (Str × D))
  | kt (T : Addr) (xs : List Int)
  | exc (c : Str) (C : Addr) (fs : List (Str × D))
  deriving Inhabited

mutual
def Holds (H : Hp) (A : Addr → Prop) : D → V → Prop
  | .non, v => v = .non
  | .bl b, v => v = .bl b
  | .int i, v => v = .int i
  | .str s, v => v = .str s
  | .scr xs, v => ∃ a, v = .ref a ∧ ¬ A a ∧ Rd H a (.lst (xs.map V.int))
  | .lst xs, v => ∃ a vs, v = .ref a ∧ ¬ A a ∧ H a = some (.lst vs) ∧ HoldsL H A xs vs
  | .tup xs, v => ∃ a vs, v = .ref a ∧ ¬ A a ∧ H a = some (.tup vs) ∧ HoldsL H A xs vs
  | .dk kvs, v => ∃ a ws, v = .ref a ∧ ¬ A a ∧ Rd H a (.dK ws) ∧ HoldsK H A kvs ws
  | .ins C fs, v => ∃ a dx ws, v = .ref a ∧ ¬ A a ∧ H a = some (.ins C dx ws) ∧ HoldsF H A fs ws
  | .kt T _, v => v = .ref T
  | .exc _ C fs, v => ∃ a od ws, v = .ref a ∧ ¬ A a ∧ H a = some (exo a C od) ∧ ((od = none ∧ ws = []) ∨ ∃ dx, od = some dx ∧ ¬ A dx ∧ H dx = some (exd dx ws)) ∧ HoldsF H A fs ws
def HoldsL (H : Hp) (A : Addr → Prop) : List D → List V → Prop
  | [], vs => vs = []
  | d :: ds, vs => ∃ v r, vs = v :: r ∧ Holds H A d v ∧ HoldsL H A ds r
def HoldsK (H : Hp) (A : Addr → Prop) : List (L2.Key × D) → List (L2.Key × V) → Prop
  | [], ws => ws = []
  | (k, d) :: r, ws => ∃ v t, ws = (k, v) :: t ∧ Holds H A d v ∧ HoldsK H A r t
def HoldsF (H : Hp) (A : Addr → Prop) : List (Str × D) → List (Str × V) → Prop
  | [], ws => ws = []
  | (k, d) :: r, ws => ∃ v t, ws = (k, v) :: t ∧ Holds H A d v ∧ HoldsF H A r t
end

/-- what is seen in H off A is seen in H' off A' -/
structure Up (H : Hp) (A : Addr → Prop) (H' : Hp) (A' : Addr → Prop) : Prop where
  lst : ∀ a xs, H a = some (.lst xs) → ¬ A a → H' a = some (.lst xs) ∧ ¬ A' a
  tup : ∀ a xs, H a = some (.tup xs) → ¬ A a → H' a = some (.tup xs) ∧ ¬ A' a
  rdl : ∀ a xs, Rd H a (.lst xs) → ¬ A a → Rd H' a (.lst xs) ∧ ¬ A' a
  rdk : ∀ a xs, Rd H a (.dK xs) → ¬ A a → Rd H' a (.dK xs) ∧ ¬ A' a
  ins : ∀ a C dx ws, H a = some (.ins C dx ws) → ¬ A a → H' a = some (.ins C dx ws) ∧ ¬ A' a
  off : ∀ a, H a ≠ none → ¬ A a → ¬ A' a
  ext : ∀ a φ, H a = some (.ext φ) → ¬ A a → H' a = some (.ext φ) ∧ ¬ A' a

mutual
theorem Holds.up {H H' : Hp} {A A' : Addr → Prop} (u : Up H A H' A') : ∀ (d : D) {v : V}, Holds H A d v → Holds H' A' d v
  | .non, v, h => h
  | .bl _, v, h => h
  | .int _, v, h => h
  | .str _, v, h => h
  | .scr xs, v, h => by
    obtain ⟨a, e, na, r⟩ := h
    exact ⟨a, e, (u.rdl a _ r na).2, (u.rdl a _ r na).1⟩
  | .lst xs, v, h => by
    obtain ⟨a, vs, e, na, r, l⟩ := h
    exact ⟨a, vs, e, (u.lst a _ r na).2, (u.lst a _ r na).1, HoldsL.up u xs l⟩
  | .tup xs, v, h => by
    obtain ⟨a, vs, e, na, r, l⟩ := h
    exact ⟨a, vs, e, (u.tup a _ r na).2, (u.tup a _ r na).1, HoldsL.up u xs l⟩
  | .dk kvs, v, h => by
    obtain ⟨a, ws, e, na, r, l⟩ := h
    exact ⟨a, ws, e, (u.rdk a _ r na).2, (u.rdk a _ r na).1, HoldsK.up u kvs l⟩
  | .ins C fs, v, h => by
    obtain ⟨a, dx, ws, e, na, r, l⟩ := h
    exact ⟨a, dx, ws, e, (u.ins a _ _ _ r na).2, (u.ins a _ _ _ r na).1, HoldsF.up u fs l⟩
  | .kt _ _, v, h => h
  | .exc c C fs, v, h => by
    obtain ⟨a, od, ws, e, na, r, q, l⟩ := h
    refine ⟨a, od, ws, e, (u.ext a _ r na).2, (u.ext a _ r na).1, q.imp_right fun ⟨dx, e1, nd, hd⟩ => ⟨dx, e1, (u.ext dx _ hd nd).2, (u.ext dx _ hd nd).1⟩, HoldsF.up u fs l⟩
theorem HoldsL.up {H H' : Hp} {A A' : Addr → Prop} (u : Up H A H' A') : ∀ (ds : List D) {vs : List V}, HoldsL H A ds vs → HoldsL H' A' ds vs
  | [], vs, h => h
  | d :: ds, vs, h => by
    obtain ⟨v, r, e, h1, h2⟩ := h
    exact ⟨v, r, e, Holds.up u d h1, HoldsL.up u ds h2⟩
theorem HoldsK.up {H H' : Hp} {A A' : Addr → Prop} (u : Up H A H' A') : ∀ (ds : List (L2.Key × D)) {vs : List (L2.Key × V)}, HoldsK H A ds vs → HoldsK H' A' ds vs
  | [], vs, h => h
  | (k, d) :: ds, vs, h => by
    obtain ⟨v, r, e, h1, h2⟩ := h
    exact ⟨v, r, e, Holds.up u d h1, HoldsK.up u ds h2⟩
theorem HoldsF.up {H H' : Hp} {A A' : Addr → Prop} (u : Up H A H' A') : ∀ (ds : List (Str × D)) {vs : List (Str × V)}, HoldsF H A ds vs → HoldsF H' A' ds vs
  | [], vs, h => h
  | (k, d) :: ds, vs, h => by
    obtain ⟨v, r, e, h1, h2⟩ := h
    exact ⟨v, r, e, Holds.up u d h1, HoldsF.up u ds h2⟩
end
end DS
set_option Elab.async false
set_option linter.all false
set_option maxRecDepth 100000
set_option maxHeartbeats 2000000
namespace DS
open PySem L2

/-! ### extension of heaps -/
theorem rd_same {H H' : Hp} {a : Addr} {u : HO} (s : Same H H') (r : Rd H a u) : Rd H' a u := by
  rcases r with r | ⟨o, r⟩
  · exact .inl (s _ _ r)
  · exact .inr ⟨o, s _ _ r⟩
theorem Up.same {H H' : Hp} {A : Addr → Prop} (s : Same H H') : Up H A H' A where
  lst := fun a xs h n => ⟨s _ _ h, n⟩
  tup := fun a xs h n => ⟨s _ _ h, n⟩
  rdl := fun a xs h n => ⟨rd_same s h, n⟩
  rdk := fun a xs h n => ⟨rd_same s h, n⟩
  ins := fun a C dx ws h n => ⟨s _ _ h, n⟩
  off := fun a _ n => n
  ext := fun a φ h n => ⟨s _ _ h, n⟩
theorem rd_some {H : Hp} {a : Addr} {u : HO} (r : Rd H a u) : H a ≠ none := by
  rcases r with r | ⟨o, r⟩ <;> (rw [r]; exact fun z => by cases z)
/-- what is off A is kept; what A' names anew was not there -/
theorem Up.ofOff {H H' : Hp} {A A' : Addr → Prop} (s : ∀ a o, H a = some o → ¬ A a → H' a = some o) (n : ∀ a, A' a → A a ∨ H a = none) : Up H A H' A' := by
  have k : ∀ a, H a ≠ none → ¬ A a → ¬ A' a := fun a h na z => (n a z).elim na h
  refine ⟨fun a xs h na => ⟨s _ _ h na, k a (by rw [h]; exact fun z => by cases z) na⟩, fun a xs h na => ⟨s _ _ h na, k a (by rw [h]; exact fun z => by cases z) na⟩, fun a xs h na => ⟨?_, k a (rd_some h) na⟩, fun a xs h na => ⟨?_, k a (rd_some h) na⟩, fun a C dx ws h na => ⟨s _ _ h na, k a (by rw [h]; exact fun z => by cases z) na⟩, k, fun a φ h na => ⟨s _ _ h na, k a (by rw [h]; exact fun z => by cases z) na⟩⟩
  · rcases h with h | ⟨o, h⟩
    · exact .inl (s _ _ h na)
    · exact .inr ⟨o, s _ _ h na⟩
  · rcases h with h | ⟨o, h⟩
    · exact .inl (s _ _ h na)
    · exact .inr ⟨o, s _ _ h na⟩
theorem same_upd {H : Hp} {p : Addr} {o : HO} (h : H p = none) : Same H (upd H p o) := fun b u e => by
  rw [upd_ne (ne_of_none e h)]; exact e

/-! ### borrowed: the top may be one's own -/
def HoldsB (H : Hp) (A : Addr → Prop) : D → V → Prop
  | .lst xs, v => ∃ a vs, v = .ref a ∧ H a = some (.lst vs) ∧ HoldsL H A xs vs
  | .dk kvs, v => ∃ a ws, v = .ref a ∧ Rd H a (.dK ws) ∧ HoldsK H A kvs ws
  | .ins C fs, v => ∃ a dx ws, v = .ref a ∧ H a = some (.ins C dx ws) ∧ HoldsF H A fs ws
  | d, v => Holds H A d v
theorem Holds.b {H : Hp} {A : Addr → Prop} {d : D} {v : V} (h : Holds H A d v) : HoldsB H A d v := by
  cases d with
  | lst xs => obtain ⟨a, vs, e, _, r, l⟩ := h; exact ⟨a, vs, e, r, l⟩
  | dk kvs => obtain ⟨a, vs, e, _, r, l⟩ := h; exact ⟨a, vs, e, r, l⟩
  | ins C fs => obtain ⟨a, dx, vs, e, _, r, l⟩ := h; exact ⟨a, dx, vs, e, r, l⟩
  | _ => exact h
theorem HoldsB.same {H H' : Hp} {A : Addr → Prop} (s : Same H H') {d : D} {v : V} (h : HoldsB H A d v) : HoldsB H' A d v := by
  cases d with
  | lst xs => obtain ⟨a, vs, e, r, l⟩ := h; exact ⟨a, vs, e, s _ _ r, HoldsL.up (Up.same s) _ l⟩
  | dk kvs => obtain ⟨a, vs, e, r, l⟩ := h; exact ⟨a, vs, e, rd_same s r, HoldsK.up (Up.same s) _ l⟩
  | ins C fs => obtain ⟨a, dx, vs, e, r, l⟩ := h; exact ⟨a, dx, vs, e, s _ _ r, HoldsF.up (Up.same s) _ l⟩
  | non => exact h
  | bl _ => exact h
  | int _ => exact h
  | str _ => exact h
  | kt T xs => exact h
  | exc c C fs => exact Holds.up (Up.same s) (.exc c C fs) h
  | scr xs => exact Holds.up (Up.same s) (.scr xs) h
  | tup xs => exact Holds.up (Up.same s) (.tup xs) h
theorem HoldsB.less {H : Hp} {A A' : Addr → Prop} (k : ∀ a, H a ≠ none → ¬ A a → ¬ A' a) {d : D} {v : V} (h : HoldsB H A d v) : HoldsB H A' d v := by
  have u : Up H A H A' := ⟨fun a xs h n => ⟨h, k a (by rw [h]; simp) n⟩, fun a xs h n => ⟨h, k a (by rw [h]; simp) n⟩, fun a xs h n => ⟨h, k a (rd_some h) n⟩, fun a xs h n => ⟨h, k a (rd_some h) n⟩, fun a C dx ws h n => ⟨h, k a (by rw [h]; simp) n⟩, k, fun a φ h n => ⟨h, k a (by rw [h]; simp) n⟩⟩
  cases d with
  | lst xs => obtain ⟨a, vs, e, r, l⟩ := h; exact ⟨a, vs, e, r, HoldsL.up u _ l⟩
  | dk kvs => obtain ⟨a, vs, e, r, l⟩ := h; exact ⟨a, vs, e, r, HoldsK.up u _ l⟩
  | ins C fs => obtain ⟨a, dx, vs, e, r, l⟩ := h; exact ⟨a, dx, vs, e, r, HoldsF.up u _ l⟩
  | non => exact h
  | bl _ => exact h
  | int _ => exact h
  | str _ => exact h
  | kt T xs => exact h
  | exc c C fs => exact Holds.up u (.exc c C fs) h
  | scr xs => exact Holds.up u (.scr xs) h
  | tup xs => exact Holds.up u (.tup xs) h
theorem Holds.same {H H' : Hp} {A : Addr → Prop} (s : Same H H') {d : D} {v : V} (h : Holds H A d v) : Holds H' A d v := Holds.up (Up.same s) d h
theorem HoldsL.same {H H' : Hp} {A : Addr → Prop} (s : Same H H') {d : List D} {v : List V} (h : HoldsL H A d v) : HoldsL H' A d v := HoldsL.up (Up.same s) d h
theorem HoldsK.same {H H' : Hp} {A : Addr → Prop} (s : Same H H') {d : List (L2.Key × D)} {v : List (L2.Key × V)} (h : HoldsK H A d v) : HoldsK H' A d v := HoldsK.up (Up.same s) d h
theorem HoldsF.same {H H' : Hp} {A : Addr → Prop} (s : Same H H') {d : List (Str × D)} {v : List (Str × V)} (h : HoldsF H A d v) : HoldsF H' A d v := HoldsF.up (Up.same s) d h

/-! ### lists -/
section
variable {H : Hp} {A : Addr → Prop}
theorem HoldsL.length : ∀ {ds : List D} {vs : List V}, HoldsL H A ds vs → vs.length = ds.length
  | [], _, h => by cases h; rfl
  | d :: ds, _, h => by obtain ⟨v, r, rfl, _, h2⟩ := h; simp [HoldsL.length h2]
theorem HoldsL.get : ∀ {ds : List D} {vs : List V} {i : Nat} {d : D}, HoldsL H A ds vs → ds[i]? = some d → ∃ v, vs[i]? = some v ∧ Holds H A d v
  | [], _, i, d, _, e => by simp at e
  | x :: ds, _, 0, d, h, e => by
    obtain ⟨v, r, rfl, h1, h2⟩ := h
    simp at e; subst e
    exact ⟨v, by simp, h1⟩
  | x :: ds, _, i + 1, d, h, e => by
    obtain ⟨v, r, rfl, h1, h2⟩ := h
    simpa using HoldsL.get h2 (i := i) (by simpa using e)
theorem HoldsL.getV {ds : List D} {vs : List V} {i : Nat} {v : V} (h : HoldsL H A ds vs) (e : vs[i]? = some v) : ∃ d, ds[i]? = some d ∧ Holds H A d v := by
  have hl := h.length
  have hi : i < vs.length := (List.getElem?_eq_some_iff.mp e).1
  obtain ⟨w, e2, hh⟩ := h.get (i := i) (d := ds[i]'(by omega)) (List.getElem?_eq_getElem _)
  rw [e] at e2; cases e2
  exact ⟨_, List.getElem?_eq_getElem _, hh⟩
theorem HoldsL.append : ∀ {ds es : List D} {vs ws : List V}, HoldsL H A ds vs → HoldsL H A es ws → HoldsL H A (ds ++ es) (vs ++ ws)
  | [], _, _, _, h, k => by cases h; exact k
  | d :: ds, _, _, _, h, k => by obtain ⟨v, r, rfl, h1, h2⟩ := h; exact ⟨v, _, rfl, h1, HoldsL.append h2 k⟩
theorem HoldsL.one {d : D} {v : V} (h : Holds H A d v) : HoldsL H A [d] [v] := ⟨v, [], rfl, h, rfl⟩
theorem HoldsL.take : ∀ {ds : List D} {vs : List V} (n : Nat), HoldsL H A ds vs → HoldsL H A (ds.take n) (vs.take n)
  | _, _, 0, _ => rfl
  | [], _, n + 1, h => by cases h; rfl
  | d :: ds, _, n + 1, h => by obtain ⟨v, r, rfl, h1, h2⟩ := h; exact ⟨v, _, rfl, h1, HoldsL.take n h2⟩
theorem HoldsL.drop : ∀ {ds : List D} {vs : List V} (n : Nat), HoldsL H A ds vs → HoldsL H A (ds.drop n) (vs.drop n)
  | _, _, 0, h => h
  | [], _, n + 1, h => by cases h; rfl
  | d :: ds, _, n + 1, h => by obtain ⟨v, r, rfl, h1, h2⟩ := h; exact HoldsL.drop n h2
theorem HoldsL.set : ∀ {ds : List D} {vs : List V} (i : Nat) {d : D} {v : V}, HoldsL H A ds vs → Holds H A d v → HoldsL H A (ds.set i d) (vs.set i v)
  | [], _, i, _, _, h, _ => by cases h; rfl
  | x :: ds, _, 0, _, _, h, k => by obtain ⟨v, r, rfl, h1, h2⟩ := h; exact ⟨_, _, rfl, k, h2⟩
  | x :: ds, _, i + 1, _, _, h, k => by obtain ⟨v, r, rfl, h1, h2⟩ := h; exact ⟨_, _, rfl, h1, HoldsL.set i h2 k⟩
theorem HoldsL.eraseIdx : ∀ {ds : List D} {vs : List V} (i : Nat), HoldsL H A ds vs → HoldsL H A (ds.eraseIdx i) (vs.eraseIdx i)
  | [], _, i, h => by cases h; rfl
  | x :: ds, _, 0, h => by obtain ⟨v, r, rfl, h1, h2⟩ := h; exact h2
  | x :: ds, _, i + 1, h => by obtain ⟨v, r, rfl, h1, h2⟩ := h; exact ⟨_, _, rfl, h1, HoldsL.eraseIdx i h2⟩
theorem HoldsL.dropLast : ∀ {ds : List D} {vs : List V}, HoldsL H A ds vs → HoldsL H A ds.dropLast vs.dropLast
  | [], _, h => by cases h; rfl
  | [d], _, h => by obtain ⟨v, r, rfl, h1, h2⟩ := h; cases h2; rfl
  | d :: e :: ds, _, h => by
    obtain ⟨v, r, rfl, h1, w, r2, rfl, h2, h3⟩ := h
    exact ⟨v, _, rfl, h1, HoldsL.dropLast (ds := e :: ds) ⟨w, r2, rfl, h2, h3⟩⟩
theorem HoldsL.ints : ∀ (ns : List Int), HoldsL H A (ns.map D.int) (ns.map V.int)
  | [] => rfl
  | n :: ns => ⟨_, _, rfl, rfl, HoldsL.ints ns⟩
theorem HoldsL.strs : ∀ (ns : List Str), HoldsL H A (ns.map D.str) (ns.map V.str)
  | [] => rfl
  | n :: ns => ⟨_, _, rfl, rfl, HoldsL.strs ns⟩
theorem HoldsL.snoc {ds : List D} {d : D} {vs : List V} {v : V} (h : HoldsL H A ds vs) (k : Holds H A d v) : HoldsL H A (ds ++ [d]) (vs ++ [v]) := h.append (.one k)
theorem HoldsL.split : ∀ {ds es : List D} {vs : List V}, HoldsL H A (ds ++ es) vs → ∃ v1 v2, vs = v1 ++ v2 ∧ HoldsL H A ds v1 ∧ HoldsL H A es v2
  | [], _, vs, h => ⟨[], vs, rfl, rfl, h⟩
  | d :: ds, _, vs, h => by
    obtain ⟨v, r, rfl, h1, h2⟩ := h
    obtain ⟨v1, v2, rfl, h3, h4⟩ := HoldsL.split (ds := ds) h2
    exact ⟨v :: v1, v2, rfl, ⟨v, v1, rfl, h1, h3⟩, h4⟩
end

/-! ### outcomes -/
inductive R (α : Type) where
  | ok (a : α) | ex (c : Str) (fs : List (Str × D)) | no
  deriving Inhabited
def R.bind {α β : Type} (r : R α) (f : α → R β) : R β := match r with
  | .ok a => f a
  | .ex c fs => .ex c fs
  | .no => .no
instance : Monad R where
  pure := R.ok
  bind := R.bind
@[simp] theorem R.bind_ok {α β : Type} (a : α) (f : α → R β) : (R.ok a).bind f = f a := rfl
@[simp] theorem R.bind_ex {α β : Type} (c fs) (f : α → R β) : (R.ex c fs).bind f = .ex c fs := rfl
@[simp] theorem R.bind_no {α β : Type} (f : α → R β) : (R.no).bind f = .no := rfl

/-! ### the slots of a def -/
structure Fr where
  H0 : Hp
  B : Addr → Prop
  S : Addr := 0
inductive Sl where
  | un | sh (d : D) | ol (ds : List D) | od (kvs : List (L2.Key × D)) | oi (C : Addr) (fs : List (Str × D)) | bw (d : D) | xc
  deriving Inhabited
def Sl.own : Sl → Bool
  | .ol _ => true
  | .od _ => true
  | .oi _ _ => true
  | _ => false
abbrev SD := List Sl
def OwnAt (σ : St) (sd : SD) (i : Nat) (a : Addr) : Prop := ∃ s, sd[i]? = some s ∧ s.own = true ∧ σ[i]? = some (some (.ref a))
def Own (σ : St) (sd : SD) (a : Addr) : Prop := ∃ i, OwnAt σ sd i a
def Av (F : Fr) (σ : St) (sd : SD) : Addr → Prop := fun a => F.B a ∨ Own σ sd a
def SlOk (F : Fr) (H : Hp) (A : Addr → Prop) (v : Option V) : Sl → Prop
  | .un => True
  | .sh d => ∃ x, v = some x ∧ Holds H A d x
  | .ol ds => ∃ a vs, v = some (.ref a) ∧ F.H0 a = none ∧ H a = some (.lst vs) ∧ HoldsL H A ds vs
  | .od kvs => ∃ a ws, v = some (.ref a) ∧ F.H0 a = none ∧ H a = some (.dK ws) ∧ HoldsK H A kvs ws
  | .oi C fs => ∃ a dx ws, v = some (.ref a) ∧ (F.H0 a = none ∧ a = F.S) ∧ H a = some (.ins C dx ws) ∧ HoldsF H A fs ws
  | .bw d => ∃ x, v = some x ∧ HoldsB F.H0 A d x
  | .xc => v = some (.ref F.S)
structure Rel (F : Fr) (σ : St) (H : Hp) (sd : SD) : Prop where
  same : Same F.H0 H
  len : σ.length = sd.length
  slot : ∀ (i : Nat) (s : Sl), sd[i]? = some s → ∃ v, σ[i]? = some v ∧ SlOk F H (Av F σ sd) v s
  inj : ∀ (i j : Nat) (a : Addr), OwnAt σ sd i a → OwnAt σ sd j a → i = j
  nb : ∀ a, Own σ sd a → ¬ F.B a
  bdom : ∀ a, F.B a → H a ≠ none

theorem SlOk.up {F : Fr} {H H' : Hp} {A A' : Addr → Prop} {v : Option V} {s : Sl} (s0 : Same F.H0 H) (u : Up H A H' A') (k : ∀ a o, s.own = true → v = some (.ref a) → H a = some o → H' a = some o) (h : SlOk F H A v s) : SlOk F H' A' v s := by
  cases s with
  | un => trivial
  | xc => exact h
  | sh d => obtain ⟨x, e, h⟩ := h; exact ⟨x, e, Holds.up u d h⟩
  | ol ds => obtain ⟨a, vs, e, n, r, l⟩ := h; exact ⟨a, vs, e, n, k a _ rfl e r, HoldsL.up u ds l⟩
  | od ds => obtain ⟨a, vs, e, n, r, l⟩ := h; exact ⟨a, vs, e, n, k a _ rfl e r, HoldsK.up u ds l⟩
  | oi C ds => obtain ⟨a, dx, vs, e, n, r, l⟩ := h; exact ⟨a, dx, vs, e, n, k a _ rfl e r, HoldsF.up u ds l⟩
  | bw d => obtain ⟨x, e, h⟩ := h; exact ⟨x, e, HoldsB.less (fun a ha na => u.off a (fun z => by
      cases q : F.H0 a with
      | none => exact ha q
      | some o => rw [s0 _ _ q] at z; cases z) na) h⟩
theorem Rel.mono {F : Fr} {σ : St} {H H' : Hp} {sd : SD} (r : Rel F σ H sd) (s : Same H H') : Rel F σ H' sd where
  same := r.same.trans s
  len := r.len
  slot := fun i x e => by
    obtain ⟨v, e2, h⟩ := r.slot i x e
    exact ⟨v, e2, h.up r.same (Up.same s) fun a o _ _ q => s _ _ q⟩
  inj := r.inj
  nb := r.nb
  bdom := fun a h z => by
    cases q : H a with
    | none => exact r.bdom a h q
    | some o => rw [s _ _ q] at z; cases z
theorem Rel.odom {F : Fr} {σ : St} {H : Hp} {sd : SD} (r : Rel F σ H sd) {a : Addr} (h : Own σ sd a) : H a ≠ none ∧ F.H0 a = none := by
  obtain ⟨i, s, e, o, e2⟩ := h
  obtain ⟨v, e3, q⟩ := r.slot i s e
  rw [e2] at e3; cases e3
  cases s with
  | un => cases o
  | xc => cases o
  | sh d => cases o
  | bw d => cases o
  | ol ds => obtain ⟨a', vs, e, n, r, l⟩ := q; cases e; exact ⟨by rw [r]; simp, n⟩
  | od ds => obtain ⟨a', vs, e, n, r, l⟩ := q; cases e; exact ⟨by rw [r]; simp, n⟩
  | oi C ds => obtain ⟨a', dx, vs, e, n, r, l⟩ := q; cases e; exact ⟨by rw [r]; simp, n.1⟩
theorem Rel.dom {F : Fr} {σ : St} {H : Hp} {sd : SD} (r : Rel F σ H sd) {a : Addr} (h : Av F σ sd a) : H a ≠ none := h.elim (r.bdom a) fun h => (r.odom h).1

/-! ### how an exception lies -/
def ExRep (mg : Str → Option Value) (H : Hp) (A : Addr → Prop) (c : Str) (fs : List (Str × D)) (cls : Value) (da : Option Addr) : Prop :=
  (∃ C, mg c = some (.ref C) ∧ cls = .ref C ∧ (fs = [] ∨ ∃ d ws, da = some d ∧ H d = some (.xd ws) ∧ HoldsF H A fs ws)) ∨
  (∃ T : String, mg c = none ∧ c = Str.ofString T ∧ cls = .type T ∧ fs = [])

abbrev EF := SD → R D
/-- what is wanted behind an outcome -/
def Post (b : Bool) (mg : Str → Option Value) (W : WX) (σ : St) (A : Addr → Prop) (r : R D) (H : Hp) (Q : VK) : Prop := match r with
  | .ok d => ∀ v H', Same H H' → (if b = true then HoldsB H' A d v else Holds H' A d v) → Q v H'
  | .ex c fs => ∀ cls da H', Same H H' → ExRep mg H' A c fs cls da → W cls da σ H'
  | .no => False
theorem Post.mono {b : Bool} {mg : Str → Option Value} {W : WX} {σ : St} {A : Addr → Prop} {r : R D} {H H' : Hp} {Q : VK} (s : Same H H') (p : Post b mg W σ A r H Q) : Post b mg W σ A r H' Q := by
  cases r with
  | ok d => exact fun v H2 s2 h => p v H2 (s.trans s2) h
  | ex c fs => exact fun cls da H2 s2 h => p cls da H2 (s.trans s2) h
  | no => exact p
/-- the reading by plain data -/
def TEx (b : Bool) (F : Fr) (mg : Str → Option Value) (W : WX) (f : EF) : TE := fun σ H Q => ∃ sd, Rel F σ H sd ∧ Post b mg W σ (Av F σ sd) (f sd) H Q
structure DX (b : Bool) (F : Fr) (X : Cx) (W : WX) (e : Expr) (f : EF) : Prop where
  pe : PE X e (TEx b F X.mg W f)
abbrev DE := DX false
abbrev DB := DX true
variable {F : Fr} {X : Cx} {W : WX}
theorem PE.weak {X : Cx} {e : Expr} {t t' : TE} (h : PE X e t) (k : ∀ σ H Q, t' σ H Q → t σ H Q) : PE X e t' := ⟨fun pins s σ H Q I q => h.run pins s σ H Q I (k _ _ _ q)⟩
theorem DE.b {e : Expr} {f : EF} (h : DE F X W e f) : DB F X W e f := ⟨PE.weak h.pe fun σ H Q ⟨sd, rel, p⟩ => ⟨sd, rel, by
  cases q : f sd with
  | ok d => rw [q] at p; exact fun v H' s h => p v H' s (Holds.b h)
  | ex c fs => rw [q] at p; exact p
  | no => rw [q] at p; exact p⟩⟩

/-- one operand -/
theorem te1 {b b' : Bool} {fa : EF} {op : D → R D} {mg : Str → Option Value} {σ : St} {H : Hp} {Q : VK} {r : V → Hp → Prop} 
    (hr : ∀ (A : Addr → Prop) d v H2, (∀ a, A a → H2 a ≠ none) → (if b = true then HoldsB H2 A d v else Holds H2 A d v) → Post b' mg W σ A (op d) H2 Q → r v H2)
    (h : TEx b' F mg W (fun s => (fa s).bind op) σ H Q) : TEx b F mg W fa σ H r := by
  obtain ⟨sd, rel, p⟩ := h
  refine ⟨sd, rel, ?_⟩
  cases q : fa sd with
  | ok d =>
    dsimp only at p
    rw [q] at p
    intro v H2 s h
    exact hr _ d v H2 (fun a z => (rel.mono s).dom z) h (p.mono s)
  | ex c fs => dsimp only at p; rw [q] at p; exact p
  | no => dsimp only at p; rw [q] at p; exact p
theorem te2 {b1 b2 b' : Bool} {fa fb : EF} {op : D → D → R D} {mg : Str → Option Value} {σ : St} {H : Hp} {Q : VK} {r : V → V → Hp → Prop} 
    (hr : ∀ (A : Addr → Prop) d e v w H2, (∀ a, A a → H2 a ≠ none) → (if b1 = true then HoldsB H2 A d v else Holds H2 A d v) → (if b2 = true then HoldsB H2 A e w else Holds H2 A e w) → Post b' mg W σ A (op d e) H2 Q → r v w H2)
    (h : TEx b' F mg W (fun s => (fa s).bind fun x => (fb s).bind fun y => op x y) σ H Q) : TEx b1 F mg W fa σ H fun v H1 => TEx b2 F mg W fb σ H1 (r v) := by
  obtain ⟨sd, rel, p⟩ := h
  refine ⟨sd, rel, ?_⟩
  cases q : fa sd with
  | ok d =>
    dsimp only at p
    rw [q] at p
    intro v H2 s h
    refine ⟨sd, rel.mono s, ?_⟩
    cases q2 : fb sd with
    | ok e =>
      rw [R.bind_ok, q2] at p
      intro w H3 s3 h3
      refine hr _ d e v w H3 (fun a z => ((rel.mono s).mono s3).dom z) ?_ h3 (Post.mono (s.trans s3) p)
      by_cases hb : b1 = true
      · rw [if_pos hb] at h ⊢; exact h.same s3
      · rw [if_neg hb] at h ⊢; exact h.same s3
    | ex c fs => rw [R.bind_ok, q2] at p; exact Post.mono (r := .ex c fs) s p
    | no => rw [R.bind_ok, q2] at p; exact p
  | ex c fs => dsimp only at p; rw [q] at p; exact p
  | no => dsimp only at p; rw [q] at p; exact p

/-! ### names, constants -/
def eVar (i : Nat) : EF := fun s => match s[i]? with
  | some (.sh d) => .ok d
  | _ => .no
def bVar (i : Nat) : EF := fun s => match s[i]? with
  | some (.sh d) => .ok d
  | some (.ol ds) => .ok (.lst ds)
  | some (.od ds) => .ok (.dk ds)
  | some (.oi C fs) => .ok (.ins C fs)
  | some (.bw d) => .ok d
  | _ => .no
def eC (d : D) : EF := fun _ => .ok d
theorem de_var (i : Nat) {x : Str} {pos : Pos} (hN : X.N[i]? = some x := by rfl) (hv : Vis X.env.scope x := by first | exact Or.inl rfl | exact Or.inr (Or.inl rfl) | exact Or.inr (Or.inr rfl)) (hd : (x == ("__debug__" : Str)) = false := by decide)
    (hcd : (x == ("__classdict__" : Str)) = false := by decide) : DE F X W (.Name x pos) (eVar i) := ⟨PE.weak (pe_var hN hv hd hcd) fun σ H Q ⟨sd, rel, p⟩ => by
  unfold eVar at p
  cases q : sd[i]? with
  | none => rw [q] at p; exact p.elim
  | some s =>
    rw [q] at p
    obtain ⟨v, e, h⟩ := rel.slot i s q
    cases s with
    | sh d => obtain ⟨x, rfl, h⟩ := h; exact ⟨x, e, p x H (Same.refl H) h⟩
    | _ => exact p.elim⟩
theorem db_var (i : Nat) {x : Str} {pos : Pos} (hN : X.N[i]? = some x := by rfl) (hv : Vis X.env.scope x := by first | exact Or.inl rfl | exact Or.inr (Or.inl rfl) | exact Or.inr (Or.inr rfl)) (hd : (x == ("__debug__" : Str)) = false := by decide)
    (hcd : (x == ("__classdict__" : Str)) = false := by decide) : DB F X W (.Name x pos) (bVar i) := ⟨PE.weak (pe_var hN hv hd hcd) fun σ H Q ⟨sd, rel, p⟩ => by
  unfold bVar at p
  cases q : sd[i]? with
  | none => rw [q] at p; exact p.elim
  | some s =>
    rw [q] at p
    obtain ⟨v, e, h⟩ := rel.slot i s q
    cases s with
    | sh d => obtain ⟨x, rfl, h⟩ := h; exact ⟨x, e, p x H (Same.refl H) (Holds.b h)⟩
    | un => exact p.elim
    | xc => exact p.elim
    | ol ds => obtain ⟨a, vs, rfl, n, r, l⟩ := h; exact ⟨_, e, p _ H (Same.refl H) ⟨a, vs, rfl, r, l⟩⟩
    | od ds => obtain ⟨a, vs, rfl, n, r, l⟩ := h; exact ⟨_, e, p _ H (Same.refl H) ⟨a, vs, rfl, .inl r, l⟩⟩
    | oi C ds => obtain ⟨a, dx, vs, rfl, n, r, l⟩ := h; exact ⟨_, e, p _ H (Same.refl H) ⟨a, dx, vs, rfl, r, l⟩⟩
    | bw d => obtain ⟨x, rfl, h⟩ := h; exact ⟨x, e, p x H (Same.refl H) (HoldsB.same rel.same h)⟩⟩
theorem de_int {i j pos} : DE F X W (.Constant (.int i) j pos) (eC (.int i)) := ⟨PE.weak pe_int fun σ H Q ⟨sd, rel, p⟩ => p _ H (Same.refl H) rfl⟩
theorem de_bl {i j pos} : DE F X W (.Constant (.bool i) j pos) (eC (.bl i)) := ⟨PE.weak pe_bl fun σ H Q ⟨sd, rel, p⟩ => p _ H (Same.refl H) rfl⟩
theorem de_str {i j pos} : DE F X W (.Constant (.str i) j pos) (eC (.str i)) := ⟨PE.weak pe_str fun σ H Q ⟨sd, rel, p⟩ => p _ H (Same.refl H) rfl⟩
theorem de_non {j pos} : DE F X W (.Constant .none j pos) (eC .non) := ⟨PE.weak pe_non fun σ H Q ⟨sd, rel, p⟩ => p _ H (Same.refl H) rfl⟩
/-- a module's constant: an int, a text -/
theorem de_gint {x : Str} {i : Int} {t : Tok} {pos : Pos} (hg : Gl X x) (hm : X.mg x = some (.int i t)) (hd : (x == ("__debug__" : Str)) = false := by decide) : DE F X W (.Name x pos) (eC (.int i)) :=
  ⟨PE.weak (pe_glob (v := .int i) hg hm ⟨t, rfl⟩ hd) fun σ H Q ⟨sd, rel, p⟩ => p _ H (Same.refl H) rfl⟩
theorem de_gstr {x : Str} {i : Str} {t : Tok} {pos : Pos} (hg : Gl X x) (hm : X.mg x = some (.str i t)) (hd : (x == ("__debug__" : Str)) = false := by decide) : DE F X W (.Name x pos) (eC (.str i)) :=
  ⟨PE.weak (pe_glob (v := .str i) hg hm ⟨t, rfl⟩ hd) fun σ H Q ⟨sd, rel, p⟩ => p _ H (Same.refl H) rfl⟩

/-! ### operators -/
def eBin (op : D → D → R D) (fa fb : EF) : EF := fun s => (fa s).bind fun x => (fb s).bind fun y => op x y
def eUn (op : D → R D) (fa : EF) : EF := fun s => (fa s).bind op
/-- the operator by plain data is the operator's rule -/
def OpOk (r : R2) (op : D → D → R D) : Prop := ∀ (mg : Str → Option Value) (W : WX) (σ : St) (A : Addr → Prop) (d e : D) (v w : V) (H : Hp) (Q : VK), (∀ a, A a → H a ≠ none) → HoldsB H A d v → HoldsB H A e w → Post false mg W σ A (op d e) H Q → r v w H Q
def UnOk (r : V → Hp → VK → Prop) (op : D → R D) : Prop := ∀ (mg : Str → Option Value) (W : WX) (σ : St) (A : Addr → Prop) (d : D) (v : V) (H : Hp) (Q : VK), (∀ a, A a → H a ≠ none) → HoldsB H A d v → Post false mg W σ A (op d) H Q → r v H Q
variable {a b c e : Expr} {fa fb fc : EF} {pos : Pos}
theorem de_bin {o : Operator} {r : R2} {op : D → D → R D} (ho : OpR X (binaryOp o) r) (hk : OpOk r op) (ha : DB F X W a fa) (hb : DB F X W b fb) : DE F X W (.BinOp a o b pos) (eBin op fa fb) :=
  ⟨PE.weak (pe_op ho ha.pe hb.pe) fun σ H Q h => te2 (b' := false) (fun A d e v w H2 dm h1 h2 p => hk X.mg W σ A d e v w H2 Q dm h1 h2 p) h⟩
theorem de_cmp {o : CmpOp} {r : R2} {op : D → D → R D} (ho : OpR X (compareOp o) r) (hk : OpOk r op) (ha : DB F X W a fa) (hb : DB F X W b fb) (hm : behindInMarks o b = false) : DE F X W (.Compare a [o] [b] pos) (eBin op fa fb) :=
  ⟨PE.weak (pe_cmpR ho ha.pe hb.pe hm) fun σ H Q h => te2 (b' := false) (fun A d e v w H2 dm h1 h2 p => hk X.mg W σ A d e v w H2 Q dm h1 h2 p) h⟩
theorem de_un {o : UnaryOp} {r : V → Hp → VK → Prop} {op : D → R D} (ho : UnR X (unaryOp o) r) (hk : UnOk r op) (ha : DB F X W a fa) : DE F X W (.UnaryOp o a pos) (eUn op fa) :=
  ⟨PE.weak (pe_un ho ha.pe) fun σ H Q h => te1 (b' := false) (fun A d v H2 dm h1 p => hk X.mg W σ A d v H2 Q dm h1 p) h⟩
theorem de_ix {r : R2} {op : D → D → R D} (hr : IxR X r) (hk : OpOk r op) (ha : DB F X W a fa) (hb : DB F X W b fb) (hs : PlainIx b) : DE F X W (.Subscript a b pos) (eBin op fa fb) :=
  ⟨PE.weak (pe_ix hr ha.pe hb.pe hs) fun σ H Q h => te2 (b' := false) (fun A d e v w H2 dm h1 h2 p => hk X.mg W σ A d e v w H2 Q dm h1 h2 p) h⟩
theorem de_ifExp' {c : Expr} {tc : TT} {f : EF} (hc : PT X c tc) (ha : DE F X W a fa) (hb : DE F X W b fb) (h : ∀ σ H Q, TEx false F X.mg W f σ H Q → tc σ H fun c H1 => if c = true then TEx false F X.mg W fa σ H1 Q else TEx false F X.mg W fb σ H1 Q) : DE F X W (.IfExp c a b pos) f :=
  ⟨PE.weak (pe_ifExp hc ha.pe hb.pe) h⟩
end DS
set_option Elab.async false
set_option linter.all false
set_option maxRecDepth 100000
set_option maxHeartbeats 2000000
namespace DS
open PySem L2
variable {F : Fr} {X : Cx} {W : WX}

/-! ### alternatives -/
theorem PE.or {X : Cx} {e : Expr} {t t' : TE} (h : PE X e t) (h' : PE X e t') : PE X e (fun σ H Q => t σ H Q ∨ t' σ H Q) := ⟨fun pins s σ H Q I q => q.elim (h.run pins s σ H Q I) (h'.run pins s σ H Q I)⟩
theorem PT.or {X : Cx} {e : Expr} {t t' : TT} (h : PT X e t) (h' : PT X e t') : PT X e (fun σ H Q => t σ H Q ∨ t' σ H Q) := ⟨fun pins s σ H Q I q => q.elim (h.run pins s σ H Q I) (h'.run pins s σ H Q I)⟩
theorem PT.weak {X : Cx} {e : Expr} {t t' : TT} (h : PT X e t) (k : ∀ σ H Q, t' σ H Q → t σ H Q) : PT X e t' := ⟨fun pins s σ H Q I q => h.run pins s σ H Q I (k _ _ _ q)⟩
theorem PA.weak {X : Cx} {e : List Expr} {t t' : TA} (h : PA X e t) (k : ∀ σ H Q, t' σ H Q → t σ H Q) : PA X e t' := ⟨fun pos pins s σ H Q I q => h.run pos pins s σ H Q I (k _ _ _ q)⟩
theorem PS.weak {X : Cx} {e : Stmt} {t t' : TS} (h : PS X e t) (k : ∀ D σ H, t' D σ H → t D σ H) : PS X e t' := ⟨fun pins s σ H D I q => h.run pins s σ H D I (k _ _ _ q)⟩
theorem PSs.weak {X : Cx} {e : List Stmt} {t t' : TS} (h : PSs X e t) (k : ∀ D σ H, t' D σ H → t D σ H) : PSs X e t' := ⟨fun pins s σ H D I q => h.run pins s σ H D I (k _ _ _ q)⟩

/-! ### the second operand, where the data are known -/
theorem te2s {b1 b2 b' : Bool} {fa fb : EF} {op : D → D → R D} {mg : Str → Option Value} {σ : St} {H : Hp} {Q : VK} {r : V → V → Hp → Prop} {sd : SD} (rel : Rel F σ H sd)
    (p : Post b' mg W σ (Av F σ sd) ((fa sd).bind fun x => (fb sd).bind fun y => op x y) H Q)
    (hr : ∀ (d e : D), fa sd = .ok d → fb sd = .ok e → ∀ (v w : V) (H2 : Hp), (∀ a, Av F σ sd a → H2 a ≠ none) → (if b1 = true then HoldsB H2 (Av F σ sd) d v else Holds H2 (Av F σ sd) d v) → (if b2 = true then HoldsB H2 (Av F σ sd) e w else Holds H2 (Av F σ sd) e w) → Post b' mg W σ (Av F σ sd) (op d e) H2 Q → r v w H2) :
    TEx b1 F mg W fa σ H fun v H1 => TEx b2 F mg W fb σ H1 (r v) := by
  refine ⟨sd, rel, ?_⟩
  cases q : fa sd with
  | ok d =>
    rw [q] at p
    intro v H2 s h
    refine ⟨sd, rel.mono s, ?_⟩
    cases q2 : fb sd with
    | ok e =>
      rw [R.bind_ok, q2] at p
      intro w H3 s3 h3
      refine hr d e q q2 v w H3 (fun a z => ((rel.mono s).mono s3).dom z) ?_ h3 (Post.mono (s.trans s3) p)
      by_cases hb : b1 = true
      · rw [if_pos hb] at h ⊢; exact h.same s3
      · rw [if_neg hb] at h ⊢; exact h.same s3
    | ex c fs => rw [R.bind_ok, q2] at p; exact Post.mono (r := .ex c fs) s p
    | no => rw [R.bind_ok, q2] at p; exact p
  | ex c fs => rw [q] at p; exact p
  | no => rw [q] at p; exact p
theorem te1s {b b' : Bool} {fa : EF} {op : D → R D} {mg : Str → Option Value} {σ : St} {H : Hp} {Q : VK} {r : V → Hp → Prop} {sd : SD} (rel : Rel F σ H sd)
    (p : Post b' mg W σ (Av F σ sd) ((fa sd).bind op) H Q)
    (hr : ∀ (d : D), fa sd = .ok d → ∀ (v : V) (H2 : Hp), Rel F σ H2 sd → (if b = true then HoldsB H2 (Av F σ sd) d v else Holds H2 (Av F σ sd) d v) → Post b' mg W σ (Av F σ sd) (op d) H2 Q → r v H2) :
    TEx b F mg W fa σ H r := by
  refine ⟨sd, rel, ?_⟩
  cases q : fa sd with
  | ok d =>
    rw [q] at p
    intro v H2 s h
    exact hr d q v H2 (rel.mono s) h (p.mono s)
  | ex c fs => rw [q] at p; exact p
  | no => rw [q] at p; exact p

theorem nilV {H : Hp} {A : Addr → Prop} {ds : List D} (h : HoldsL H A ds []) : ds = [] := by
  have e := h.length
  cases ds with
  | nil => rfl
  | cons _ _ => simp at e
/-! ### arithmetic by plain data -/
def opAdd : D → D → R D
  | .int i, .int j => .ok (.int (i + j))
  | .str i, .str j => if i.length + j.length ≤ sizeLine then .ok (.str (i ++ j)) else .no
  | .lst i, .lst j => if i.length + j.length ≤ sizeLine then .ok (.lst (i ++ j)) else .no
  | .tup i, .tup j => if i.length + j.length ≤ sizeLine then .ok (.tup (i ++ j)) else .no
  | _, _ => .no
def rAddA (K : PySem.W.Frag) : R2 := fun x y H Q => (rI0 (fun i j => .int (i + j)) x y H Q ∨ (∃ i j, x = .str i ∧ y = .str j ∧ i.length + j.length ≤ sizeLine ∧ Q (.str (i ++ j)) H)) ∨ (rCat x y H Q ∨ rCatA K x y H Q)
theorem or_add : OpR X (binaryOp .Add) (rAddA X.K) := (op_add.or op_add_str).or (op_cat.or op_catA)
theorem ok_add {K : PySem.W.Frag} : OpOk (rAddA K) opAdd := by
  intro mg W σ A d e v w H Q dm h1 h2 p
  unfold opAdd at p
  split at p
  · cases h1; cases h2
    exact .inl (.inl ⟨_, _, rfl, rfl, p _ H (Same.refl H) rfl⟩)
  · cases h1; cases h2
    split at p
    · rename_i hl
      exact .inl (.inr ⟨_, _, rfl, rfl, hl, p _ H (Same.refl H) rfl⟩)
    · exact p.elim
  · obtain ⟨a, vs, rfl, ha, l1⟩ := h1
    obtain ⟨b, ws, rfl, hb, l2⟩ := h2
    split at p
    · rename_i hl
      refine .inr (.inl ⟨a, b, vs, ws, rfl, rfl, ha, hb, by rw [l1.length, l2.length]; exact hl, fun q hq => ?_⟩)
      exact p _ _ (same_upd hq) ⟨q, _, rfl, fun z => dm q z hq, upd_same, (l1.append l2).same (same_upd hq)⟩
    · exact p.elim
  · have h1' := h1
    have h2' := h2
    obtain ⟨a, vs, rfl, na, ha, l1⟩ := h1
    obtain ⟨b, ws, rfl, nb, hb, l2⟩ := h2
    split at p
    · rename_i hl
      refine .inr (.inr ⟨a, b, vs, ws, rfl, rfl, SqT.of ha, SqT.of hb, by rw [l1.length, l2.length]; exact hl, fun e => ?_, fun _ e => ?_, fun _ _ q hq => ?_⟩)
      · subst e
        have e2 := nilV l1
        subst e2
        exact p _ H (Same.refl H) h2'
      · subst e
        have e2 := nilV l2
        subst e2
        rw [List.append_nil] at p
        exact p _ H (Same.refl H) h1'
      · exact p _ _ (same_upd hq) ⟨q, _, rfl, fun z => dm q z hq, upd_same, (l1.append l2).same (same_upd hq)⟩
    · exact p.elim
  · exact p.elim

def opI2 (C : Int → Int → Bool) (g : Int → Int → D) : D → D → R D
  | .int i, .int j => if C i j = true then .ok (g i j) else .no
  | _, _ => .no
theorem ok_I2 {C : Int → Int → Prop} {c : Int → Int → Bool} {g : Int → Int → V} {g' : Int → Int → D} (hc : ∀ i j, c i j = true → C i j) (hg : ∀ i j H A, Holds H A (g' i j) (g i j)) : OpOk (rI C g) (opI2 c g') := by
  intro mg W σ A d e v w H Q dm h1 h2 p
  unfold opI2 at p
  split at p
  · cases h1; cases h2
    split at p
    · rename_i hl
      exact ⟨_, _, rfl, rfl, hc _ _ hl, p _ H (Same.refl H) (hg _ _ _ _)⟩
    · exact p.elim
  · exact p.elim
def opI0 (g : Int → Int → D) : D → D → R D
  | .int i, .int j => .ok (g i j)
  | _, _ => .no
theorem ok_I0 {g : Int → Int → V} {g' : Int → Int → D} (hg : ∀ i j H A, Holds H A (g' i j) (g i j)) : OpOk (rI0 g) (opI0 g') := by
  intro mg W σ A d e v w H Q dm h1 h2 p
  unfold opI0 at p
  split at p
  · cases h1; cases h2
    exact ⟨_, _, rfl, rfl, p _ H (Same.refl H) (hg _ _ _ _)⟩
  · exact p.elim
def opSub : D → D → R D := opI0 fun i j => .int (i - j)
theorem ok_sub : OpOk (rI0 fun i j => .int (i - j)) opSub := ok_I0 fun _ _ _ _ => rfl
/-- // by any number of fewer than 9000 bits -/
def CDivA (_ j : Int) : Prop := j ≠ 0 ∧ j.natAbs.log2 < 9000
theorem op_fdivA : OpR X (binaryOp .FloorDiv) (rI CDivA fun i j => .int (i.fdiv j)) := L2.opI fun i j _ _ _ _ _ hc q => PyProof.Rows.floordiv_int hc.1 q (.inl (PyProof.noPylong_of_log2 hc.2))
def opFdiv : D → D → R D := opI2 (fun _ j => decide (j ≠ 0 ∧ j.natAbs.log2 < 9000)) fun i j => .int (i.fdiv j)
theorem ok_fdiv : OpOk (rI CDivA fun i j => .int (i.fdiv j)) opFdiv := ok_I2 (fun i j h => by have := of_decide_eq_true h; exact this) fun _ _ _ _ => rfl
def opMod : D → D → R D := opI2 (fun _ j => decide (j ≠ 0)) fun i j => .int (i.fmod j)
theorem ok_mod : OpOk (rI (fun _ j => j ≠ 0) fun i j => .int (i.fmod j)) opMod := ok_I2 (fun i j h => of_decide_eq_true h) fun _ _ _ _ => rfl
def opPow : D → D → R D := opI2 (fun i j => decide (0 ≤ j ∧ j.natAbs ≤ 1000000 ∧ i.natAbs < 2 ^ 64)) fun i j => .int (i ^ j.toNat)
theorem ok_pow : OpOk (rI CPow fun i j => .int (i ^ j.toNat)) opPow := ok_I2 (fun i j h => by have := of_decide_eq_true h; exact ⟨this.1, by omega, this.2.2⟩) fun _ _ _ _ => rfl
theorem holdsL_rep {H : Hp} {A : Addr → Prop} {ds : List D} {vs : List V} (h : HoldsL H A ds vs) : ∀ n : Nat, HoldsL H A (List.replicate n ds).flatten (List.replicate n vs).flatten
  | 0 => rfl
  | n + 1 => by simp only [List.replicate_succ, List.flatten_cons]; exact h.append (holdsL_rep h n)
def opMul : D → D → R D
  | .int i, .int j => if i.natAbs.log2 + j.natAbs.log2 < 1000000 then .ok (.int (i * j)) else .no
  | .lst xs, .int k => if k.natAbs < 2 ^ 61 ∧ xs.length * k.toNat ≤ sizeLine then .ok (.lst (List.replicate k.toNat xs).flatten) else .no
  | .tup xs, .int k => if xs ≠ [] ∧ 2 ≤ k ∧ k ≤ 1000 ∧ xs.length ≤ 1000 then .ok (.tup (List.replicate k.toNat xs).flatten) else .no
  | _, _ => .no
def rMulA (K : PySem.W.Frag) : R2 := fun x y H Q => rI CMulW (fun i j => .int (i * j)) x y H Q ∨ (rRep x y H Q ∨ rRepT K x y H Q)
theorem or_mul : OpR X (binaryOp .Mult) (rMulA X.K) := op_mulW.or (op_rep.or op_repT)
theorem ok_mul {K : PySem.W.Frag} : OpOk (rMulA K) opMul := by
  intro mg W σ A d e v w H Q dm h1 h2 p
  unfold opMul at p
  split at p
  · cases h1; cases h2
    split at p
    · rename_i hl
      exact .inl ⟨_, _, rfl, rfl, hl, p _ H (Same.refl H) rfl⟩
    · exact p.elim
  · obtain ⟨a, vs, rfl, ha, l1⟩ := h1
    cases h2
    split at p
    · rename_i hl
      refine .inr (.inl ⟨a, _, vs, rfl, rfl, ha, by omega, by omega, by rw [l1.length]; exact hl.2, fun q hq => ?_⟩)
      exact p _ _ (same_upd hq) ⟨q, _, rfl, fun z => dm q z hq, upd_same, (holdsL_rep l1 _).same (same_upd hq)⟩
    · exact p.elim
  · obtain ⟨a, vs, rfl, na, ha, l1⟩ := h1
    cases h2
    split at p
    · rename_i hl
      refine .inr (.inr ⟨a, _, vs, rfl, rfl, SqT.of ha, ?_, hl.2.1, hl.2.2.1, by rw [l1.length]; exact hl.2.2.2, fun q hq => ?_⟩)
      · intro z
        subst z
        exact hl.1 (nilV l1)
      · exact p _ _ (same_upd hq) ⟨q, _, rfl, fun z => dm q z hq, upd_same, (holdsL_rep l1 _).same (same_upd hq)⟩
    · exact p.elim
  · exact p.elim
def opNeg : D → R D
  | .int i => .ok (.int (-i))
  | _ => .no
theorem ok_neg : UnOk (rU fun i => .int (-i)) opNeg := by
  intro mg W σ A d v H Q dm h1 p
  unfold opNeg at p
  split at p
  · cases h1
    exact ⟨_, rfl, p _ H (Same.refl H) rfl⟩
  · exact p.elim

/-! ### comparisons -/
def opLt : D → D → R D := opI0 fun i j => .bl (decide (i < j))
theorem ok_lt : OpOk (rI0 fun i j => .bl (decide (i < j))) opLt := ok_I0 fun _ _ _ _ => rfl
def opLe : D → D → R D := opI0 fun i j => .bl (decide (i ≤ j))
theorem ok_le : OpOk (rI0 fun i j => .bl (decide (i ≤ j))) opLe := ok_I0 fun _ _ _ _ => rfl
def opGt : D → D → R D := opI0 fun i j => .bl (decide (j < i))
theorem ok_gt : OpOk (rI0 fun i j => .bl (decide (j < i))) opGt := ok_I0 fun _ _ _ _ => rfl
def opGe : D → D → R D := opI0 fun i j => .bl (decide (j ≤ i))
theorem ok_ge : OpOk (rI0 fun i j => .bl (decide (j ≤ i))) opGe := ok_I0 fun _ _ _ _ => rfl
mutual
def toPy : D → Option PyData
  | .non => some .none
  | .bl b => some (.bool b)
  | .int i => some (.int i)
  | .str s => some (.str s)
  | .lst xs => (toPyL xs).map .list
  | .tup xs => (toPyL xs).map .tuple
  | _ => none
def toPyL : List D → Option (List PyData)
  | [] => some []
  | d :: ds => match toPy d, toPyL ds with
    | some p, some q => some (p :: q)
    | _, _ => none
end
mutual
theorem dp_of {K : PySem.W.Frag} {H : Hp} {A : Addr → Prop} : ∀ (d : D) {p : PyData} {v : V}, toPy d = some p → Holds H A d v → Dp K H v p
  | .non, p, v, e, h => by simp [toPy] at e; subst e; cases h; exact .non
  | .bl b, p, v, e, h => by simp [toPy] at e; subst e; cases h; exact .bl b
  | .int i, p, v, e, h => by simp [toPy] at e; subst e; cases h; exact .int i
  | .str s, p, v, e, h => by simp [toPy] at e; subst e; cases h; exact .str s
  | .scr _, p, v, e, h => by simp [toPy] at e
  | .dk _, p, v, e, h => by simp [toPy] at e
  | .ins _ _, p, v, e, h => by simp [toPy] at e
  | .kt _ _, p, v, e, h => by simp [toPy] at e
  | .exc _ _ _, p, v, e, h => by simp [toPy] at e
  | .lst xs, p, v, e, h => by
    simp only [toPy, Option.map_eq_some_iff] at e
    obtain ⟨q, e1, e2⟩ := e
    subst e2
    obtain ⟨a, vs, rfl, _, r, l⟩ := h
    exact .lst (SqL.of r) (dpL_of xs e1 l)
  | .tup xs, p, v, e, h => by
    simp only [toPy, Option.map_eq_some_iff] at e
    obtain ⟨q, e1, e2⟩ := e
    subst e2
    obtain ⟨a, vs, rfl, _, r, l⟩ := h
    exact .tup (SqT.of r) (dpL_of xs e1 l)
theorem dpL_of {K : PySem.W.Frag} {H : Hp} {A : Addr → Prop} : ∀ (ds : List D) {ps : List PyData} {vs : List V}, toPyL ds = some ps → HoldsL H A ds vs → DpAll K H vs ps
  | [], ps, vs, e, h => by simp [toPyL] at e; subst e; cases h; exact .nil
  | d :: ds, ps, vs, e, h => by
    obtain ⟨v, r, rfl, h1, h2⟩ := h
    simp only [toPyL] at e
    split at e
    · rename_i p q e1 e2
      cases e
      exact .cons (dp_of d e1 h1) (dpL_of ds e2 h2)
    · cases e
end
theorem dp_ofB {K : PySem.W.Frag} {H : Hp} {A : Addr → Prop} (d : D) {p : PyData} {v : V} (e : toPy d = some p) (h : HoldsB H A d v) : Dp K H v p := by
  cases d with
  | lst xs =>
    simp only [toPy, Option.map_eq_some_iff] at e
    obtain ⟨q, e1, e2⟩ := e
    subst e2
    obtain ⟨a, vs, rfl, r, l⟩ := h
    exact .lst (SqL.of r) (dpL_of xs e1 l)
  | dk xs => simp [toPy] at e
  | ins xs _ => simp [toPy] at e
  | kt xs _ => simp [toPy] at e
  | exc xs _ _ => simp [toPy] at e
  | _ => exact dp_of (A := A) _ e h
def eqD (d e : D) : Option Bool := match toPy d, toPy e with
  | some p, some q => if SeqAt.shaped p = true ∧ SeqAt.shaped q = true then some (PyData.eqv p q) else none
  | _, _ => none
def opEq (d e : D) : R D := match eqD d e with
  | some b => .ok (.bl b)
  | none => .no
def opNe (d e : D) : R D := match eqD d e with
  | some b => .ok (.bl (!b))
  | none => .no
theorem ok_eq {K : PySem.W.Frag} : OpOk (rEqD K) opEq := by
  intro mg W σ A d e v w H Q dm h1 h2 p
  unfold opEq eqD at p
  cases e1 : toPy d with
  | none => rw [e1] at p; exact p.elim
  | some d' =>
    cases e2 : toPy e with
    | none => rw [e1, e2] at p; exact p.elim
    | some e' =>
      rw [e1, e2] at p
      dsimp only at p
      by_cases hs : SeqAt.shaped d' = true ∧ SeqAt.shaped e' = true
      · rw [if_pos hs] at p
        exact ⟨d', e', dp_ofB d e1 h1, dp_ofB e e2 h2, hs.1, hs.2, p _ H (Same.refl H) rfl⟩
      · rw [if_neg hs] at p
        exact p.elim
theorem ok_ne {K : PySem.W.Frag} : OpOk (rNeD K) opNe := by
  intro mg W σ A d e v w H Q dm h1 h2 p
  unfold opNe eqD at p
  cases e1 : toPy d with
  | none => rw [e1] at p; exact p.elim
  | some d' =>
    cases e2 : toPy e with
    | none => rw [e1, e2] at p; exact p.elim
    | some e' =>
      rw [e1, e2] at p
      dsimp only at p
      by_cases hs : SeqAt.shaped d' = true ∧ SeqAt.shaped e' = true
      · rw [if_pos hs] at p
        exact ⟨d', e', dp_ofB d e1 h1, dp_ofB e e2 h2, hs.1, hs.2, p _ H (Same.refl H) rfl⟩
      · rw [if_neg hs] at p
        exact p.elim
/-- is None -/
def isNone : D → Bool
  | .non => true
  | _ => false
theorem holdsB_non {H : Hp} {A : Addr → Prop} {d : D} {v : V} (h : HoldsB H A d v) : decide (v = .non) = isNone d := by
  cases d with
  | non => cases h; rfl
  | bl _ => cases h; rfl
  | int _ => cases h; rfl
  | str _ => cases h; rfl
  | scr xs => obtain ⟨a, rfl, _⟩ := h; rfl
  | lst xs => obtain ⟨a, vs, rfl, _⟩ := h; rfl
  | tup xs => obtain ⟨a, vs, rfl, _⟩ := h; rfl
  | dk xs => obtain ⟨a, vs, rfl, _⟩ := h; rfl
  | ins C xs => obtain ⟨a, dx, vs, rfl, _⟩ := h; rfl
  | kt T xs => cases h; rfl
  | exc c C xs => obtain ⟨a, dx, vs, rfl, _⟩ := h; rfl
def opIsN (d e : D) : R D := if isNone e = true then .ok (.bl (isNone d)) else .no
def opNotN (d e : D) : R D := if isNone e = true then .ok (.bl (!isNone d)) else .no
theorem ok_isN : OpOk (fun x y H Q => y = .non ∧ Q (.bl (decide (x = .non))) H) opIsN := by
  intro mg W σ A d e v w H Q dm h1 h2 p
  unfold opIsN at p
  by_cases hn : isNone e = true
  · rw [if_pos hn] at p
    have := holdsB_non h2
    rw [hn] at this
    refine ⟨of_decide_eq_true this, p _ H (Same.refl H) ?_⟩
    rw [if_neg (by decide), holdsB_non h1]
    rfl
  · rw [if_neg hn] at p; exact p.elim
theorem ok_notN : OpOk (fun x y H Q => y = .non ∧ Q (.bl (!decide (x = .non))) H) opNotN := by
  intro mg W σ A d e v w H Q dm h1 h2 p
  unfold opNotN at p
  by_cases hn : isNone e = true
  · rw [if_pos hn] at p
    have := holdsB_non h2
    rw [hn] at this
    refine ⟨of_decide_eq_true this, p _ H (Same.refl H) ?_⟩
    rw [if_neg (by decide), holdsB_non h1]
    rfl
  · rw [if_neg hn] at p; exact p.elim
end DS
set_option Elab.async false
set_option linter.all false
set_option maxRecDepth 100000
set_option maxHeartbeats 2000000
namespace DS
open PySem L2
variable {F : Fr} {X : Cx} {W : WX} {a b c e : Expr} {fa fb fc : EF} {pos : Pos}

theorem no_p {P : Prop} {b mg W σ A H Q} (p : Post b mg W σ A .no H Q) : P := p.elim
theorem ok_p {mg W σ A H Q d v} (p : Post false mg W σ A (.ok d) H Q) (h : Holds H A d v) : Q v H := p v H (Same.refl H) h
theorem new_lst {mg W σ A H Q ds vs} (dm : ∀ a, A a → H a ≠ none) (p : Post false mg W σ A (.ok (.lst ds)) H Q) (h : HoldsL H A ds vs) : ∀ q, H q = none → Q (.ref q) (upd H q (.lst vs)) :=
  fun q hq => p _ _ (same_upd hq) ⟨q, _, rfl, fun z => dm q z hq, upd_same, h.same (same_upd hq)⟩
theorem new_tup {mg W σ A H Q ds vs} (dm : ∀ a, A a → H a ≠ none) (p : Post false mg W σ A (.ok (.tup ds)) H Q) (h : HoldsL H A ds vs) : ∀ q, H q = none → Q (.ref q) (upd H q (.tup vs)) :=
  fun q hq => p _ _ (same_upd hq) ⟨q, _, rfl, fun z => dm q z hq, upd_same, h.same (same_upd hq)⟩
theorem new_dk {mg W σ A H Q ds vs} (dm : ∀ a, A a → H a ≠ none) (p : Post false mg W σ A (.ok (.dk ds)) H Q) (h : HoldsK H A ds vs) : ∀ q, H q = none → Q (.ref q) (upd H q (.dK vs)) :=
  fun q hq => p _ _ (same_upd hq) ⟨q, _, rfl, fun z => dm q z hq, .inl upd_same, h.same (same_upd hq)⟩

/-! ### tables -/
section
variable {κ : Type} [DecidableEq κ]
def valD (kvs : List (κ × D)) (k : κ) : Option D := (kvs.find? fun kv => decide (kv.1 = k)).map (·.2)
def putD (kvs : List (κ × D)) (k : κ) (v : D) : List (κ × D) :=
  if (kvs.any fun kv => decide (kv.1 = k)) = true then kvs.map (fun kv => if kv.1 = k then (kv.1, v) else kv) else kvs ++ [(k, v)]
def dropD (kvs : List (κ × D)) (k : κ) : List (κ × D) := kvs.filter fun kv => decide (kv.1 ≠ k)
theorem valD_nil {k : κ} : valD ([] : List (κ × D)) k = none := rfl
theorem valD_pos {p : κ × D} {r : List (κ × D)} {k : κ} (e : p.1 = k) : valD (p :: r) k = some p.2 := by simp [valD, List.find?_cons, e]
theorem valD_neg {p : κ × D} {r : List (κ × D)} {k : κ} (e : ¬ p.1 = k) : valD (p :: r) k = valD r k := by simp [valD, List.find?_cons, e]
theorem valD_any (k : κ) : ∀ kvs : List (κ × D), (kvs.any fun kv => decide (kv.1 = k)) = (valD kvs k).isSome
  | [] => rfl
  | p :: r => by
    rw [List.any_cons]
    by_cases e : p.1 = k
    · simp only [valD_pos e, decide_eq_true e, Bool.true_or, Option.isSome_some]
    · rw [valD_neg e, decide_eq_false e, Bool.false_or]; exact valD_any k r
end
section
variable {H : Hp} {A : Addr → Prop}
theorem HoldsK.length : ∀ {ds : List (L2.Key × D)} {vs : List (L2.Key × V)}, HoldsK H A ds vs → vs.length = ds.length
  | [], _, h => by cases h; rfl
  | (k, d) :: ds, _, h => by obtain ⟨v, r, rfl, _, h2⟩ := h; simp [HoldsK.length h2]
theorem HoldsK.keys : ∀ {ds : List (L2.Key × D)} {vs : List (L2.Key × V)}, HoldsK H A ds vs → vs.map (·.1) = ds.map (·.1)
  | [], _, h => by cases h; rfl
  | (k, d) :: ds, _, h => by obtain ⟨v, r, rfl, _, h2⟩ := h; simp [HoldsK.keys h2]
theorem HoldsK.val (k : L2.Key) : ∀ {ds : List (L2.Key × D)} {vs : List (L2.Key × V)}, HoldsK H A ds vs → (valD ds k = none ∧ valV vs k = none) ∨ ∃ d v, valD ds k = some d ∧ valV vs k = some v ∧ Holds H A d v
  | [], _, h => by cases h; exact .inl ⟨rfl, rfl⟩
  | (k', d) :: ds, _, h => by
    obtain ⟨v, r, rfl, h1, h2⟩ := h
    by_cases e : k' = k
    · exact .inr ⟨d, v, valD_pos e, valV_pos e, h1⟩
    · rw [valD_neg (p := (k', d)) e, valV_neg (p := (k', v)) e]
      exact HoldsK.val k h2
theorem HoldsK.append : ∀ {ds es : List (L2.Key × D)} {vs ws : List (L2.Key × V)}, HoldsK H A ds vs → HoldsK H A es ws → HoldsK H A (ds ++ es) (vs ++ ws)
  | [], _, _, _, h, k => by cases h; exact k
  | (_, d) :: ds, _, _, _, h, k => by obtain ⟨v, r, rfl, h1, h2⟩ := h; exact ⟨v, _, rfl, h1, HoldsK.append h2 k⟩
theorem HoldsK.mapIf (k : L2.Key) {d : D} {v : V} (h : Holds H A d v) : ∀ {ds : List (L2.Key × D)} {vs : List (L2.Key × V)}, HoldsK H A ds vs → HoldsK H A (ds.map fun kv => if kv.1 = k then (kv.1, d) else kv) (vs.map fun kv => if kv.1 = k then (kv.1, v) else kv)
  | [], _, h => by cases h; rfl
  | (k', d') :: ds, _, h' => by
    obtain ⟨v', r, rfl, h1, h2⟩ := h'
    have ih := HoldsK.mapIf k h h2
    rw [List.map_cons, List.map_cons]
    by_cases e : k' = k
    · rw [if_pos e, if_pos e]
      exact ⟨v, _, rfl, h, ih⟩
    · rw [if_neg e, if_neg e]
      exact ⟨v', _, rfl, h1, ih⟩
theorem HoldsK.any (k : L2.Key) {ds : List (L2.Key × D)} {vs : List (L2.Key × V)} (h : HoldsK H A ds vs) : (vs.any fun kv => decide (kv.1 = k)) = (ds.any fun kv => decide (kv.1 = k)) := by
  rw [valV_any, valD_any]
  rcases h.val k with ⟨e1, e2⟩ | ⟨d, v, e1, e2, _⟩ <;> rw [e1, e2] <;> rfl
theorem HoldsK.put {ds : List (L2.Key × D)} {vs : List (L2.Key × V)} (h : HoldsK H A ds vs) (k : L2.Key) {d : D} {v : V} (hd : Holds H A d v) : HoldsK H A (putD ds k d) (putK vs k v) := by
  unfold putD putK
  rw [h.any k]
  split
  · exact h.mapIf k hd
  · exact h.append ⟨v, [], rfl, hd, rfl⟩
end
def keyD : D → Option L2.Key
  | .int i => some (.inl i)
  | .str s => some (.inr s)
  | _ => none
theorem keyD_v {H : Hp} {A : Addr → Prop} {d : D} {v : V} {k : L2.Key} (h : HoldsB H A d v) (e : keyD d = some k) : v = kV k := by
  unfold keyD at e
  split at e
  · cases e; cases h; rfl
  · cases e; cases h; rfl
  · cases e
def keyDd : L2.Key → D
  | .inl i => .int i
  | .inr s => .str s

/-! ### subscripts -/
def opIx : D → D → R D
  | .lst xs, .int i => match atI xs i with
    | some d => .ok d
    | none => .no
  | .tup xs, .int i => match atI xs i with
    | some d => .ok d
    | none => .no
  | .scr xs, .int i => match atI xs i with
    | some d => .ok (.int d)
    | none => .no
  | .str z, .int i => if z.length ≤ sizeLine then (match atI z.cps.toList i with
    | some c => .ok (.str ⟨#[c]⟩)
    | none => .no) else .no
  | .dk kvs, y => match keyD y with
    | some k => (match valD kvs k with
      | some d => .ok d
      | none => .no)
    | none => .no
  | _, _ => .no
theorem atI_map {α β : Type} (f : α → β) (xs : List α) (i : Int) : atI (xs.map f) i = (atI xs i).map f := by
  unfold atI
  rw [List.length_map]
  cases ixN xs.length i with
  | none => rfl
  | some k => simp
theorem HoldsL.atI {H : Hp} {A : Addr → Prop} {ds : List D} {vs : List V} {i : Int} {d : D} (h : HoldsL H A ds vs) (e : L2.atI ds i = some d) : ∃ v, L2.atI vs i = some v ∧ Holds H A d v := by
  unfold L2.atI at e ⊢
  rw [h.length]
  cases q : ixN ds.length i with
  | none => rw [q] at e; cases e
  | some k => rw [q] at e; exact h.get e
def isDk : D → Bool
  | .dk _ => true
  | _ => false
theorem de_sub (hu : X.A.units + 64 < cLine) (ha : DB F X W a fa) (hb : DB F X W b fb) (hs : PlainIx b) : DE F X W (.Subscript a b pos) (eBin opIx fa fb) :=
  ⟨PE.weak (PE.or (pe_ix ix_seq ha.pe hb.pe hs) (pe_dget (by omega) ha.pe hb.pe hs)) fun σ H Q ⟨sd, rel, p⟩ => by
    unfold eBin at p
    by_cases hd : ∃ kvs, fa sd = .ok (.dk kvs)
    · obtain ⟨kvs, hd⟩ := hd
      refine .inr (te2s rel p fun d e q1 q2 v w H2 dm h1 h2 p2 => ?_)
      rw [hd] at q1
      cases q1
      obtain ⟨a, ws, rfl, r, l⟩ := h1
      unfold opIx at p2
      dsimp only at p2
      cases q : keyD e with
      | none => rw [q] at p2; exact p2.elim
      | some k =>
        rw [q] at p2
        dsimp only at p2
        have := keyD_v h2 q
        subst this
        rcases l.val k with ⟨e1, _⟩ | ⟨d, v, e1, e2, hh⟩
        · rw [e1] at p2; exact p2.elim
        · rw [e1] at p2
          exact ⟨a, v, rfl, .inl ⟨ws, k, r, rfl, e2.symm⟩, ok_p p2 hh⟩
    · refine .inl (te2s rel p fun d e q1 q2 v w H2 dm h1 h2 p2 => ?_)
      unfold opIx at p2
      split at p2
      · obtain ⟨a, vs, rfl, r, l⟩ := h1
        cases h2
        split at p2
        · rename_i he
          obtain ⟨v, ev, hv⟩ := l.atI he
          exact .inl ⟨a, vs, _, v, rfl, rfl, SqL.of r, ev, ok_p p2 hv⟩
        · exact p2.elim
      · obtain ⟨a, vs, rfl, na, r, l⟩ := h1
        cases h2
        split at p2
        · rename_i he
          obtain ⟨v, ev, hv⟩ := l.atI he
          exact .inr (.inl ⟨a, vs, _, v, rfl, rfl, SqT.of r, ev, ok_p p2 hv⟩)
        · exact p2.elim
      · obtain ⟨a, rfl, na, r⟩ := h1
        cases h2
        split at p2
        · rename_i he
          exact .inl ⟨a, _, _, _, rfl, rfl, .inl r, by rw [atI_map, he]; rfl, ok_p p2 rfl⟩
        · exact p2.elim
      · cases h1
        cases h2
        split at p2
        · rename_i hl
          split at p2
          · rename_i he
            exact .inr (.inr ⟨_, _, _, rfl, rfl, hl, he, ok_p p2 rfl⟩)
          · exact p2.elim
        · exact p2.elim
      · exact (hd ⟨_, q1⟩).elim
      · exact p2.elim⟩

/-! ### slices -/
def TOx (F : Fr) (mg : Str → Option Value) (W : WX) (f : SD → R (Option Int)) : TO := fun σ H Q => ∃ sd, Rel F σ H sd ∧ match f sd with
  | .ok i => ∀ H', Same H H' → Q i H'
  | .ex c fs => ∀ cls da H', Same H H' → ExRep mg H' (Av F σ sd) c fs cls da → W cls da σ H'
  | .no => False
structure DO (F : Fr) (X : Cx) (W : WX) (o : Option Expr) (f : SD → R (Option Int)) : Prop where
  po : PO X o (TOx F X.mg W f)
theorem do_none : DO F X W none (fun _ => .ok none) := ⟨⟨fun pins s σ H Q I ⟨sd, rel, p⟩ => po_none.run pins s σ H Q I (p H (Same.refl H))⟩⟩
def asInt : D → R (Option Int)
  | .int i => .ok (some i)
  | _ => .no
theorem do_some (h : DB F X W e fa) : DO F X W (some e) (fun s => (fa s).bind asInt) := ⟨⟨fun pins s σ H Q I ⟨sd, rel, p⟩ => (po_some h.pe).run pins s σ H Q I ⟨sd, rel, by
  dsimp only at p
  cases q : fa sd with
  | ok d =>
    rw [q, R.bind_ok] at p
    intro v H' s hv
    unfold asInt at p
    split at p
    · rename_i i he
      split at he
      · cases he
        cases hv
        exact ⟨_, rfl, p H' s⟩
      · cases he
    · rename_i he
      split at he <;> cases he
    · exact p.elim
  | ex c fs => rw [q] at p; exact p
  | no => rw [q] at p; exact p⟩⟩⟩
def cutD (xs : List D) (lo hi : Option Int) : List D := (xs.drop (HT.sIx xs.length 0 lo)).take (HT.sIx xs.length xs.length hi - HT.sIx xs.length 0 lo)
theorem HoldsL.cut {H : Hp} {A : Addr → Prop} {ds : List D} {vs : List V} (h : HoldsL H A ds vs) (lo hi : Option Int) : HoldsL H A (cutD ds lo hi) (cutV vs lo hi) := by
  unfold cutD cutV
  rw [h.length]
  exact (h.drop _).take _
def opSlice : D → Option Int → Option Int → R D
  | .lst xs, lo, hi => .ok (.lst (cutD xs lo hi))
  | .tup xs, lo, hi => .ok (.tup (cutD xs lo hi))
  | .str z, lo, hi => if z.length ≤ sizeLine then .ok (.str (cutS z lo hi)) else .no
  | _, _, _ => .no
def eSlice (fa : EF) (fl fh : SD → R (Option Int)) : EF := fun s => (fa s).bind fun x => (fl s).bind fun lo => (fh s).bind fun hi => opSlice x lo hi
theorem de_slice {lo hi : Option Expr} {fl fh : SD → R (Option Int)} {p2 : Pos} (ha : DB F X W e fa) (hl : DO F X W lo fl) (hh : DO F X W hi fh) : DE F X W (.Subscript e (.Slice lo hi none p2) pos) (eSlice fa fl fh) :=
  ⟨PE.weak (pe_slice (SlR.or sl_list (SlR.or sl_tupA sl_str)) ha.pe hl.po hh.po) fun σ H Q ⟨sd, rel, p⟩ => by
    unfold eSlice at p
    refine ⟨sd, rel, ?_⟩
    cases q1 : fa sd with
    | no => rw [q1] at p; exact p
    | ex c fs => rw [q1] at p; exact p
    | ok d =>
      rw [q1, R.bind_ok] at p
      intro v H1 s1 hv
      have r1 := rel.mono s1
      refine ⟨sd, r1, ?_⟩
      cases q2 : fl sd with
      | no => rw [q2] at p; exact p
      | ex c fs => rw [q2] at p; exact Post.mono (r := .ex c fs) s1 p
      | ok lo =>
        rw [q2, R.bind_ok] at p
        intro H2 s2
        refine ⟨sd, r1.mono s2, ?_⟩
        cases q3 : fh sd with
        | no => rw [q3] at p; exact p
        | ex c fs => rw [q3] at p; exact Post.mono (r := .ex c fs) (s1.trans s2) p
        | ok hi =>
          rw [q3, R.bind_ok] at p
          intro H3 s3
          have hv3 : HoldsB H3 (Av F σ sd) d v := (HoldsB.same s2 hv).same s3
          have p3 := Post.mono (s1.trans (s2.trans s3)) p
          have dm : ∀ a, Av F σ sd a → H3 a ≠ none := fun a z => ((r1.mono s2).mono s3).dom z
          unfold opSlice at p3
          split at p3
          · obtain ⟨a, vs, rfl, r, l⟩ := hv3
            exact .inl ⟨a, vs, rfl, SqL.of r, new_lst dm p3 (l.cut _ _)⟩
          · have hv4 := hv3
            obtain ⟨a, vs, rfl, na, r, l⟩ := hv3
            refine .inr (.inl ⟨a, vs, rfl, SqT.of r, fun w => ?_, fun _ => new_tup dm p3 (l.cut _ _)⟩)
            refine ok_p p3 ?_
            have ec : ∀ xs : List D, xs.length = vs.length → cutD xs lo hi = xs := fun xs hx => by
              unfold cutD
              rw [hx, w.1, w.2, ← hx]
              simp
            rw [ec _ l.length.symm]
            exact hv4
          · cases hv3
            split at p3
            · rename_i hl
              exact .inr (.inr ⟨_, rfl, hl, ok_p p3 rfl⟩)
            · exact p3.elim
          · exact p3.elim⟩

/-! ### arguments -/
def HoldsXL (b : Bool) (H : Hp) (A : Addr → Prop) : List D → List V → Prop
  | [], vs => vs = []
  | d :: ds, vs => ∃ v r, vs = v :: r ∧ (if b = true then HoldsB H A d v else Holds H A d v) ∧ HoldsXL b H A ds r
theorem HoldsXL.l {H : Hp} {A : Addr → Prop} : ∀ {ds : List D} {vs : List V}, HoldsXL false H A ds vs → HoldsL H A ds vs
  | [], _, h => h
  | d :: ds, _, h => by obtain ⟨v, r, e, h1, h2⟩ := h; exact ⟨v, r, e, h1, HoldsXL.l h2⟩
def evalL : List EF → SD → R (List D)
  | [], _ => .ok []
  | f :: fs, s => (f s).bind fun d => (evalL fs s).bind fun ds => .ok (d :: ds)
def PostL (b : Bool) (mg : Str → Option Value) (W : WX) (σ : St) (A : Addr → Prop) (r : R (List D)) (H : Hp) (Q : List V → Hp → Prop) : Prop := match r with
  | .ok ds => ∀ vs H', Same H H' → HoldsXL b H' A ds vs → Q vs H'
  | .ex c fs => ∀ cls da H', Same H H' → ExRep mg H' A c fs cls da → W cls da σ H'
  | .no => False
theorem PostL.mono {b : Bool} {mg : Str → Option Value} {W : WX} {σ : St} {A : Addr → Prop} {r : R (List D)} {H H' : Hp} {Q : List V → Hp → Prop} (s : Same H H') (p : PostL b mg W σ A r H Q) : PostL b mg W σ A r H' Q := by
  cases r with
  | ok d => exact fun v H2 s2 h => p v H2 (s.trans s2) h
  | ex c fs => exact fun cls da H2 s2 h => p cls da H2 (s.trans s2) h
  | no => exact p
def TAx (b : Bool) (F : Fr) (mg : Str → Option Value) (W : WX) (f : SD → R (List D)) : TA := fun σ H Q => ∃ sd, Rel F σ H sd ∧ PostL b mg W σ (Av F σ sd) (f sd) H Q
structure DA (b : Bool) (F : Fr) (X : Cx) (W : WX) (es : List Expr) (fs : List EF) : Prop where
  pa : PA X es (TAx b F X.mg W (evalL fs))
theorem da_nil {b : Bool} : DA b F X W [] [] := ⟨PA.weak pa_nil fun σ H Q ⟨sd, rel, p⟩ => p [] H (Same.refl H) rfl⟩
theorem da_cons {b : Bool} {es : List Expr} {fs : List EF} (h : DX b F X W e fa) (hr : DA b F X W es fs) (hs : starEach (e :: es) X.env = (false, eval e X.env) :: starEach es X.env := by rfl) : DA b F X W (e :: es) (fa :: fs) :=
  ⟨PA.weak (pa_cons h.pe hr.pa hs) fun σ H Q ⟨sd, rel, p⟩ => by
    refine ⟨sd, rel, ?_⟩
    simp only [evalL] at p
    cases q1 : fa sd with
    | no => rw [q1] at p; exact p
    | ex c fs => rw [q1] at p; exact p
    | ok d =>
      rw [q1, R.bind_ok] at p
      intro v H1 s1 hv
      refine ⟨sd, rel.mono s1, ?_⟩
      cases q2 : evalL fs sd with
      | no => rw [q2] at p; exact p
      | ex c fs => rw [q2] at p; exact PostL.mono (r := .ex c fs) s1 p
      | ok ds =>
        rw [q2, R.bind_ok] at p
        intro vs H2 s2 hvs
        refine p (v :: vs) H2 (s1.trans s2) ⟨v, vs, rfl, ?_, hvs⟩
        by_cases hb : b = true
        · rw [if_pos hb] at hv ⊢; exact hv.same s2
        · rw [if_neg hb] at hv ⊢; exact hv.same s2⟩
/-- the arguments, then what is done with them -/
theorem tas {b b' : Bool} {fs : List EF} {op : List D → R D} {mg : Str → Option Value} {σ : St} {H : Hp} {Q : VK} {r : List V → Hp → Prop} {sd : SD} (rel : Rel F σ H sd)
    (p : Post b' mg W σ (Av F σ sd) ((evalL fs sd).bind op) H Q)
    (hr : ∀ (ds : List D), evalL fs sd = .ok ds → ∀ (vs : List V) (H2 : Hp), Same H H2 → Rel F σ H2 sd → HoldsXL b H2 (Av F σ sd) ds vs → Post b' mg W σ (Av F σ sd) (op ds) H2 Q → r vs H2) : TAx b F mg W (evalL fs) σ H r := by
  refine ⟨sd, rel, ?_⟩
  cases q : evalL fs sd with
  | ok d =>
    rw [q] at p
    intro v H2 s h
    exact hr d q v H2 s (rel.mono s) h (p.mono s)
  | ex c fs => rw [q] at p; exact p
  | no => rw [q] at p; exact p
def eAll (op : List D → R D) (fs : List EF) : EF := fun s => (evalL fs s).bind op

/-! ### displays -/
def opLst : List D → R D := fun ds => if ds.length ≤ sizeLine then .ok (.lst ds) else .no
def opTup : List D → R D := fun ds => if ds.length ≤ sizeLine then .ok (.tup ds) else .no
variable {es : List Expr} {fs : List EF}
theorem de_lst (h : DA false F X W es fs) : DE F X W (.List es pos) (eAll opLst fs) := ⟨PE.weak (pe_lst h.pa) fun σ H Q ⟨sd, rel, p⟩ => tas (b' := false) rel p fun ds q vs H2 _ r2 hv p2 => by
  unfold opLst at p2
  split at p2
  · rename_i hl
    exact ⟨by rw [hv.l.length]; exact hl, new_lst (fun a z => r2.dom z) p2 hv.l⟩
  · exact p2.elim⟩
theorem de_tup {k} (h : DA false F X W es fs) : DE F X W (.Tuple es k pos) (eAll opTup fs) := ⟨PE.weak (pe_tup h.pa) fun σ H Q ⟨sd, rel, p⟩ => tas (b' := false) rel p fun ds q vs H2 _ r2 hv p2 => by
  unfold opTup at p2
  split at p2
  · rename_i hl
    exact ⟨by rw [hv.l.length]; exact hl, new_tup (fun a z => r2.dom z) p2 hv.l⟩
  · exact p2.elim⟩
theorem de_dnew : DE F X W (.Dict [] [] pos) (eC (.dk [])) := ⟨PE.weak pe_dnewK fun σ H Q ⟨sd, rel, p⟩ => new_dk (fun a z => rel.dom z) p rfl⟩

/-! ### built-ins by name -/
def CallOk (r : List V → Hp → VK → Prop) (op : List D → R D) : Prop := ∀ (mg : Str → Option Value) (W : WX) (σ : St) (A : Addr → Prop) (ds : List D) (vs : List V) (H : Hp) (Q : VK), (∀ a, A a → H a ≠ none) → HoldsXL true H A ds vs → Post false mg W σ A (op ds) H Q → r vs H Q
theorem de_callB {id : String} {r : List V → Hp → VK → Prop} {op : List D → R D} {x : Str} {p : Pos} (hc : CallR X (.builtin id) r) (hk : CallOk r op) (hg : Gl X x) (hm : X.mg x = none) (hv : bootBuiltins x = some (.builtin id)) (ha : DA true F X W (e :: es) fs)
    (hn : x ≠ "__name__" := by decide) (hdb : (x == ("__debug__" : Str)) = false := by decide) (he : starEach (e :: es) X.env = (false, eval e X.env) :: starEach es X.env := by rfl) (hpl : (backTo pos (starEach es X.env)).any (·.1) = false := by rfl) :
    DE F X W (.Call (.Name x p) (e :: es) [] pos) (eAll op fs) :=
  ⟨PE.weak (pe_callB hc hg hm hv ha.pa hn hdb he hpl) fun σ H Q ⟨sd, rel, p⟩ => tas (b' := false) rel p fun ds q vs H2 _ r2 hv p2 => hk X.mg W σ _ ds vs H2 Q (fun a z => r2.dom z) hv p2⟩
theorem de_callTy {T : String} {r : List V → Hp → VK → Prop} {op : List D → R D} {x : Str} {p : Pos} (hc : CallR X (.type T) r) (hk : CallOk r op) (hg : Gl X x) (hm : X.mg x = none) (hv : bootBuiltins x = some (.type T)) (ha : DA true F X W (e :: es) fs)
    (hn : x ≠ "__name__" := by decide) (hdb : (x == ("__debug__" : Str)) = false := by decide) (he : starEach (e :: es) X.env = (false, eval e X.env) :: starEach es X.env := by rfl) (hpl : (backTo pos (starEach es X.env)).any (·.1) = false := by rfl) :
    DE F X W (.Call (.Name x p) (e :: es) [] pos) (eAll op fs) :=
  ⟨PE.weak (pe_callTy hc hg hm hv ha.pa hn hdb he hpl) fun σ H Q ⟨sd, rel, p⟩ => tas (b' := false) rel p fun ds q vs H2 _ r2 hv p2 => hk X.mg W σ _ ds vs H2 Q (fun a z => r2.dom z) hv p2⟩

def opLen : List D → R D
  | [.lst xs] => .ok (.int xs.length)
  | [.tup xs] => .ok (.int xs.length)
  | [.scr xs] => .ok (.int xs.length)
  | [.str z] => if z.length ≤ sizeLine then .ok (.int z.length) else .no
  | _ => .no
def rLenA (K : PySem.W.Frag) : List V → Hp → VK → Prop := fun xs H Q => (∃ p ys, xs = [.ref p] ∧ (SqL K H p ys ∨ SqT K H p ys) ∧ Q (.int ys.length) H) ∨ ∃ z, xs = [.str z] ∧ z.length ≤ sizeLine ∧ Q (.int z.length) H
theorem or_len : CallR X (.builtin "len") (rLenA X.K) := CallR.or call_len_seq call_len_str
theorem ok_len {K : PySem.W.Frag} : CallOk (rLenA K) opLen := by
  intro mg W σ A ds vs H Q dm hv p
  unfold opLen at p
  split at p
  · obtain ⟨v, r, rfl, h, rfl⟩ := hv
    obtain ⟨a, ws, rfl, r, l⟩ := h
    exact .inl ⟨a, ws, rfl, .inl (SqL.of r), by rw [l.length]; exact ok_p p rfl⟩
  · obtain ⟨v, r, rfl, h, rfl⟩ := hv
    obtain ⟨a, ws, rfl, na, r, l⟩ := h
    exact .inl ⟨a, ws, rfl, .inr (SqT.of r), by rw [l.length]; exact ok_p p rfl⟩
  · obtain ⟨v, r, rfl, h, rfl⟩ := hv
    obtain ⟨a, rfl, na, r⟩ := h
    exact .inl ⟨a, _, rfl, .inl (.inl r), by rw [List.length_map]; exact ok_p p rfl⟩
  · obtain ⟨v, r, rfl, h, rfl⟩ := hv
    cases h
    split at p
    · rename_i hl
      exact .inr ⟨_, rfl, hl, ok_p p rfl⟩
    · exact p.elim
  · exact p.elim
def opAbs : List D → R D
  | [.int i] => .ok (.int (if i < 0 then -i else i))
  | _ => .no
theorem ok_abs : CallOk (fun xs H Q => ∃ i, xs = [.int i] ∧ Q (.int (if i < 0 then -i else i)) H) opAbs := by
  intro mg W σ A ds vs H Q dm hv p
  unfold opAbs at p
  split at p
  · obtain ⟨v, r, rfl, h, rfl⟩ := hv
    cases h
    exact ⟨_, rfl, ok_p p rfl⟩
  · exact p.elim
def opInt : List D → R D
  | [.int i] => .ok (.int i)
  | [.str a] => match PySem.intText? a with
    | some n => if a.length ≤ 640 then .ok (.int n) else .no
    | none => .no
  | _ => .no
def rIntA : List V → Hp → VK → Prop := fun xs H Q => ((∃ i, xs = [.int i] ∧ Q (.int i) H) ∨ ∃ k, xs = [.bl k] ∧ Q (.int (if k then 1 else 0)) H) ∨ ∃ a n, xs = [.str a] ∧ PySem.intText? a = some n ∧ a.length ≤ 640 ∧ Q (.int n) H
theorem or_int : CallR X (.type "int") rIntA := CallR.or call_int1 call_int_str
theorem ok_int : CallOk rIntA opInt := by
  intro mg W σ A ds vs H Q dm hv p
  unfold opInt at p
  split at p
  · obtain ⟨v, r, rfl, h, rfl⟩ := hv
    cases h
    exact .inl (.inl ⟨_, rfl, ok_p p rfl⟩)
  · obtain ⟨v, r, rfl, h, rfl⟩ := hv
    cases h
    split at p
    · rename_i e
      split at p
      · rename_i hl
        exact .inr ⟨_, _, rfl, e, hl, ok_p p rfl⟩
      · exact p.elim
    · exact p.elim
  · exact p.elim
def opStr : List D → R D
  | [.int i] => if i.natAbs.log2 < 1920 then .ok (.str (toString i)) else .no
  | [.str a] => .ok (.str a)
  | _ => .no
def rStrA : List V → Hp → VK → Prop := fun xs H Q => (∃ i, xs = [.int i] ∧ i.natAbs.log2 < 1920 ∧ Q (.str (toString i)) H) ∨ ∃ a, xs = [.str a] ∧ Q (.str a) H
theorem or_str : CallR X (.type "str") rStrA := CallR.or call_str_int SkE.call_str_str
theorem ok_str : CallOk rStrA opStr := by
  intro mg W σ A ds vs H Q dm hv p
  unfold opStr at p
  split at p
  · obtain ⟨v, r, rfl, h, rfl⟩ := hv
    cases h
    split at p
    · rename_i hl
      exact .inl ⟨_, rfl, hl, ok_p p rfl⟩
    · exact p.elim
  · obtain ⟨v, r, rfl, h, rfl⟩ := hv
    cases h
    exact .inr ⟨_, rfl, ok_p p rfl⟩
  · exact p.elim
def opList : List D → R D
  | [.lst xs] => .ok (.lst xs)
  | [.tup xs] => .ok (.lst xs)
  | [.dk kvs] => .ok (.lst (kvs.map fun kv => keyDd kv.1))
  | _ => .no
def rListA (K : PySem.W.Frag) : List V → Hp → VK → Prop := fun xs H Q => (∃ p ys, xs = [.ref p] ∧ (SqL K H p ys ∨ SqT K H p ys) ∧ ∀ l, H l = none → Q (.ref l) (upd H l (.lst ys))) ∨
  ∃ (a : Addr) (kvs : List (L2.Key × V)), xs = [.ref a] ∧ Rd H a (.dK kvs) ∧ ∀ p, H p = none → Q (.ref p) (upd H p (.lst (kvs.map fun kv => kV kv.1)))
theorem or_list (hc : X.calm = true) : CallR X (.type "list") (rListA X.K) := CallR.or call_list_of (call_listD hc)
theorem holdsL_keys {H : Hp} {A : Addr → Prop} : ∀ {kvs : List (L2.Key × D)} {ws : List (L2.Key × V)}, HoldsK H A kvs ws → HoldsL H A (kvs.map fun kv => keyDd kv.1) (ws.map fun kv => kV kv.1)
  | [], _, h => by cases h; rfl
  | (k, d) :: r, _, h => by
    obtain ⟨v, t, rfl, h1, h2⟩ := h
    refine ⟨kV k, _, rfl, ?_, holdsL_keys h2⟩
    cases k <;> rfl
theorem ok_list {K : PySem.W.Frag} : CallOk (rListA K) opList := by
  intro mg W σ A ds vs H Q dm hv p
  unfold opList at p
  split at p
  · obtain ⟨v, r, rfl, h, rfl⟩ := hv
    obtain ⟨a, ws, rfl, r, l⟩ := h
    exact .inl ⟨a, ws, rfl, .inl (SqL.of r), new_lst dm p l⟩
  · obtain ⟨v, r, rfl, h, rfl⟩ := hv
    obtain ⟨a, ws, rfl, na, r, l⟩ := h
    exact .inl ⟨a, ws, rfl, .inr (SqT.of r), new_lst dm p l⟩
  · obtain ⟨v, r, rfl, h, rfl⟩ := hv
    obtain ⟨a, ws, rfl, r, l⟩ := h
    exact .inr ⟨a, ws, rfl, r, new_lst dm p (holdsL_keys l)⟩
  · exact p.elim
def opTuple : List D → R D
  | [.lst xs] => .ok (.tup xs)
  | [.tup xs] => .ok (.tup xs)
  | _ => .no
theorem ok_tuple {K : PySem.W.Frag} : CallOk (fun xs H Q => ∃ p ys, xs = [.ref p] ∧ ((SqL K H p ys ∧ ∀ l, H l = none → Q (.ref l) (upd H l (.tup ys))) ∨ (SqT K H p ys ∧ Q (.ref p) H))) opTuple := by
  intro mg W σ A ds vs H Q dm hv p
  unfold opTuple at p
  split at p
  · obtain ⟨v, r, rfl, h, rfl⟩ := hv
    obtain ⟨a, ws, rfl, r, l⟩ := h
    exact ⟨a, ws, rfl, .inl ⟨SqL.of r, new_tup dm p l⟩⟩
  · obtain ⟨v, r, rfl, h, rfl⟩ := hv
    have h' := h
    obtain ⟨a, ws, rfl, na, r, l⟩ := h
    exact ⟨a, ws, rfl, .inr ⟨SqT.of r, ok_p p h'⟩⟩
  · exact p.elim
/-- a list of ints -/
def intsD : List D → Option (List Int)
  | [] => some []
  | .int i :: r => (intsD r).map (i :: ·)
  | _ => none
theorem intsD_v {H : Hp} {A : Addr → Prop} : ∀ {ds : List D} {vs : List V} {ns : List Int}, intsD ds = some ns → HoldsL H A ds vs → vs = ns.map V.int
  | [], vs, ns, e, h => by simp [intsD] at e; subst e; exact h
  | .int i :: r, vs, ns, e, h => by
    simp only [intsD, Option.map_eq_some_iff] at e
    obtain ⟨m, e1, rfl⟩ := e
    obtain ⟨v, t, rfl, h1, h2⟩ := h
    rw [intsD_v e1 h2, h1]
    rfl
@[simp] theorem intsD_map (ns : List Int) : intsD (ns.map D.int) = some ns := by
  induction ns with
  | nil => rfl
  | cons n r ih => simp [intsD, ih]
def blsD : List D → Option (List Bool)
  | [] => some []
  | .bl i :: r => (blsD r).map (i :: ·)
  | _ => none
theorem blsD_v {H : Hp} {A : Addr → Prop} : ∀ {ds : List D} {vs : List V} {ns : List Bool}, blsD ds = some ns → HoldsL H A ds vs → vs = ns.map V.bl
  | [], vs, ns, e, h => by simp [blsD] at e; subst e; exact h
  | .bl i :: r, vs, ns, e, h => by
    simp only [blsD, Option.map_eq_some_iff] at e
    obtain ⟨m, e1, rfl⟩ := e
    obtain ⟨v, t, rfl, h1, h2⟩ := h
    rw [blsD_v e1 h2, h1]
    rfl
@[simp] theorem blsD_map (ns : List Bool) : blsD (ns.map D.bl) = some ns := by
  induction ns with
  | nil => rfl
  | cons n r ih => simp [blsD, ih]
def opSum : List D → R D
  | [.lst xs] => match intsD xs with
    | some ns => .ok (.int ns.sum)
    | none => .no
  | _ => .no
theorem ok_sum {K : PySem.W.Frag} : CallOk (rSum K) opSum := by
  intro mg W σ A ds vs H Q dm hv p
  unfold opSum at p
  split at p
  · obtain ⟨v, r, rfl, h, rfl⟩ := hv
    obtain ⟨a, ws, rfl, r, l⟩ := h
    split at p
    · rename_i e
      have := intsD_v e l
      subst this
      exact ⟨a, _, rfl, SqL.of r, ok_p p rfl⟩
    · exact p.elim
  · exact p.elim
def opAllB : List D → R D
  | [.lst xs] => match blsD xs with
    | some ns => .ok (.bl (ns.all id))
    | none => .no
  | _ => .no
theorem ok_allB {K : PySem.W.Frag} : CallOk (rAll K) opAllB := by
  intro mg W σ A ds vs H Q dm hv p
  unfold opAllB at p
  split at p
  · obtain ⟨v, r, rfl, h, rfl⟩ := hv
    obtain ⟨a, ws, rfl, r, l⟩ := h
    split at p
    · rename_i e
      have := blsD_v e l
      subst this
      exact ⟨a, _, rfl, SqL.of r, ok_p p rfl⟩
    · exact p.elim
  · exact p.elim
def maxI : Int → List Int → Int
  | m, [] => m
  | m, x :: r => maxI (if m < x then x else m) r
def minI : Int → List Int → Int
  | m, [] => m
  | m, x :: r => minI (if x < m then x else m) r
theorem maxI_spec : ∀ (r : List Int) (m : Int), (maxI m r = m ∨ maxI m r ∈ r) ∧ m ≤ maxI m r ∧ ∀ y ∈ r, y ≤ maxI m r
  | [], m => ⟨.inl rfl, Int.le_refl _, fun y h => by cases h⟩
  | x :: r, m => by
    obtain ⟨h1, h2, h3⟩ := maxI_spec r (if m < x then x else m)
    unfold maxI
    have e1 : m ≤ (if m < x then x else m) := by split <;> omega
    have e2 : x ≤ (if m < x then x else m) := by split <;> omega
    refine ⟨?_, by omega, fun y hy => ?_⟩
    · rcases h1 with h | h
      · rw [h]
        split
        · exact .inr List.mem_cons_self
        · exact .inl rfl
      · exact .inr (List.mem_cons_of_mem _ h)
    · rcases List.mem_cons.mp hy with e | hy
      · rw [e]; omega
      · exact h3 y hy
theorem minI_spec : ∀ (r : List Int) (m : Int), (minI m r = m ∨ minI m r ∈ r) ∧ minI m r ≤ m ∧ ∀ y ∈ r, minI m r ≤ y
  | [], m => ⟨.inl rfl, Int.le_refl _, fun y h => by cases h⟩
  | x :: r, m => by
    obtain ⟨h1, h2, h3⟩ := minI_spec r (if x < m then x else m)
    unfold minI
    have e1 : (if x < m then x else m) ≤ m := by split <;> omega
    have e2 : (if x < m then x else m) ≤ x := by split <;> omega
    refine ⟨?_, by omega, fun y hy => ?_⟩
    · rcases h1 with h | h
      · rw [h]
        split
        · exact .inr List.mem_cons_self
        · exact .inl rfl
      · exact .inr (List.mem_cons_of_mem _ h)
    · rcases List.mem_cons.mp hy with e | hy
      · rw [e]; omega
      · exact h3 y hy
def opMax : List D → R D
  | [.lst xs] => match intsD xs with
    | some (n :: ns) => .ok (.int (maxI n ns))
    | _ => .no
  | _ => .no
def opMin : List D → R D
  | [.lst xs] => match intsD xs with
    | some (n :: ns) => .ok (.int (minI n ns))
    | _ => .no
  | _ => .no
theorem ok_max {K : PySem.W.Frag} : CallOk (rMax K) opMax := by
  intro mg W σ A ds vs H Q dm hv p
  unfold opMax at p
  split at p
  · obtain ⟨v, r, rfl, h, rfl⟩ := hv
    obtain ⟨a, ws, rfl, r, l⟩ := h
    split at p
    · rename_i n ns e
      have := intsD_v e l
      subst this
      obtain ⟨h1, h2, h3⟩ := maxI_spec ns n
      refine ⟨a, _, rfl, SqL.of r, by simp, fun m hm hy => ?_⟩
      have em : m = maxI n ns := by
        have g1 : m ≤ maxI n ns := by
          rcases List.mem_cons.mp hm with rfl | hm
          · exact h2
          · exact h3 m hm
        have g2 : maxI n ns ≤ m := hy _ (by rcases h1 with h | h <;> simp [h])
        omega
      rw [em]
      exact ok_p p rfl
    · exact p.elim
  · exact p.elim
theorem ok_min {K : PySem.W.Frag} : CallOk (rMin K) opMin := by
  intro mg W σ A ds vs H Q dm hv p
  unfold opMin at p
  split at p
  · obtain ⟨v, r, rfl, h, rfl⟩ := hv
    obtain ⟨a, ws, rfl, r, l⟩ := h
    split at p
    · rename_i n ns e
      have := intsD_v e l
      subst this
      obtain ⟨h1, h2, h3⟩ := minI_spec ns n
      refine ⟨a, _, rfl, SqL.of r, by simp, fun m hm hy => ?_⟩
      have em : m = minI n ns := by
        have g1 : minI n ns ≤ m := by
          rcases List.mem_cons.mp hm with rfl | hm
          · exact h2
          · exact h3 m hm
        have g2 : m ≤ minI n ns := hy _ (by rcases h1 with h | h <;> simp [h])
        omega
      rw [em]
      exact ok_p p rfl
    · exact p.elim
  · exact p.elim
end DS
set_option Elab.async false
set_option linter.all false
set_option maxRecDepth 100000
set_option maxHeartbeats 2000000
namespace DS
open PySem L2
variable {F : Fr} {X : Cx} {W : WX} {a b c e : Expr} {fa fb fc : EF} {pos : Pos}

/-! ### in, not in -/
def fV : D → Option V
  | .non => some .non
  | .bl b => some (.bl b)
  | .int i => some (.int i)
  | .str s => some (.str s)
  | _ => none
def fVs : List D → Option (List V)
  | [] => some []
  | d :: ds => match fV d, fVs ds with
    | some v, some vs => some (v :: vs)
    | _, _ => none
theorem fV_v {H : Hp} {A : Addr → Prop} {d : D} {v u : V} (e : fV d = some u) (h : HoldsB H A d v) : v = u ∧ flatV v = true := by
  unfold fV at e
  split at e
  · cases e; cases h; exact ⟨rfl, rfl⟩
  · cases e; cases h; exact ⟨rfl, rfl⟩
  · cases e; cases h; exact ⟨rfl, rfl⟩
  · cases e; cases h; exact ⟨rfl, rfl⟩
  · cases e
theorem fVs_v {H : Hp} {A : Addr → Prop} : ∀ {ds : List D} {vs us : List V}, fVs ds = some us → HoldsL H A ds vs → vs = us ∧ vs.all flatV = true
  | [], vs, us, e, h => by simp [fVs] at e; subst e; cases h; exact ⟨rfl, rfl⟩
  | d :: ds, vs, us, e, h => by
    simp only [fVs] at e
    split at e
    · rename_i v ws e1 e2
      cases e
      obtain ⟨w, r, rfl, h1, h2⟩ := h
      obtain ⟨rfl, f1⟩ := fV_v e1 (Holds.b h1)
      obtain ⟨rfl, f2⟩ := fVs_v e2 h2
      exact ⟨rfl, by rw [List.all_cons, f1, f2]; rfl⟩
    · cases e
def inStr (x z : Str) : Bool := match x.cps.toList with
  | [c] => decide (c ∈ z.cps.toList)
  | _ => !(Builtin.Str.occurrences z x 0 z.length 1).isEmpty
def inD : D → D → Option Bool
  | x, .lst ys => match fV x, fVs ys with
    | some v, some vs => some (inV v vs)
    | _, _ => none
  | x, .tup ys => match fV x, fVs ys with
    | some v, some vs => some (inV v vs)
    | _, _ => none
  | .str x, .str z => some (inStr x z)
  | x, .dk kvs => match keyD x with
    | some k => some (valD kvs k).isSome
    | none => none
  | _, _ => none
def opIn (neg : Bool) (x y : D) : R D := match inD x y with
  | some b => .ok (.bl (if neg then !b else b))
  | none => .no
def rStrIn (neg : Bool) : R2 := fun x y H Q => (∃ (c : Nat) (z : Str), x = .str ⟨#[c]⟩ ∧ y = .str z ∧ Q (.bl (if neg then !decide (c ∈ z.cps.toList) else decide (c ∈ z.cps.toList))) H) ∨
  (∃ i j, x = .str i ∧ y = .str j ∧ Q (.bl (if neg then !(!(Builtin.Str.occurrences j i 0 j.length 1).isEmpty) else !(Builtin.Str.occurrences j i 0 j.length 1).isEmpty)) H)
theorem or_inS : OpR X (compareOp .In) (rStrIn false) := L2.op_in_sign.or L2.op_in_str
theorem or_ninS : OpR X (compareOp .NotIn) (rStrIn true) := L2.op_notIn_sign.or L2.op_notin_str
def rInA (K : PySem.W.Frag) (neg : Bool) : R2 := fun x y H Q => rIn K neg x y H Q ∨ rStrIn neg x y H Q
theorem or_in : OpR X (compareOp .In) (rInA X.K false) := op_in_seq.or or_inS
theorem or_nin : OpR X (compareOp .NotIn) (rInA X.K true) := op_notIn_seq.or or_ninS
/-- in a list, a tuple, a text -/
theorem ok_in {K : PySem.W.Frag} {neg : Bool} {mg : Str → Option Value} {σ : St} {A : Addr → Prop} {d e : D} {v w : V} {H : Hp} {Q : VK} (h1 : HoldsB H A d v) (h2 : HoldsB H A e w) (nd : isDk e = false)
    (p : Post false mg W σ A (opIn neg d e) H Q) : rInA K neg v w H Q := by
  unfold opIn at p
  cases q : inD d e with
  | none => rw [q] at p; exact p.elim
  | some b =>
    rw [q] at p
    dsimp only at p
    unfold inD at q
    split at q
    · obtain ⟨a, vs, rfl, r, l⟩ := h2
      split at q
      · rename_i e1 e2
        cases q
        obtain ⟨rfl, f1⟩ := fV_v e1 h1
        obtain ⟨rfl, f2⟩ := fVs_v e2 l
        exact .inl ⟨a, _, rfl, .inl (SqL.of r), f1, f2, ok_p p rfl⟩
      · cases q
    · obtain ⟨a, vs, rfl, na, r, l⟩ := h2
      split at q
      · rename_i e1 e2
        cases q
        obtain ⟨rfl, f1⟩ := fV_v e1 h1
        obtain ⟨rfl, f2⟩ := fVs_v e2 l
        exact .inl ⟨a, _, rfl, .inr (SqT.of r), f1, f2, ok_p p rfl⟩
      · cases q
    · cases h1
      cases h2
      cases q
      rename_i x z
      cases hx : x.cps.toList with
      | nil =>
        unfold inStr at p
        rw [hx] at p
        exact .inr (.inr ⟨_, _, rfl, rfl, ok_p p (by cases neg <;> rfl)⟩)
      | cons c r =>
        cases r with
        | cons c2 r2 =>
          unfold inStr at p
          rw [hx] at p
          exact .inr (.inr ⟨_, _, rfl, rfl, ok_p p (by cases neg <;> rfl)⟩)
        | nil =>
          unfold inStr at p
          rw [hx] at p
          refine .inr (.inl ⟨c, z, ?_, rfl, ok_p p (by cases neg <;> rfl)⟩)
          obtain ⟨cps⟩ := x
          obtain ⟨l⟩ := cps
          cases hx
          rfl
    · cases nd
    · cases q
theorem in_read {neg : Bool} {mg : Str → Option Value} {K : PySem.W.Frag} {σ : St} {H : Hp} {Q : VK} {sd : SD} (rel : Rel F σ H sd) (p : Post false mg W σ (Av F σ sd) (eBin (opIn neg) fa fb sd) H Q) :
    tOp (rInA K neg) (TEx true F mg W fa) (TEx true F mg W fb) σ H Q ∨ TEx true F mg W fa σ H (fun y H1 => TEx true F mg W fb σ H1 fun x H2 => ∃ a o, x = .ref a ∧ DGet H2 a y o ∧ Q (.bl (if neg then !o.isSome else o.isSome)) H2) := by
  unfold eBin at p
  by_cases hd : ∃ kvs, fb sd = .ok (.dk kvs)
  · obtain ⟨kvs, hd⟩ := hd
    refine .inr (te2s rel p fun d e q1 q2 v w H2 dm h1 h2 p2 => ?_)
    rw [hd] at q2
    cases q2
    obtain ⟨a, ws, rfl, r, l⟩ := h2
    unfold opIn inD at p2
    cases q : keyD d with
    | none =>
      cases d <;> (first | (simp only [q] at p2; exact p2.elim) | (cases q))
    | some k =>
      have p3 : Post false mg W σ (Av F σ sd) (.ok (.bl (if neg then !(valD kvs k).isSome else (valD kvs k).isSome))) H2 Q := by
        cases d <;> (first | (simp only [q] at p2; exact p2) | (cases q))
      have := keyD_v h1 q
      subst this
      refine ⟨a, valV ws k, rfl, .inl ⟨ws, k, r, rfl, rfl⟩, ?_⟩
      have e : (valV ws k).isSome = (valD kvs k).isSome := by
        rcases l.val k with ⟨e1, e2⟩ | ⟨d, v, e1, e2, _⟩ <;> rw [e1, e2] <;> rfl
      rw [e]
      exact ok_p p3 rfl
  · refine .inl (te2s rel p fun d e q1 q2 v w H2 dm h1 h2 p2 => ok_in h1 h2 ?_ p2)
    cases e <;> first | rfl | exact (hd ⟨_, q2⟩).elim
theorem de_in (hu : X.A.units + 64 < cLine) (ha : DB F X W a fa) (hb : DB F X W b fb) (hm : behindInMarks .In b = false) : DE F X W (.Compare a [.In] [b] pos) (eBin (opIn false) fa fb) :=
  ⟨PE.weak (PE.or (pe_cmpR or_in ha.pe hb.pe hm) (pe_cmp (pc_din (by omega) ha.pe hb.pe) hm)) fun σ H Q ⟨sd, rel, p⟩ => in_read rel p⟩
theorem de_nin (hu : X.A.units + 64 < cLine) (ha : DB F X W a fa) (hb : DB F X W b fb) (hm : behindInMarks .NotIn b = false) : DE F X W (.Compare a [.NotIn] [b] pos) (eBin (opIn true) fa fb) :=
  ⟨PE.weak (PE.or (pe_cmpR or_nin ha.pe hb.pe hm) (pe_cmp (pc_dnotin (by omega) ha.pe hb.pe) hm)) fun σ H Q ⟨sd, rel, p⟩ => in_read (neg := true) rel p⟩

/-! ### tests -/
abbrev TF := SD → R Bool
def PostT (mg : Str → Option Value) (W : WX) (σ : St) (A : Addr → Prop) (r : R Bool) (H : Hp) (Q : Bool → Hp → Prop) : Prop := match r with
  | .ok b => ∀ H', Same H H' → Q b H'
  | .ex c fs => ∀ cls da H', Same H H' → ExRep mg H' A c fs cls da → W cls da σ H'
  | .no => False
theorem PostT.mono {mg : Str → Option Value} {σ : St} {A : Addr → Prop} {r : R Bool} {H H' : Hp} {Q : Bool → Hp → Prop} (s : Same H H') (p : PostT mg W σ A r H Q) : PostT mg W σ A r H' Q := by
  cases r with
  | ok d => exact fun H2 s2 => p H2 (s.trans s2)
  | ex c fs => exact fun cls da H2 s2 h => p cls da H2 (s.trans s2) h
  | no => exact p
def TTx (F : Fr) (mg : Str → Option Value) (W : WX) (f : TF) : TT := fun σ H Q => ∃ sd, Rel F σ H sd ∧ PostT mg W σ (Av F σ sd) (f sd) H Q
structure DT (F : Fr) (X : Cx) (W : WX) (e : Expr) (f : TF) : Prop where
  pt : PT X e (TTx F X.mg W f)
structure DW (F : Fr) (X : Cx) (W : WX) (e : Expr) (f : TF) : Prop where
  pw : PW X e (TTx F X.mg W f)
def asB : D → R Bool
  | .bl b => .ok b
  | _ => .no
theorem post_of_t {bb : Bool} {mg : Str → Option Value} {σ : St} {A : Addr → Prop} {r : R D} {H : Hp} {Q : Bool → Hp → Prop} (p : PostT mg W σ A (r.bind asB) H Q) : Post bb mg W σ A r H (fun x H' => ∃ k, x = .bl k ∧ Q k H') := by
  cases r with
  | no => exact p
  | ex c fs => exact p
  | ok d =>
    intro v H' s h
    rw [R.bind_ok] at p
    cases d with
    | bl b' =>
      refine ⟨b', ?_, p H' s⟩
      cases bb
      · exact h
      · exact h
    | _ => exact p.elim
def tVal (f : EF) : TF := fun s => (f s).bind asB
theorem dt_cmp {o : CmpOp} {r : R2} {op : D → D → R D} (ho : OpR X (compareOp o) r) (hk : OpOk r op) (ha : DB F X W a fa) (hb : DB F X W b fb) (hm : behindInMarks o b = false) : DT F X W (.Compare a [o] [b] pos) (tVal (eBin op fa fb)) :=
  ⟨PT.weak (pt_cmpR ho ha.pe hb.pe hm) fun σ H Q ⟨sd, rel, p⟩ => te2s (b' := false) rel (post_of_t p) fun d e q1 q2 v w H2 dm h1 h2 p2 => hk X.mg W σ _ d e v w H2 _ dm h1 h2 p2⟩
theorem dt_in (hu : X.A.units + 64 < cLine) (ha : DB F X W a fa) (hb : DB F X W b fb) (hm : behindInMarks .In b = false) : DT F X W (.Compare a [.In] [b] pos) (tVal (eBin (opIn false) fa fb)) :=
  ⟨PT.weak (PT.or (pt_cmpR or_in ha.pe hb.pe hm) (pt_cmp (pc_din (by omega) ha.pe hb.pe) hm)) fun σ H Q ⟨sd, rel, p⟩ => in_read rel (post_of_t p)⟩
theorem dt_nin (hu : X.A.units + 64 < cLine) (ha : DB F X W a fa) (hb : DB F X W b fb) (hm : behindInMarks .NotIn b = false) : DT F X W (.Compare a [.NotIn] [b] pos) (tVal (eBin (opIn true) fa fb)) :=
  ⟨PT.weak (PT.or (pt_cmpR or_nin ha.pe hb.pe hm) (pt_cmp (pc_dnotin (by omega) ha.pe hb.pe) hm)) fun σ H Q ⟨sd, rel, p⟩ => in_read (neg := true) rel (post_of_t p)⟩
/-- a value that is True or False -/
theorem dt_val {bb : Bool} (h : DX bb F X W e fa) (he : ∀ whole, isTrue e X.env whole = (do let v ← whole; standAt e.pos; holding [v] (truthy v)) := by intro _; rfl) : DT F X W e (tVal fa) :=
  ⟨PT.weak (pt_val h.pe he) fun σ H Q ⟨sd, rel, p⟩ => ⟨sd, rel, post_of_t p⟩⟩
theorem ne0_cast (n : Nat) : (n != 0) = ((n : Int) != 0) := by
  cases n with
  | zero => rfl
  | succ n =>
    have h1 : ((n + 1 : Nat) != 0) = true := by simp
    have h2 : (((n + 1 : Nat) : Int) != 0) = true := by simp; omega
    rw [h1, h2]
/-- any value, by truth -/
def tru : D → R Bool
  | .non => .ok false
  | .bl b => .ok b
  | .int i => .ok (i != 0)
  | .str s => if s.length ≤ sizeLine then .ok (s.length != 0) else .no
  | .lst xs => .ok (!xs.isEmpty)
  | .tup xs => .ok (!xs.isEmpty)
  | _ => .no
def tTru (f : EF) : TF := fun s => (f s).bind tru
theorem dt_truth (h : DB F X W a fa) (he : ∀ whole, isTrue a X.env whole = (do let v ← whole; standAt a.pos; holding [v] (truthy v)) := by intro _; rfl) : DT F X W a (tTru fa) :=
  ⟨PT.weak (pt_truth h.pe he) fun σ H Q ⟨sd, rel, p⟩ => ⟨sd, rel, by
    unfold tTru at p
    cases q : fa sd with
    | no => rw [q] at p; exact p
    | ex c fs => rw [q] at p; exact p
    | ok d =>
      rw [q, R.bind_ok] at p
      intro v H' s hv
      have hv : HoldsB H' _ d v := hv
      unfold tru at p
      split at p
      · cases hv; exact ⟨_, rfl, p H' s⟩
      · cases hv; exact ⟨_, rfl, p H' s⟩
      · cases hv; exact ⟨_, rfl, p H' s⟩
      · cases hv
        split at p
        · rename_i hl
          exact ⟨_, ⟨hl, ne0_cast _⟩, p H' s⟩
        · exact p.elim
      · obtain ⟨a, vs, rfl, r, l⟩ := hv
        rename_i xs
        refine ⟨_, .inl ⟨vs, SqL.of r, ?_⟩, p H' s⟩
        have := l.length
        cases xs <;> cases vs <;> first | rfl | simp at this
      · obtain ⟨a, vs, rfl, na, r, l⟩ := hv
        rename_i xs
        refine ⟨_, .inr (.inl ⟨vs, SqT.of r, ?_⟩), p H' s⟩
        have := l.length
        cases xs <;> cases vs <;> first | rfl | simp at this
      · exact p.elim⟩⟩
def tNotF (f : TF) : TF := fun s => (f s).bind fun b => .ok (!b)
def tAndF (f g : TF) : TF := fun s => (f s).bind fun b => if b = true then g s else .ok false
def tOrF (f g : TF) : TF := fun s => (f s).bind fun b => if b = true then .ok true else g s
variable {ta tb : TF} {rest : List Expr}
theorem dt_w (h : DW F X W e ta) : DT F X W e ta := ⟨h.pw.pt⟩
theorem dt_not (h : DT F X W a ta) : DT F X W (.UnaryOp .Not a pos) (tNotF ta) := ⟨PT.weak (pt_not h.pt) fun σ H Q ⟨sd, rel, p⟩ => ⟨sd, rel, by
  unfold tNotF at p
  cases q : ta sd with
  | no => rw [q] at p; exact p
  | ex c fs => rw [q] at p; exact p
  | ok b => rw [q] at p; exact p⟩⟩
theorem PW.weak {X : Cx} {e : Expr} {t t' : TT} (h : PW X e t) (k : ∀ σ H Q, t' σ H Q → t σ H Q) : PW X e t' := ⟨fun wh pins s σ H Q I q => h.run wh pins s σ H Q I (k _ _ _ q)⟩
theorem dw_and1 (h : DT F X W a ta) : DW F X W (.BoolOp .And [a] pos) ta := ⟨pw_and1 h.pt⟩
theorem dw_or1 (h : DT F X W a ta) : DW F X W (.BoolOp .Or [a] pos) ta := ⟨pw_or1 h.pt⟩
theorem dw_and (h : DT F X W a ta) (k : DW F X W (.BoolOp .And (b :: rest) pos) tb) : DW F X W (.BoolOp .And (a :: b :: rest) pos) (tAndF ta tb) := ⟨PW.weak (pw_and h.pt k.pw) fun σ H Q ⟨sd, rel, p⟩ => ⟨sd, rel, by
  unfold tAndF at p
  cases q : ta sd with
  | no => rw [q] at p; exact p
  | ex c fs => rw [q] at p; exact p
  | ok b =>
    rw [q, R.bind_ok] at p
    intro H' s
    cases b with
    | true => rw [if_pos rfl] at p ⊢; exact ⟨sd, rel.mono s, p.mono s⟩
    | false => rw [if_neg Bool.false_ne_true] at p ⊢; exact p H' s⟩⟩
theorem dw_or (h : DT F X W a ta) (k : DW F X W (.BoolOp .Or (b :: rest) pos) tb) : DW F X W (.BoolOp .Or (a :: b :: rest) pos) (tOrF ta tb) := ⟨PW.weak (pw_or h.pt k.pw) fun σ H Q ⟨sd, rel, p⟩ => ⟨sd, rel, by
  unfold tOrF at p
  cases q : ta sd with
  | no => rw [q] at p; exact p
  | ex c fs => rw [q] at p; exact p
  | ok b =>
    rw [q, R.bind_ok] at p
    intro H' s
    cases b with
    | true => rw [if_pos rfl] at p ⊢; exact p H' s
    | false => rw [if_neg Bool.false_ne_true] at p ⊢; exact ⟨sd, rel.mono s, p.mono s⟩⟩⟩
/-! ### and, or, not, if .. else as values -/
def eAnd (f g : EF) : EF := fun s => (f s).bind fun d => (asB d).bind fun b => if b = true then g s else .ok (.bl false)
def eOr (f g : EF) : EF := fun s => (f s).bind fun d => (asB d).bind fun b => if b = true then .ok (.bl true) else g s
def eNot (f : EF) : EF := fun s => (f s).bind fun d => (asB d).bind fun b => .ok (.bl (!b))
def eIf (t : TF) (f g : EF) : EF := fun s => (t s).bind fun b => if b = true then f s else g s
theorem asB_ok {d : D} {v : V} {H : Hp} {A : Addr → Prop} (h : Holds H A d v) : (∃ b, d = .bl b ∧ v = .bl b) ∨ asB d = .no := by
  cases d with
  | bl b => cases h; exact .inl ⟨b, rfl, rfl⟩
  | _ => exact .inr rfl
theorem de_one {o : BoolOp} (h : DE F X W a fa) : DE F X W (.BoolOp o [a] pos) fa := ⟨pe_one h.pe⟩
theorem de_and (h : DE F X W a fa) (k : DE F X W (.BoolOp .And (b :: rest) pos) fb) : DE F X W (.BoolOp .And (a :: b :: rest) pos) (eAnd fa fb) := ⟨PE.weak (pe_and h.pe k.pe) fun σ H Q ⟨sd, rel, p⟩ => ⟨sd, rel, by
  unfold eAnd at p
  cases q : fa sd with
  | no => rw [q] at p; exact p
  | ex c fs => rw [q] at p; exact p
  | ok d =>
    rw [q, R.bind_ok] at p
    intro v H' s hv
    rcases asB_ok (show Holds H' _ d v from hv) with ⟨b, rfl, rfl⟩ | e
    · refine ⟨b, rfl, ?_⟩
      simp only [asB, R.bind_ok] at p
      cases b with
      | true => rw [if_pos rfl] at p ⊢; exact ⟨sd, rel.mono s, p.mono s⟩
      | false => rw [if_neg Bool.false_ne_true] at p ⊢; exact p _ H' s rfl
    · rw [e] at p; exact p.elim⟩⟩
theorem de_or (h : DE F X W a fa) (k : DE F X W (.BoolOp .Or (b :: rest) pos) fb) : DE F X W (.BoolOp .Or (a :: b :: rest) pos) (eOr fa fb) := ⟨PE.weak (pe_or h.pe k.pe) fun σ H Q ⟨sd, rel, p⟩ => ⟨sd, rel, by
  unfold eOr at p
  cases q : fa sd with
  | no => rw [q] at p; exact p
  | ex c fs => rw [q] at p; exact p
  | ok d =>
    rw [q, R.bind_ok] at p
    intro v H' s hv
    rcases asB_ok (show Holds H' _ d v from hv) with ⟨b, rfl, rfl⟩ | e
    · refine ⟨b, rfl, ?_⟩
      simp only [asB, R.bind_ok] at p
      cases b with
      | true => rw [if_pos rfl] at p ⊢; exact p _ H' s rfl
      | false => rw [if_neg Bool.false_ne_true] at p ⊢; exact ⟨sd, rel.mono s, p.mono s⟩
    · rw [e] at p; exact p.elim⟩⟩
theorem de_not (h : DE F X W a fa) : DE F X W (.UnaryOp .Not a pos) (eNot fa) := ⟨PE.weak (pe_not h.pe) fun σ H Q ⟨sd, rel, p⟩ => ⟨sd, rel, by
  unfold eNot at p
  cases q : fa sd with
  | no => rw [q] at p; exact p
  | ex c fs => rw [q] at p; exact p
  | ok d =>
    rw [q, R.bind_ok] at p
    intro v H' s hv
    rcases asB_ok (show Holds H' _ d v from hv) with ⟨b, rfl, rfl⟩ | e
    · exact ⟨b, rfl, p _ H' s rfl⟩
    · rw [e] at p; exact p.elim⟩⟩
theorem de_ifExp {bb : Bool} (h : DT F X W c ta) (ha : DX bb F X W a fa) (hb : DX bb F X W b fb) : DX bb F X W (.IfExp c a b pos) (eIf ta fa fb) := ⟨PE.weak (pe_ifExp h.pt ha.pe hb.pe) fun σ H Q ⟨sd, rel, p⟩ => ⟨sd, rel, by
  unfold eIf at p
  cases q : ta sd with
  | no => rw [q] at p; exact p
  | ex c fs => rw [q] at p; exact p
  | ok b =>
    rw [q, R.bind_ok] at p
    intro H' s
    cases b with
    | true => rw [if_pos rfl] at p ⊢; exact ⟨sd, rel.mono s, p.mono s⟩
    | false => rw [if_neg Bool.false_ne_true] at p ⊢; exact ⟨sd, rel.mono s, p.mono s⟩⟩⟩
end DS
set_option Elab.async false
set_option linter.all false
set_option maxRecDepth 100000
set_option maxHeartbeats 2000000
namespace DS
open PySem L2
variable {F : Fr} {X : Cx} {W : WX} {a b c e : Expr} {fa fb fc : EF} {pos : Pos}

inductive ND where
  | nl (ds : List D) | nd (kvs : List (L2.Key × D))
def ND.sl : ND → Sl
  | .nl ds => .ol ds
  | .nd kvs => .od kvs
def ND.d : ND → D
  | .nl ds => .lst ds
  | .nd kvs => .dk kvs
instance : Inhabited ND := ⟨.nl []⟩
inductive SO where
  | nx (s : SD) | rt (d : D) | rn (n : ND) | bk (s : SD) | ct (s : SD) | ex (c : Str) (fs : List (Str × D)) (s : SD) | no
  deriving Inhabited
abbrev SF := SD → SO
structure ExtS (σ : St) (sd : SD) (H : Hp) (σ' : St) (sd' : SD) (H' : Hp) : Prop where
  keep : ∀ b o, H b = some o → ¬ Own σ sd b → H' b = some o
  own : ∀ b, Own σ' sd' b → Own σ sd b ∨ H b = none
  dom : ∀ b, H b ≠ none → H' b ≠ none
theorem ExtS.refl {σ : St} {sd : SD} {H : Hp} : ExtS σ sd H σ sd H := ⟨fun _ _ h _ => h, fun _ h => .inl h, fun _ h => h⟩
theorem Same.dom {H H' : Hp} (s : Same H H') : ∀ b, H b ≠ none → H' b ≠ none := fun b h z => by
  cases q : H b with
  | none => exact h q
  | some o => rw [s _ _ q] at z; cases z
theorem ExtS.same {σ : St} {sd : SD} {H H' : Hp} {σ' : St} {sd' : SD} (s : Same H H') (h : ∀ b, Own σ' sd' b → Own σ sd b) : ExtS σ sd H σ' sd' H' := ⟨fun _ _ h _ => s _ _ h, fun b q => .inl (h b q), Same.dom s⟩
theorem ExtS.trans {σ σ1 σ2 : St} {sd sd1 sd2 : SD} {H H1 H2 : Hp} (a : ExtS σ sd H σ1 sd1 H1) (b : ExtS σ1 sd1 H1 σ2 sd2 H2) : ExtS σ sd H σ2 sd2 H2 where
  keep := fun c o h n => b.keep c o (a.keep c o h n) fun z => (a.own c z).elim n fun q => by rw [h] at q; cases q
  own := fun c h => (b.own c h).elim (a.own c) fun q => .inr (by
    cases w : H c with
    | none => rfl
    | some o => exact absurd q (a.dom c (by rw [w]; simp)))
  dom := fun c h => b.dom c (a.dom c h)
theorem ExtS.up {σ σ1 : St} {sd sd1 : SD} {H H1 : Hp} (a : ExtS σ sd H σ1 sd1 H1) : Up H (Av F σ sd) H1 (Av F σ1 sd1) :=
  Up.ofOff (fun b o h n => a.keep b o h fun z => n (.inr z)) fun b h => h.elim (fun z => .inl (.inl z)) fun z => (a.own b z).elim (fun q => .inl (.inr q)) .inr

def PostS (mg : Str → Option Value) (W : WX) (F : Fr) (σ : St) (sd : SD) (T : Ends) (r : SO) (H : Hp) : Prop := match r with
  | .nx s' => ∀ σ' H', Rel F σ' H' s' → ExtS σ sd H σ' s' H' → T.nx σ' H'
  | .rt d => ∀ v H', Same F.H0 H' → Holds H' F.B d v → T.rt v H'
  | .rn n => ∀ p H', Same F.H0 H' → F.H0 p = none → ¬ F.B p → (∀ F' : Fr, F'.H0 p = none → SlOk F' H' (fun a => F.B a ∨ a = p) (some (.ref p)) n.sl) → T.rt (.ref p) H'
  | .bk s' => ∀ σ' H', Rel F σ' H' s' → ExtS σ sd H σ' s' H' → T.bk σ' H'
  | .ct s' => ∀ σ' H', Rel F σ' H' s' → ExtS σ sd H σ' s' H' → T.ct σ' H'
  | .ex c fs s' => ∀ cls da σ' H', Rel F σ' H' s' → ExtS σ sd H σ' s' H' → ExRep mg H' F.B c fs cls da → W cls da σ' H'
  | .no => False
theorem PostS.ext {mg : Str → Option Value} {σ σ1 : St} {sd sd1 : SD} {T : Ends} {r : SO} {H H1 : Hp} (a : ExtS σ sd H σ1 sd1 H1) (p : PostS mg W F σ sd T r H) : PostS mg W F σ1 sd1 T r H1 := by
  cases r with
  | nx s' => exact fun σ' H' r e => p σ' H' r (a.trans e)
  | rt d => exact p
  | rn n => exact p
  | bk s' => exact fun σ' H' r e => p σ' H' r (a.trans e)
  | ct s' => exact fun σ' H' r e => p σ' H' r (a.trans e)
  | ex c fs s' => exact fun cls da σ' H' r e => p cls da σ' H' r (a.trans e)
  | no => exact p
def TSx (F : Fr) (mg : Str → Option Value) (W : WX) (f : SF) : TS := fun T σ H => ∃ sd, Rel F σ H sd ∧ PostS mg W F σ sd T (f sd) H
structure DX1 (F : Fr) (X : Cx) (W : WX) (st : Stmt) (f : SF) : Prop where
  ps : PS X st (TSx F X.mg W f)
structure DXs (F : Fr) (X : Cx) (W : WX) (st : List Stmt) (f : SF) : Prop where
  ps : PSs X st (TSx F X.mg W f)
def sSeq (f g : SF) : SF := fun s => match f s with
  | .nx s' => g s'
  | o => o
variable {st : Stmt} {sts : List Stmt} {f g : SF}
theorem ds_one (h : DX1 F X W st f) : DXs F X W [st] f := ⟨pss_one h.ps⟩
theorem ds_nil : DXs F X W [] .nx := ⟨PSs.weak pss_nil fun T σ H ⟨sd, rel, p⟩ => p σ H rel .refl⟩
theorem ds_cons (h : DX1 F X W st f) (k : DXs F X W sts g) : DXs F X W (st :: sts) (sSeq f g) := ⟨PSs.weak (pss_cons h.ps k.ps) fun T σ H ⟨sd, rel, p⟩ => ⟨sd, rel, by
  unfold sSeq at p
  cases q : f sd with
  | nx s' => rw [q] at p; exact fun σ' H' r e => ⟨s', r, PostS.ext e p⟩
  | rt d => rw [q] at p; exact p
  | rn n => rw [q] at p; exact p
  | bk s' => rw [q] at p; exact p
  | ct s' => rw [q] at p; exact p
  | ex c fs s' => rw [q] at p; exact p
  | no => rw [q] at p; exact p⟩⟩
theorem ds_never : DX1 F X W st (fun _ => .no) := ⟨PS.weak ps_never fun T σ H ⟨sd, rel, p⟩ => p⟩

/-! ### slots stored -/
section
variable {σ : St} {H : Hp} {sd : SD}
theorem ownAt_set {i j : Nat} {v : Option V} {s : Sl} {a : Addr} (hs : s.own = false) (h : OwnAt (σ.set i v) (sd.set i s) j a) (hl : σ.length = sd.length) : OwnAt σ sd j a ∧ (j ≠ i ∨ ¬ i < sd.length) := by
  obtain ⟨t, e, o, e2⟩ := h
  by_cases hj : i = j
  · subst hj
    by_cases hi : i < sd.length
    · rw [List.getElem?_set_self hi] at e
      cases e
      rw [hs] at o
      cases o
    · rw [List.set_eq_of_length_le (by omega)] at e
      rw [List.set_eq_of_length_le (by omega)] at e2
      exact ⟨⟨t, e, o, e2⟩, .inr hi⟩
  · rw [List.getElem?_set_ne hj] at e e2
    exact ⟨⟨t, e, o, e2⟩, .inl fun z => hj z.symm⟩
theorem own_set {i : Nat} {v : Option V} {s : Sl} {a : Addr} (hs : s.own = false) (hl : σ.length = sd.length) (h : Own (σ.set i v) (sd.set i s) a) : Own σ sd a := by
  obtain ⟨j, h⟩ := h
  exact ⟨j, (ownAt_set hs h hl).1⟩
theorem up_own {A' : Addr → Prop} {A : Addr → Prop} (h : ∀ a, A' a → A a) : Up H A H A' := Up.ofOff (fun _ _ h _ => h) fun a z => .inl (h a z)
theorem Holds.less {A A' : Addr → Prop} {d : D} {v : V} (h : Holds H A d v) (k : ∀ a, A' a → A a) : Holds H A' d v := Holds.up (up_own k) d h
theorem HoldsL.less {A A' : Addr → Prop} {d : List D} {v : List V} (h : HoldsL H A d v) (k : ∀ a, A' a → A a) : HoldsL H A' d v := HoldsL.up (up_own k) d h
theorem Rel.set (rel : Rel F σ H sd) (i : Nat) {d : D} {v : V} (h : Holds H (Av F σ sd) d v) : Rel F (σ.set i (some v)) H (sd.set i (.sh d)) := by
  have hown : ∀ a, Own (σ.set i (some v)) (sd.set i (.sh d)) a → Own σ sd a := fun a z => own_set rfl rel.len z
  have hav : ∀ a, Av F (σ.set i (some v)) (sd.set i (.sh d)) a → Av F σ sd a := fun a z => z.elim .inl fun z => .inr (hown a z)
  refine ⟨rel.same, by simp [rel.len], fun j s e => ?_, fun j k a h1 h2 => rel.inj j k a (ownAt_set rfl h1 rel.len).1 (ownAt_set rfl h2 rel.len).1, fun a z => rel.nb a (hown a z), rel.bdom⟩
  by_cases hj : i = j
  · subst hj
    by_cases hi : i < sd.length
    · rw [List.getElem?_set_self hi] at e
      cases e
      exact ⟨some v, List.getElem?_set_self (by rw [rel.len]; exact hi), v, rfl, h.less hav⟩
    · rw [List.getElem?_eq_none (by simpa using hi)] at e
      cases e
  · rw [List.getElem?_set_ne hj] at e
    obtain ⟨w, e2, q⟩ := rel.slot j s e
    exact ⟨w, by rw [List.getElem?_set_ne hj]; exact e2, q.up rel.same (up_own hav) fun a o _ _ q => q⟩
/-- a slot is let go of -/
theorem Rel.unset (rel : Rel F σ H sd) (i : Nat) (v : Option V) : Rel F (σ.set i v) H (sd.set i .un) := by
  have hown : ∀ a, Own (σ.set i v) (sd.set i .un) a → Own σ sd a := fun a z => own_set rfl rel.len z
  have hav : ∀ a, Av F (σ.set i v) (sd.set i .un) a → Av F σ sd a := fun a z => z.elim .inl fun z => .inr (hown a z)
  refine ⟨rel.same, by simp [rel.len], fun j s e => ?_, fun j k a h1 h2 => rel.inj j k a (ownAt_set rfl h1 rel.len).1 (ownAt_set rfl h2 rel.len).1, fun a z => rel.nb a (hown a z), rel.bdom⟩
  by_cases hj : i = j
  · subst hj
    by_cases hi : i < sd.length
    · rw [List.getElem?_set_self hi] at e
      cases e
      exact ⟨v, List.getElem?_set_self (by rw [rel.len]; exact hi), trivial⟩
    · rw [List.getElem?_eq_none (by simpa using hi)] at e
      cases e
  · rw [List.getElem?_set_ne hj] at e
    obtain ⟨w, e2, q⟩ := rel.slot j s e
    exact ⟨w, by rw [List.getElem?_set_ne hj]; exact e2, q.up rel.same (up_own hav) fun a o _ _ q => q⟩
/-- what is one's own is shared from now on -/
def frz : Sl → Sl
  | .ol ds => .sh (.lst ds)
  | .od kvs => .sh (.dk kvs)
  | .oi C fs => .sh (.ins C fs)
  | s => s
def fz (i : Nat) (sd : SD) : SD := match sd[i]? with
  | some s => sd.set i (frz s)
  | none => sd
theorem Rel.fz (rel : Rel F σ H sd) (i : Nat) : Rel F σ H (fz i sd) ∧ ∀ a, Own σ (fz i sd) a → Own σ sd a := by
  unfold DS.fz
  cases q : sd[i]? with
  | none => exact ⟨rel, fun a h => h⟩
  | some s =>
    dsimp only
    have hi : i < sd.length := (List.getElem?_eq_some_iff.mp q).1
    have hat : ∀ j a, OwnAt σ (sd.set i (frz s)) j a → OwnAt σ sd j a ∧ j ≠ i := fun j a ⟨t, e, o, e2⟩ => by
      by_cases hj : i = j
      · subst hj
        rw [List.getElem?_set_self hi] at e
        cases e
        cases s <;> cases o
      · rw [List.getElem?_set_ne hj] at e
        exact ⟨⟨t, e, o, e2⟩, fun z => hj z.symm⟩
    have hown : ∀ a, Own σ (sd.set i (frz s)) a → Own σ sd a := fun a ⟨j, h⟩ => ⟨j, (hat j a h).1⟩
    have hav : ∀ a, Av F σ (sd.set i (frz s)) a → Av F σ sd a := fun a z => z.elim .inl fun z => .inr (hown a z)
    refine ⟨⟨rel.same, by simp [rel.len], fun j t e => ?_, fun j k a h1 h2 => rel.inj j k a (hat j a h1).1 (hat k a h2).1, fun a z => rel.nb a (hown a z), rel.bdom⟩, hown⟩
    by_cases hj : i = j
    · subst hj
      rw [List.getElem?_set_self hi] at e
      cases e
      obtain ⟨w, e2, h⟩ := rel.slot i s q
      refine ⟨w, e2, ?_⟩
      have nav : ∀ a, w = some (.ref a) → s.own = true → ¬ Av F σ (sd.set i (frz s)) a := fun a ew o z => by
        subst ew
        rcases z with z | ⟨j, z⟩
        · exact rel.nb a ⟨i, s, q, o, e2⟩ z
        · exact (hat j a z).2 (rel.inj j i a (hat j a z).1 ⟨s, q, o, e2⟩)
      cases s with
      | un => exact h
      | xc => exact h
      | sh d => obtain ⟨x, e, h⟩ := h; exact ⟨x, e, h.less hav⟩
      | ol ds => obtain ⟨a, vs, e, n, r, l⟩ := h; exact ⟨_, e, a, vs, rfl, nav a e rfl, r, l.less hav⟩
      | od ds => obtain ⟨a, vs, e, n, r, l⟩ := h; exact ⟨_, e, a, vs, rfl, nav a e rfl, .inl r, HoldsK.up (up_own hav) _ l⟩
      | oi C ds => obtain ⟨a, dx, vs, e, n, r, l⟩ := h; exact ⟨_, e, a, dx, vs, rfl, nav a e rfl, r, HoldsF.up (up_own hav) _ l⟩
      | bw d => obtain ⟨x, e, h⟩ := h; exact ⟨x, e, HoldsB.less (fun a _ n z => n (hav a z)) h⟩
    · rw [List.getElem?_set_ne hj] at e
      obtain ⟨w, e2, h⟩ := rel.slot j t e
      exact ⟨w, e2, h.up rel.same (up_own hav) fun a o _ _ q => q⟩
/-- a new object, one's own -/
theorem Rel.setO {H' : Hp} (rel : Rel F σ H sd) (i : Nat) {s : Sl} {p : Addr} (hs : s.own = true) (hn : H p = none) (s1 : Same H H') (hp : H' p ≠ none) (h : SlOk F H' (fun a => Av F σ sd a ∨ a = p) (some (.ref p)) s) :
    Rel F (σ.set i (some (.ref p))) H' (sd.set i s) ∧ ∀ a, Own (σ.set i (some (.ref p))) (sd.set i s) a → Own σ sd a ∨ a = p := by
  have hb : ¬ Av F σ sd p := fun z => rel.dom z hn
  have hat : ∀ j a, OwnAt (σ.set i (some (.ref p))) (sd.set i s) j a → (OwnAt σ sd j a ∧ j ≠ i) ∨ (j = i ∧ a = p) ∨ (OwnAt σ sd j a ∧ ¬ i < sd.length) := fun j a ⟨t, e, o, e2⟩ => by
    by_cases hj : i = j
    · subst hj
      by_cases hi : i < sd.length
      · rw [List.getElem?_set_self (by rw [rel.len]; exact hi)] at e2
        cases e2
        exact .inr (.inl ⟨rfl, rfl⟩)
      · rw [List.set_eq_of_length_le (by omega)] at e
        rw [List.set_eq_of_length_le (by have := rel.len; omega)] at e2
        exact .inr (.inr ⟨⟨t, e, o, e2⟩, hi⟩)
    · rw [List.getElem?_set_ne hj] at e e2
      exact .inl ⟨⟨t, e, o, e2⟩, fun z => hj z.symm⟩
  have hown : ∀ a, Own (σ.set i (some (.ref p))) (sd.set i s) a → Own σ sd a ∨ a = p := fun a ⟨j, z⟩ => by
    rcases hat j a z with z | z | z
    · exact .inl ⟨j, z.1⟩
    · exact .inr z.2
    · exact .inl ⟨j, z.1⟩
  have hav : ∀ a, Av F (σ.set i (some (.ref p))) (sd.set i s) a → Av F σ sd a ∨ a = p := fun a z => z.elim (fun z => .inl (.inl z)) fun z => (hown a z).imp_left .inr
  have u : Up H (Av F σ sd) H' (Av F (σ.set i (some (.ref p))) (sd.set i s)) := Up.ofOff (fun b o h _ => s1 b o h) fun b z => (hav b z).imp_right fun z => by rw [z]; exact hn
  refine ⟨⟨rel.same.trans s1, by simp [rel.len], fun j t e => ?_, fun j k a h1 h2 => ?_, fun a z => ?_, fun a z => Same.dom s1 a (rel.bdom a z)⟩, hown⟩
  · by_cases hj : i = j
    · subst hj
      by_cases hi : i < sd.length
      · rw [List.getElem?_set_self hi] at e
        cases e
        exact ⟨_, List.getElem?_set_self (by rw [rel.len]; exact hi), h.up (rel.same.trans s1) (up_own hav) fun a o _ _ q => q⟩
      · rw [List.getElem?_eq_none (by simpa using hi)] at e
        cases e
    · rw [List.getElem?_set_ne hj] at e
      obtain ⟨w, e2, q⟩ := rel.slot j t e
      exact ⟨w, by rw [List.getElem?_set_ne hj]; exact e2, q.up rel.same u fun a o _ _ q => s1 _ _ q⟩
  · rcases hat j a h1 with z1 | z1 | z1 <;> rcases hat k a h2 with z2 | z2 | z2
    · exact rel.inj j k a z1.1 z2.1
    · exact absurd (show Av F σ sd p from .inr ⟨j, by rw [← z2.2]; exact z1.1⟩) hb
    · exact rel.inj j k a z1.1 z2.1
    · exact absurd (show Av F σ sd p from .inr ⟨k, by rw [← z1.2]; exact z2.1⟩) hb
    · rw [z1.1, z2.1]
    · exact absurd (show Av F σ sd p from .inr ⟨k, by rw [← z1.2]; exact z2.1⟩) hb
    · exact rel.inj j k a z1.1 z2.1
    · exact absurd (show Av F σ sd p from .inr ⟨j, by rw [← z2.2]; exact z1.1⟩) hb
    · exact rel.inj j k a z1.1 z2.1
  · rcases hown a z with z | z
    · exact rel.nb a z
    · rw [z]; exact fun q => hb (.inl q)
/-- one's own object at i is written -/
theorem Rel.write (rel : Rel F σ H sd) {i : Nat} {s s' : Sl} {p : Addr} {o : HO} (e : sd[i]? = some s) (hs : s.own = true) (hs' : s'.own = true) (ev : σ[i]? = some (some (.ref p)))
    (h : SlOk F (upd H p o) (Av F σ sd) (some (.ref p)) s') : Rel F σ (upd H p o) (sd.set i s') ∧ ExtS σ sd H σ (sd.set i s') (upd H p o) := by
  have hi : i < sd.length := (List.getElem?_eq_some_iff.mp e).1
  have op : OwnAt σ sd i p := ⟨s, e, hs, ev⟩
  have hat : ∀ j a, OwnAt σ (sd.set i s') j a → OwnAt σ sd j a := fun j a ⟨t, e1, o1, e2⟩ => by
    by_cases hj : i = j
    · subst hj
      rw [ev] at e2
      cases e2
      exact op
    · rw [List.getElem?_set_ne hj] at e1
      exact ⟨t, e1, o1, e2⟩
  have hown : ∀ a, Own σ (sd.set i s') a → Own σ sd a := fun a ⟨j, z⟩ => ⟨j, hat j a z⟩
  have hav : ∀ a, Av F σ (sd.set i s') a → Av F σ sd a := fun a z => z.elim .inl fun z => .inr (hown a z)
  have u : Up H (Av F σ sd) (upd H p o) (Av F σ (sd.set i s')) := Up.ofOff (fun b q h n => by rw [upd_ne (fun z => n (.inr ⟨i, by rw [z]; exact op⟩))]; exact h) fun b z => .inl (hav b z)
  have s0 : Same F.H0 (upd H p o) := fun b q h => by
    rw [upd_ne (fun z => by
      have := (rel.odom ⟨i, op⟩).2
      rw [z, this] at h
      cases h)]
    exact rel.same b q h
  refine ⟨⟨s0, by simp [rel.len], fun j t e1 => ?_, fun j k a h1 h2 => rel.inj j k a (hat j a h1) (hat k a h2), fun a z => rel.nb a (hown a z), fun a z q => ?_⟩, ⟨fun b q h n => by rw [upd_ne (fun z => n ⟨i, by rw [z]; exact op⟩)]; exact h, fun b z => .inl (hown b z), fun b h z => ?_⟩⟩
  · by_cases hj : i = j
    · subst hj
      rw [List.getElem?_set_self hi] at e1
      cases e1
      exact ⟨_, ev, h.up s0 (up_own hav) fun a o _ _ q => q⟩
    · rw [List.getElem?_set_ne hj] at e1
      obtain ⟨w, e2, q⟩ := rel.slot j t e1
      refine ⟨w, e2, q.up rel.same u fun a o1 o2 ew q => ?_⟩
      rw [upd_ne fun z => hj (rel.inj i j p op ⟨t, e1, o2, by rw [e2, ew, z]⟩)]
      exact q
  · by_cases hz : a = p
    · rw [hz, upd_same] at q; cases q
    · rw [upd_ne hz] at q
      exact rel.bdom a z q
  · by_cases hz : b = p
    · rw [hz, upd_same] at z; cases z
    · rw [upd_ne hz] at z
      exact h z
end
end DS
set_option Elab.async false
set_option linter.all false
set_option maxRecDepth 100000
set_option maxHeartbeats 2000000
namespace DS
open PySem L2
variable {F : Fr} {X : Cx} {W : WX} {a b c e : Expr} {fa fb fc : EF} {pos : Pos} {st : Stmt} {sts : List Stmt} {f g : SF}

/-! ### an expression, then a statement's end -/
theorem post_ex {bb : Bool} {mg : Str → Option Value} {σ : St} {H : Hp} {sd : SD} {c : Str} {fs : List (Str × D)} {T : Ends} (rel : Rel F σ H sd) (p : PostS mg W F σ sd T (.ex c fs sd) H) {Q : VK} : Post bb mg W σ (Av F σ sd) (.ex c fs) H Q :=
  fun cls da H' s h => p cls da σ H' (rel.mono s) (ExtS.same s fun _ z => z) (by
    rcases h with ⟨C, h1, h2, h3⟩ | h
    · refine .inl ⟨C, h1, h2, h3.imp_right fun ⟨d, ws, e1, e2, e3⟩ => ⟨d, ws, e1, e2, HoldsF.up (up_own fun a z => .inl z) _ e3⟩⟩
    · exact .inr h)
def sE (f : EF) (k : D → SD → SO) : SF := fun s => match f s with
  | .ok d => k d s
  | .ex c fs => .ex c fs s
  | .no => .no
theorem tsE {bb : Bool} {mg : Str → Option Value} {k : D → SD → SO} {σ : St} {H : Hp} {sd : SD} {T : Ends} {Q : VK} (rel : Rel F σ H sd) (p : PostS mg W F σ sd T (sE fa k sd) H)
    (hk : ∀ d v H', fa sd = .ok d → Same H H' → Rel F σ H' sd → (if bb = true then HoldsB H' (Av F σ sd) d v else Holds H' (Av F σ sd) d v) → PostS mg W F σ sd T (k d sd) H' → Q v H') : TEx bb F mg W fa σ H Q := by
  refine ⟨sd, rel, ?_⟩
  unfold sE at p
  cases q : fa sd with
  | no => rw [q] at p; exact p
  | ex c fs => rw [q] at p; exact post_ex rel p
  | ok d =>
    rw [q] at p
    intro v H' s h
    exact hk d v H' q s (rel.mono s) h (PostS.ext (ExtS.same s fun _ z => z) p)
theorem nxp {mg : Str → Option Value} {σ σ' : St} {H H' : Hp} {sd s' : SD} {T : Ends} (p : PostS mg W F σ sd T (.nx s') H) (r : Rel F σ' H' s') (e : ExtS σ sd H σ' s' H') : T.nx σ' H' := p σ' H' r e

def sExpr (f : EF) : SF := sE f fun _ s => .nx s
theorem ds_expr {bb : Bool} (h : DX bb F X W e fa) (hs : swapsWith e none pos.line X.env = pure false := by rfl) : DX1 F X W (.Expr e pos) (sExpr fa) :=
  ⟨PS.weak (ps_expr h.pe hs) fun T σ H ⟨sd, rel, p⟩ => tsE rel p fun d v H' q s r h p' => p' σ H' r (ExtS.same (Same.refl _) fun _ z => z)⟩
def sRet (f : EF) : SF := sE f fun d _ => .rt d
theorem ds_ret (h : DE F X W e fa) : DX1 F X W (.Return (some e) pos) (sRet fa) :=
  ⟨PS.weak (ps_ret h.pe) fun T σ H ⟨sd, rel, p⟩ => tsE (bb := false) rel p fun d v H' q s r h p' => p' v H' r.same (Holds.less h fun a z => .inl z)⟩
theorem ds_retN : DX1 F X W (.Return none pos) (fun _ => .rt .non) := ⟨PS.weak ps_retN fun T σ H ⟨sd, rel, p⟩ => p _ H rel.same rfl⟩
theorem ds_pass : DX1 F X W (.Pass pos) .nx := ⟨PS.weak ps_pass fun T σ H ⟨sd, rel, p⟩ => p σ H rel .refl⟩
theorem ds_break : DX1 F X W (.Break pos) .bk := ⟨PS.weak ps_break fun T σ H ⟨sd, rel, p⟩ => p σ H rel .refl⟩
theorem ds_continue : DX1 F X W (.Continue pos) .ct := ⟨PS.weak ps_continue fun T σ H ⟨sd, rel, p⟩ => p σ H rel .refl⟩
def sIf (t : TF) (f g : SF) : SF := fun s => match t s with
  | .ok true => f s
  | .ok false => g s
  | .ex c fs => .ex c fs s
  | .no => .no
variable {tt : TF}
theorem ds_if {l r : List Stmt} (h : DT F X W c tt) (hf : DXs F X W l f) (hg : DXs F X W r g) : DX1 F X W (.If c l r pos) (sIf tt f g) := ⟨PS.weak (ps_if h.pt hf.ps hg.ps) fun T σ H ⟨sd, rel, p⟩ => ⟨sd, rel, by
  unfold sIf at p
  cases q : tt sd with
  | no => rw [q] at p; exact p
  | ex c fs => rw [q] at p; exact fun cls da H' s h => post_ex (bb := false) (Q := fun _ _ => True) rel p cls da H' s h
  | ok b =>
    rw [q] at p
    intro H' s
    have e := ExtS.same (σ := σ) (sd := sd) (σ' := σ) (sd' := sd) s fun _ z => z
    cases b with
    | true => rw [if_pos rfl]; exact ⟨sd, rel.mono s, PostS.ext e p⟩
    | false => rw [if_neg Bool.false_ne_true]; exact ⟨sd, rel.mono s, PostS.ext e p⟩⟩⟩
def sSet (i : Nat) (f : EF) : SF := sE f fun d s => .nx (s.set i (.sh d))
theorem ds_set (i : Nat) {x : Str} {pos' : Pos} (hN : X.N.Nodup) (hi : X.N[i]? = some x) (hx : Loc X.env.scope x) (h : DE F X W e fa) (hs : swapsWith e (some (.Name x pos')) pos.line X.env = pure false := by rfl)
    (hf : X.fn x = true ∨ X.env.scope.names.lookup x = some .local := by first | exact .inl rfl | exact .inr rfl | assumption) : DX1 F X W (.Assign [.Name x pos'] e pos) (sSet i fa) :=
  ⟨PS.weak (ps_set (i := i) hN hi hx h.pe hs hf) fun T σ H ⟨sd, rel, p⟩ => tsE (bb := false) rel p fun d v H' q s r h p' =>
    p' _ H' (r.set i h) (ExtS.same (Same.refl _) fun b z => own_set rfl r.len z)⟩
/-- a ghost: slot i is shared from here on -/
theorem ds_fz (i : Nat) (h : DXs F X W sts f) : DXs F X W sts (fun s => f (fz i s)) := ⟨PSs.weak h.ps fun T σ H ⟨sd, rel, p⟩ =>
  ⟨fz i sd, (rel.fz i).1, PostS.ext (ExtS.same (Same.refl _) (rel.fz i).2) p⟩⟩
theorem ds_fz1 (i : Nat) (h : DX1 F X W st f) : DX1 F X W st (fun s => f (fz i s)) := ⟨PS.weak h.ps fun T σ H ⟨sd, rel, p⟩ =>
  ⟨fz i sd, (rel.fz i).1, PostS.ext (ExtS.same (Same.refl _) (rel.fz i).2) p⟩⟩

/-! ### new objects -/
abbrev NF := SD → R ND
def TNx (F : Fr) (mg : Str → Option Value) (W : WX) (f : NF) : TE := fun σ H Q => ∃ sd, Rel F σ H sd ∧ match f sd with
  | .ok n => ∀ p H', Same H H' → H p = none → H' p ≠ none → (∀ F' : Fr, F'.H0 p = none → SlOk F' H' (fun a => Av F σ sd a ∨ a = p) (some (.ref p)) n.sl) → Q (.ref p) H'
  | .ex c fs => ∀ cls da H', Same H H' → ExRep mg H' (Av F σ sd) c fs cls da → W cls da σ H'
  | .no => False
structure DN (F : Fr) (X : Cx) (W : WX) (e : Expr) (f : NF) : Prop where
  pe : PE X e (TNx F X.mg W f)
def eN (f : NF) : EF := fun s => (f s).bind fun n => .ok n.d
/-- a new object, shared at once -/
theorem DN.de {fn : NF} (h : DN F X W e fn) : DE F X W e (eN fn) := ⟨PE.weak h.pe fun σ H Q ⟨sd, rel, p⟩ => ⟨sd, rel, by
  unfold eN at p
  cases q : fn sd with
  | no => rw [q] at p; exact p
  | ex c fs => rw [q] at p; exact p
  | ok n =>
    rw [q, R.bind_ok] at p
    intro pa H' s hn hp h
    refine p _ H' s ?_
    have nav : ¬ Av F σ sd pa := fun z => rel.dom z hn
    have h := h ⟨fun _ => none, fun _ => False, 0⟩ rfl
    cases n with
    | nl ds => obtain ⟨a, vs, e, _, r, l⟩ := h; cases e; exact ⟨pa, vs, rfl, nav, r, l.less fun _ z => .inl z⟩
    | nd ds => obtain ⟨a, vs, e, _, r, l⟩ := h; cases e; exact ⟨pa, vs, rfl, nav, .inl r, HoldsK.up (up_own fun _ z => .inl z) _ l⟩⟩⟩
def sSetN (i : Nat) (f : NF) : SF := fun s => match f s with
  | .ok n => .nx (s.set i n.sl)
  | .ex c fs => .ex c fs s
  | .no => .no
theorem tsN {mg : Str → Option Value} {σ : St} {H : Hp} {sd : SD} {T : Ends} {fn : NF} {Q : VK} (i : Nat) (rel : Rel F σ H sd) (p : PostS mg W F σ sd T (sSetN i fn sd) H)
    (hk : ∀ pa H', T.nx (σ.set i (some (.ref pa))) H' → Q (.ref pa) H') : TNx F mg W fn σ H Q := by
  refine ⟨sd, rel, ?_⟩
  unfold sSetN at p
  cases q : fn sd with
  | no => rw [q] at p; exact p
  | ex c fs => rw [q] at p; exact fun cls da H' s h => post_ex (bb := false) (Q := fun _ _ => True) rel p cls da H' s h
  | ok n =>
    rw [q] at p
    intro pa H' s hn hp h
    have h0 : F.H0 pa = none := rel.same.free hn
    have ho : n.sl.own = true := by cases n <;> rfl
    obtain ⟨r2, own2⟩ := rel.setO i ho hn s hp (h F h0)
    exact hk pa H' (p _ H' r2 ⟨fun b o hb _ => s _ _ hb, fun b z => (own2 b z).imp_right fun z => by rw [z]; exact hn, Same.dom s⟩)
theorem ds_setN (i : Nat) {x : Str} {pos' : Pos} {fn : NF} (hN : X.N.Nodup) (hi : X.N[i]? = some x) (hx : Loc X.env.scope x) (h : DN F X W e fn) (hs : swapsWith e (some (.Name x pos')) pos.line X.env = pure false := by rfl)
    (hf : X.fn x = true ∨ X.env.scope.names.lookup x = some .local := by first | exact .inl rfl | exact .inr rfl | assumption) : DX1 F X W (.Assign [.Name x pos'] e pos) (sSetN i fn) :=
  ⟨PS.weak (ps_set (i := i) hN hi hx h.pe hs hf) fun T σ H ⟨sd, rel, p⟩ => tsN i rel p fun pa H' h => h⟩
def nLst : List D → R ND := fun ds => if ds.length ≤ sizeLine then .ok (.nl ds) else .no
def nAll (op : List D → R ND) (fs : List EF) : NF := fun s => (evalL fs s).bind op
variable {es : List Expr} {fs : List EF}
theorem tnas {b : Bool} {op : List D → R ND} {mg : Str → Option Value} {σ : St} {H : Hp} {Q : VK} {r : List V → Hp → Prop} {sd : SD} (rel : Rel F σ H sd)
    (p : match (evalL fs sd).bind op with
      | .ok n => ∀ p H', Same H H' → H p = none → H' p ≠ none → (∀ F' : Fr, F'.H0 p = none → SlOk F' H' (fun a => Av F σ sd a ∨ a = p) (some (.ref p)) n.sl) → Q (.ref p) H'
      | .ex c fs => ∀ cls da H', Same H H' → ExRep mg H' (Av F σ sd) c fs cls da → W cls da σ H'
      | .no => False)
    (hr : ∀ (ds : List D) (n : ND), evalL fs sd = .ok ds → op ds = .ok n → ∀ (vs : List V) (H2 : Hp), Same H H2 → Rel F σ H2 sd → HoldsXL b H2 (Av F σ sd) ds vs →
      (∀ p H', Same H2 H' → H2 p = none → H' p ≠ none → (∀ F' : Fr, F'.H0 p = none → SlOk F' H' (fun a => Av F σ sd a ∨ a = p) (some (.ref p)) n.sl) → Q (.ref p) H') → r vs H2)
    (hex : ∀ ds c fs', op ds ≠ .ex c fs') : TAx b F mg W (evalL fs) σ H r := by
  refine ⟨sd, rel, ?_⟩
  cases q : evalL fs sd with
  | ok ds =>
    rw [q, R.bind_ok] at p
    intro vs H2 s h
    cases q2 : op ds with
    | ok n =>
      rw [q2] at p
      exact hr ds n q q2 vs H2 s (rel.mono s) h fun pa H' s2 hn hp hh => p pa H' (s.trans s2) (s.free hn) hp hh
    | ex c fs' => exact absurd q2 (hex _ _ _)
    | no => rw [q2] at p; exact p.elim
  | ex c fs => rw [q] at p; exact p
  | no => rw [q] at p; exact p
theorem slok_lst {F' : Fr} {H : Hp} {A : Addr → Prop} {ds : List D} {vs : List V} {p : Addr} (h : HoldsL H A ds vs) (dm : ∀ a, A a → H a ≠ none) (hn : H p = none) (h0 : F'.H0 p = none) : SlOk F' (upd H p (.lst vs)) (fun a => A a ∨ a = p) (some (.ref p)) (.ol ds) :=
  ⟨p, vs, rfl, h0, upd_same, HoldsL.up (Up.ofOff (fun b o q _ => same_upd hn b o q) fun b z => z.imp_right fun z => by rw [z]; exact hn) _ h⟩
theorem slok_dk {F' : Fr} {H : Hp} {A : Addr → Prop} {ds : List (L2.Key × D)} {vs : List (L2.Key × V)} {p : Addr} (h : HoldsK H A ds vs) (dm : ∀ a, A a → H a ≠ none) (hn : H p = none) (h0 : F'.H0 p = none) : SlOk F' (upd H p (.dK vs)) (fun a => A a ∨ a = p) (some (.ref p)) (.od ds) :=
  ⟨p, vs, rfl, h0, upd_same, HoldsK.up (Up.ofOff (fun b o q _ => same_upd hn b o q) fun b z => z.imp_right fun z => by rw [z]; exact hn) _ h⟩
theorem nLst_ex (ds : List D) (c : Str) (fs' : List (Str × D)) : nLst ds ≠ .ex c fs' := by unfold nLst; split <;> exact fun z => by cases z
theorem dn_lst (h : DA false F X W es fs) : DN F X W (.List es pos) (nAll nLst fs) := ⟨PE.weak (pe_lst h.pa) fun σ H Q ⟨sd, rel, p⟩ => tnas (b := false) rel p (fun ds n q q2 vs H2 s r2 hv k => by
  unfold nLst at q2
  split at q2
  · rename_i hl
    cases q2
    refine ⟨by rw [hv.l.length]; exact hl, fun pa hn => k pa _ (same_upd hn) hn (by rw [upd_same]; simp) fun F' h0 => slok_lst hv.l (fun a z => r2.dom z) hn h0⟩
  · cases q2) nLst_ex⟩
theorem dn_dnew : DN F X W (.Dict [] [] pos) (fun _ => .ok (.nd [])) := ⟨PE.weak pe_dnewK fun σ H Q ⟨sd, rel, p⟩ => fun pa hn =>
  p pa _ (same_upd hn) hn (by rw [upd_same]; simp) fun F' h0 => slok_dk (ds := []) rfl (fun a z => rel.dom z) hn h0⟩
def nList : List D → R ND
  | [.lst xs] => .ok (.nl xs)
  | [.tup xs] => .ok (.nl xs)
  | [.dk kvs] => .ok (.nl (kvs.map fun kv => keyDd kv.1))
  | _ => .no
theorem nList_ex (ds : List D) (c : Str) (fs' : List (Str × D)) : nList ds ≠ .ex c fs' := by unfold nList; split <;> exact fun z => by cases z
theorem dn_list {x : Str} {p : Pos} (hc : X.calm = true) (hx : x = "list") (hg : Gl X x) (hm : X.mg x = none) (ha : DA true F X W (e :: es) fs)
    (hv : bootBuiltins x = some (.type "list") := by first | rfl | decide +kernel) (hn : x ≠ "__name__" := by decide) (hdb : (x == ("__debug__" : Str)) = false := by decide) (he : starEach (e :: es) X.env = (false, eval e X.env) :: starEach es X.env := by rfl) (hpl : (backTo pos (starEach es X.env)).any (·.1) = false := by rfl) :
    DN F X W (.Call (.Name x p) (e :: es) [] pos) (nAll nList fs) :=
  ⟨PE.weak (pe_callTy (or_list hc) hg hm hv ha.pa hn hdb he hpl) fun σ H Q ⟨sd, rel, p⟩ => tnas (b := true) rel p (fun ds n q q2 vs H2 s r2 hv k => by
    have fin : ∀ {ds : List D} {ws : List V}, HoldsL H2 (Av F σ sd) ds ws → n = .nl ds → ∀ l, H2 l = none → Q (.ref l) (upd H2 l (.lst ws)) := fun hl en l hn => by
      subst en
      exact k l _ (same_upd hn) hn (by rw [upd_same]; simp) fun F' h0 => slok_lst hl (fun a z => r2.dom z) hn h0
    unfold nList at q2
    split at q2
    · cases q2
      obtain ⟨v, r, rfl, h, rfl⟩ := hv
      obtain ⟨a, ws, rfl, r, l⟩ := h
      exact .inl ⟨a, ws, rfl, .inl (SqL.of r), fin l rfl⟩
    · cases q2
      obtain ⟨v, r, rfl, h, rfl⟩ := hv
      obtain ⟨a, ws, rfl, na, r, l⟩ := h
      exact .inl ⟨a, ws, rfl, .inr (SqT.of r), fin l rfl⟩
    · cases q2
      obtain ⟨v, r, rfl, h, rfl⟩ := hv
      obtain ⟨a, ws, rfl, r, l⟩ := h
      exact .inr ⟨a, ws, rfl, r, fin (holdsL_keys l) rfl⟩
    · cases q2) nList_ex⟩

/-! ### targets -/
abbrev GF := D → SD → Option SD
def Off (ts : List Nat) (σ σ' : St) : Prop := σ'.length = σ.length ∧ ∀ j, j ∉ ts → σ'[j]? = σ[j]?
def TGx (F : Fr) (g : GF) (ts : List Nat) : TG := fun v σ H Q => ∃ sd d, Rel F σ H sd ∧ Holds H (Av F σ sd) d v ∧ match g d sd with
  | some s' => ∀ σ', Rel F σ' H s' → (∀ a, Own σ' s' a → Own σ sd a) → Off ts σ σ' → Q σ' H
  | none => False
structure DG (F : Fr) (X : Cx) (t : Expr) (g : GF) (ts : List Nat) : Prop where
  pg : PG X t (TGx F g ts)
theorem PG.weak {X : Cx} {e : Expr} {t t' : TG} (h : PG X e t) (k : ∀ v σ H Q, t' v σ H Q → t v σ H Q) : PG X e t' := ⟨fun pins s σ H v u Q I r q => h.run pins s σ H v u Q I r (k _ _ _ _ q)⟩
theorem PGs.weak {X : Cx} {e : List Expr} {t t' : TGs} (h : PGs X e t) (k : ∀ v σ H Q, t' v σ H Q → t v σ H Q) : PGs X e t' := ⟨fun pins s σ H v u Q I r q => h.run pins s σ H v u Q I r (k _ _ _ _ q)⟩
def gN (i : Nat) : GF := fun d s => some (s.set i (.sh d))
theorem dg_name (i : Nat) {x : Str} (hN : X.N.Nodup) (hi : X.N[i]? = some x) (hx : Loc X.env.scope x) (hf : X.fn x = true ∨ X.env.scope.names.lookup x = some .local := by first | exact .inl rfl | exact .inr rfl | assumption) : DG F X (.Name x pos) (gN i) [i] :=
  ⟨PG.weak (pg_name (i := i) hN hi hx hf) fun v σ H Q ⟨sd, d, rel, h, p⟩ => p _ (rel.set i h) (fun a z => own_set rfl rel.len z) ⟨by simp, fun j hj => List.getElem?_set_ne fun z => hj (by simp [z])⟩⟩
abbrev GFs := List D → SD → Option SD
def TGsx (F : Fr) (g : GFs) (ts : List Nat) : TGs := fun vs σ H Q => ∃ sd ds, Rel F σ H sd ∧ HoldsL H (Av F σ sd) ds vs ∧ match g ds sd with
  | some s' => ∀ σ', Rel F σ' H s' → (∀ a, Own σ' s' a → Own σ sd a) → Off ts σ σ' → Q σ' H
  | none => False
structure DGs (F : Fr) (X : Cx) (t : List Expr) (g : GFs) (ts : List Nat) : Prop where
  pg : PGs X t (TGsx F g ts)
def gNil' : GFs := fun ds s => match ds with
  | [] => some s
  | _ => none
def gCons' (g : GF) (h : GFs) : GFs := fun ds s => match ds with
  | d :: r => (g d s).bind fun s' => h r s'
  | [] => none
theorem dgs_nil : DGs F X [] gNil' [] := ⟨PGs.weak pgs_nil fun vs σ H Q ⟨sd, ds, rel, h, p⟩ => by
  cases ds with
  | nil => cases h; exact ⟨rfl, p σ rel (fun _ z => z) ⟨rfl, fun _ _ => rfl⟩⟩
  | cons d r => exact p.elim⟩
theorem dgs_cons {t : Expr} {ts : List Expr} {g : GF} {h : GFs} {t1 t2 : List Nat} (h1 : DG F X t g t1) (h2 : DGs F X ts h t2) (hs : (assignEach (t :: ts) X.env).map (·.2) = assign t X.env :: (assignEach ts X.env).map (·.2) := by rfl) : DGs F X (t :: ts) (gCons' g h) (t1 ++ t2) :=
  ⟨PGs.weak (pgs_cons h1.pg h2.pg hs) fun vs σ H Q ⟨sd, ds, rel, hh, p⟩ => by
    cases ds with
    | nil => exact p.elim
    | cons d r =>
      obtain ⟨v, vr, rfl, hd, hr⟩ := hh
      refine ⟨v, vr, rfl, sd, d, rel, hd, ?_⟩
      unfold gCons' at p
      dsimp only at p
      cases q : g d sd with
      | none => rw [q] at p; exact p
      | some s' =>
        rw [q] at p
        simp only [Option.bind_some] at p
        intro σ' rel' own' off'
        refine ⟨s', r, rel', hr.less fun a z => z.elim .inl fun z => .inr (own' a z), ?_⟩
        cases q2 : h r s' with
        | none => rw [q2] at p; exact p
        | some s2 =>
          rw [q2] at p
          exact fun σ2 rel2 own2 off2 => p σ2 rel2 (fun a z => own' a (own2 a z)) ⟨off2.1.trans off'.1, fun j hj => (off2.2 j fun z => hj (List.mem_append_right _ z)).trans (off'.2 j fun z => hj (List.mem_append_left _ z))⟩⟩
def gTupD (n : Nat) (h : GFs) : GF := fun d s => match d with
  | .tup ds => if ds.length = n then h ds s else none
  | _ => none
theorem dg_tup {ts : List Expr} {k : Nat} {h : GFs} {n : Nat} {pos : Pos} {tl : List Nat} (hc : X.calm = true) (h1 : DGs F X ts h tl) (hn : (assignEach ts X.env).length = n := by rfl) (hst : (assignEach ts X.env).findIdx? (·.1) = none := by rfl) : DG F X (.Tuple ts k pos) (gTupD n h) tl :=
  ⟨PG.weak (pg_tup hc h1.pg hn hst) fun v σ H Q ⟨sd, d, rel, hh, p⟩ => by
    unfold gTupD at p
    split at p
    · rename_i ds he
      split at he
      · split at he
        · rename_i hl
          obtain ⟨a, vs, rfl, na, r, l⟩ := hh
          refine ⟨a, vs, rfl, SqT.of r, by rw [l.length]; exact hl, sd, _, rel, l, ?_⟩
          rw [he]
          exact p
        · cases he
      · cases he
    · exact p.elim⟩
def sAsg (f : EF) (g : GF) : SF := sE f fun d s => match g d s with
  | some s' => .nx s'
  | none => .no
theorem ds_asg {t : Expr} {g : GF} {tl : List Nat} (he : DE F X W e fa) (hg : DG F X t g tl) (hs : swapsWithSole [t] e pos.line X.env = pure false := by rfl) (hw : swappedStores [t] e X.env = pure none := by rfl) (h1 : (assignEach [t] X.env).map (·.2) = [assign t X.env] := by rfl) : DX1 F X W (.Assign [t] e pos) (sAsg fa g) :=
  ⟨PS.weak (ps_asg he.pe hg.pg hs hw h1) fun T σ H ⟨sd, rel, p⟩ => tsE (bb := false) rel p fun d v H' q s r h p' => by
    refine ⟨sd, d, r, h, ?_⟩
    cases q2 : g d sd with
    | none => rw [q2] at p'; exact p'
    | some s' =>
      rw [q2] at p'
      exact fun σ' r' own' _ => p' σ' H' r' (ExtS.same (Same.refl _) own')⟩
/-- a, b = e1, e2, both sides written -/
def sPar (i j : Nat) (fa fb : EF) : SF := fun s => match evalL [fa, fb] s with
  | .ok (d :: e :: _) => .nx ((s.set i (.sh d)).set j (.sh e))
  | .ok _ => .no
  | .ex c fs => .ex c fs s
  | .no => .no
theorem ds_par (i j : Nat) {x y : Str} {px py pt : Pos} {kt k2 pt2} (hc : X.calm = true) (hN : X.N.Nodup) (hi : X.N[i]? = some x) (hj : X.N[j]? = some y) (hij : i ≠ j)
    (hx : X.env.scope.names.lookup x = some .local) (hy : X.env.scope.names.lookup y = some .local) (ha : DA false F X W [a, b] [fa, fb])
    (hw : swappedStores [.Tuple [.Name x px, .Name y py] kt pt] (.Tuple [a, b] k2 pt2) X.env = pure (some [x, y]))
    (hs : swapsWithSole [.Tuple [.Name x px, .Name y py] kt pt] (.Tuple [a, b] k2 pt2) pos.line X.env = pure false := by rfl) : DX1 F X W (.Assign [.Tuple [.Name x px, .Name y py] kt pt] (.Tuple [a, b] k2 pt2) pos) (sPar i j fa fb) :=
  ⟨PS.weak (ps_par hc hN hi hj hij hx hy ha.pa hw hs) fun T σ H ⟨sd, rel, p⟩ => ⟨sd, rel, by
    unfold sPar at p
    cases q : evalL [fa, fb] sd with
    | no => rw [q] at p; exact p
    | ex c fs => rw [q] at p; exact fun cls da H' s h => post_ex (bb := false) (Q := fun _ _ => True) rel p cls da H' s h
    | ok ds =>
      rw [q] at p
      intro vs H' s hv
      match ds, hv with
      | [d, e], hv =>
        obtain ⟨v, r, rfl, h1, w, r2, rfl, h2, rfl⟩ := hv
        have r1 := (rel.mono s).set i h1
        have o1 : ∀ a, Own (σ.set i (some v)) (sd.set i (.sh d)) a → Own σ sd a := fun a z => own_set rfl rel.len z
        have r2 := r1.set j (Holds.less h2 fun a z => z.elim .inl fun z => .inr (o1 a z))
        exact ⟨v, w, rfl, p _ H' r2 (ExtS.same s fun a z => o1 a (own_set rfl r1.len z))⟩
      | [], hv => exact p.elim
      | [_], hv => exact p.elim
      | d :: e :: g :: r, hv =>
        exfalso
        simp only [evalL] at q
        cases h1 : fa sd <;> rw [h1] at q <;> try (cases q)
        rw [R.bind_ok] at q
        cases h2 : fb sd <;> rw [h2] at q <;> cases q⟩⟩
end DS
set_option Elab.async false
set_option linter.all false
set_option maxRecDepth 100000
set_option maxHeartbeats 2000000
namespace DS
open PySem L2
variable {F : Fr} {X : Cx} {W : WX} {a b c e : Expr} {fa fb fc : EF} {pos : Pos} {st : Stmt} {sts : List Stmt} {f g : SF} {tt : TF}

/-! ### while -/
def whileN (t : TF) (b : SF) : Nat → SD → Option SO
  | 0, _ => none
  | n + 1, s => match t s with
    | .ok true => (match b s with
      | .nx s' => whileN t b n s'
      | .ct s' => whileN t b n s'
      | .bk s' => some (.nx s')
      | o => some o)
    | .ok false => some (.nx s)
    | .ex c fs => some (.ex c fs s)
    | .no => some .no
open Classical in
noncomputable def sWhile (t : TF) (b : SF) : SF := fun s => if h : ∃ n o, whileN t b n s = some o then h.choose_spec.choose else .no
theorem whileN_mono {t : TF} {b : SF} : ∀ {n m : Nat} {s : SD} {o : SO}, whileN t b n s = some o → n ≤ m → whileN t b m s = some o
  | 0, _, _, _, h, _ => by cases h
  | n + 1, 0, _, _, _, hl => by omega
  | n + 1, m + 1, s, o, h, hl => by
    unfold whileN at h ⊢
    cases q : t s with
    | no => rw [q] at h; exact h
    | ex c fs => rw [q] at h; exact h
    | ok bb =>
      rw [q] at h
      cases bb with
      | false => exact h
      | true =>
        dsimp only at h ⊢
        cases q2 : b s with
        | nx s' => rw [q2] at h; exact whileN_mono h (by omega)
        | ct s' => rw [q2] at h; exact whileN_mono h (by omega)
        | rt d => rw [q2] at h; exact h
        | rn n => rw [q2] at h; exact h
        | bk s' => rw [q2] at h; exact h
        | ex c fs s' => rw [q2] at h; exact h
        | no => rw [q2] at h; exact h
theorem sWhile_of {t : TF} {b : SF} {n : Nat} {s : SD} {o : SO} (h : whileN t b n s = some o) : sWhile t b s = o := by
  have hx : ∃ n o, whileN t b n s = some o := ⟨n, o, h⟩
  unfold sWhile
  rw [dif_pos hx]
  have h2 := hx.choose_spec.choose_spec
  have h3 := whileN_mono h2 (Nat.le_max_left _ n)
  have h4 := whileN_mono h (Nat.le_max_right hx.choose n)
  rw [h3] at h4
  exact Option.some.inj h4
theorem sWhile_some {t : TF} {b : SF} {s : SD} (h : sWhile t b s ≠ .no) : ∃ n, whileN t b n s = some (sWhile t b s) := by
  unfold sWhile at h ⊢
  split at h
  · rename_i hx
    rw [dif_pos hx]
    exact ⟨_, hx.choose_spec.choose_spec⟩
  · exact absurd rfl h
/-- one turn -/
theorem sWhile_eq (t : TF) (b : SF) (s : SD) : sWhile t b s = match t s with
    | .ok true => (match b s with
      | .nx s' => sWhile t b s'
      | .ct s' => sWhile t b s'
      | .bk s' => .nx s'
      | o => o)
    | .ok false => .nx s
    | .ex c fs => .ex c fs s
    | .no => .no := by
  have key : ∀ s', (∃ n o, whileN t b n s' = some o) ∨ sWhile t b s' = .no := fun s' => by
    by_cases h : ∃ n o, whileN t b n s' = some o
    · exact .inl h
    · unfold sWhile; rw [dif_neg h]; exact .inr rfl
  have none_of : ∀ s', (¬ ∃ n o, whileN t b n s' = some o) → sWhile t b s' = .no := fun s' h => by unfold sWhile; rw [dif_neg h]
  cases q : t s with
  | no => exact sWhile_of (n := 1) (by unfold whileN; rw [q])
  | ex c fs => exact sWhile_of (n := 1) (by unfold whileN; rw [q])
  | ok bb =>
    cases bb with
    | false => exact sWhile_of (n := 1) (by unfold whileN; rw [q])
    | true =>
      dsimp only
      have go : ∀ s', (b s = .nx s' ∨ b s = .ct s') → sWhile t b s = sWhile t b s' := fun s' hb => by
        have st : ∀ n, whileN t b (n + 1) s = whileN t b n s' := fun n => by
          rcases hb with hb | hb
          · conv => lhs; unfold whileN
            rw [q, hb]
          · conv => lhs; unfold whileN
            rw [q, hb]
        by_cases h : ∃ n o, whileN t b n s' = some o
        · obtain ⟨n, o, h⟩ := h
          rw [sWhile_of h]
          exact sWhile_of (n := n + 1) (by rw [st]; exact h)
        · rw [none_of s' h]
          refine none_of s fun ⟨n, o, h2⟩ => h ?_
          cases n with
          | zero => cases h2
          | succ n => exact ⟨n, o, by rw [← st]; exact h2⟩
      cases q2 : b s with
      | nx s' => exact go s' (.inl q2)
      | ct s' => exact go s' (.inr q2)
      | rt d => exact sWhile_of (n := 1) (by unfold whileN; rw [q]; dsimp only; rw [q2])
      | rn n => exact sWhile_of (n := 1) (by unfold whileN; rw [q]; dsimp only; rw [q2])
      | bk s' => exact sWhile_of (n := 1) (by unfold whileN; rw [q]; dsimp only; rw [q2])
      | ex c fs s' => exact sWhile_of (n := 1) (by unfold whileN; rw [q]; dsimp only; rw [q2])
      | no => exact sWhile_of (n := 1) (by unfold whileN; rw [q]; dsimp only; rw [q2])
theorem ds_while {body : List Stmt} (hp : PassesOwn (model X.prog X.w) X.A X.env X.xe) (hc : DT F X W c tt) (hb : DXs F X W body f) : DX1 F X W (.While c body [] pos) (sWhile tt f) :=
  ⟨PS.weak (ps_while hp hc.pt hb.ps) fun T σ H ⟨sd, rel, p⟩ => by
    have hne : sWhile tt f sd ≠ .no := fun z => by rw [z] at p; exact p
    obtain ⟨n, hn⟩ := sWhile_some hne
    generalize sWhile tt f sd = o at hn p
    refine ⟨fun m σ' H' => ∃ s', Rel F σ' H' s' ∧ ExtS σ sd H σ' s' H' ∧ whileN tt f m s' = some o, ⟨n, sd, rel, .refl, hn⟩, ?_⟩
    rintro m σ1 H1 ⟨s1, r1, e1, w1⟩
    cases m with
    | zero => cases w1
    | succ m =>
      unfold whileN at w1
      refine ⟨s1, r1, ?_⟩
      cases q : tt s1 with
      | no =>
        rw [q] at w1
        cases w1
        exact p
      | ex c fs =>
        rw [q] at w1
        cases w1
        exact fun cls da H' s h => post_ex (bb := false) (Q := fun _ _ => True) r1 (PostS.ext e1 p) cls da H' s h
      | ok bb =>
        rw [q] at w1
        intro H2 s2
        have e2 : ExtS σ sd H σ1 s1 H2 := e1.trans (ExtS.same s2 fun _ z => z)
        cases bb with
        | false =>
          cases w1
          rw [if_neg Bool.false_ne_true]
          exact p σ1 H2 (r1.mono s2) e2
        | true =>
          rw [if_pos rfl]
          dsimp only at w1
          refine ⟨fun σ' H' => ∃ s', Rel F σ' H' s' ∧ ExtS σ sd H σ' s' H' ∧ whileN tt f m s' = some o, fun σ' H' h => ⟨m, Nat.lt_succ_self m, h⟩, s1, r1.mono s2, ?_⟩
          cases q2 : f s1 with
          | nx s' => rw [q2] at w1; exact fun σ' H' r e => ⟨s', r, e2.trans e, w1⟩
          | ct s' => rw [q2] at w1; exact fun σ' H' r e => ⟨s', r, e2.trans e, w1⟩
          | bk s' => rw [q2] at w1; cases w1; exact fun σ' H' r e => p σ' H' r (e2.trans e)
          | rt d => rw [q2] at w1; cases w1; exact PostS.ext e2 p
          | rn n => rw [q2] at w1; cases w1; exact PostS.ext e2 p
          | ex c fs s' => rw [q2] at w1; cases w1; exact fun cls da σ' H' r e => p cls da σ' H' r (e2.trans e)
          | no => rw [q2] at w1; cases w1; exact p⟩

/-! ### what a loop walks -/
abbrev IF := SD → R (List D)
def Yld (A : Addr → Prop) (J : It) (H : Hp) (ds : List D) : Prop := ∀ i H' A', Up H A H' A' → (∀ b o, H b = some o → ¬ A b → H' b = some o) → (∀ a, A' a → H' a ≠ none) →
  (i < ds.length → J.go i H' ∧ ∀ x H'', J.yld i H' x H'' → Same H' H'' ∧ ∃ d, ds[i]? = some d ∧ Holds H'' A' d x) ∧ (ds.length ≤ i → J.stop i H')
def TIx (F : Fr) (mg : Str → Option Value) (W : WX) (f : IF) : TI := fun σ H Rr => ∃ sd, Rel F σ H sd ∧ match f sd with
  | .ok ds => ∀ J H', Same H H' → Yld (Av F σ sd) J H' ds → Rr J H'
  | .ex c fs => ∀ cls da H', Same H H' → ExRep mg H' (Av F σ sd) c fs cls da → W cls da σ H'
  | .no => False
structure DI (F : Fr) (X : Cx) (W : WX) (t e : Expr) (f : IF) : Prop where
  pi : PI X t e (TIx F X.mg W f)
theorem PI.weak {X : Cx} {t e : Expr} {w w' : TI} (h : PI X t e w) (k : ∀ σ H Rr, w' σ H Rr → w σ H Rr) : PI X t e w' := ⟨fun pins s σ H Rr I q => h.run pins s σ H Rr I (k _ _ _ q)⟩
theorem PI.or {X : Cx} {t e : Expr} {w w' : TI} (h : PI X t e w) (h' : PI X t e w') : PI X t e (fun σ H Rr => w σ H Rr ∨ w' σ H Rr) := ⟨fun pins s σ H Rr I q => q.elim (h.run pins s σ H Rr I) (h'.run pins s σ H Rr I)⟩
def charsD (z : Str) : List D := z.cps.toList.map fun c => D.str ⟨#[c]⟩
def seqD : D → R (List D)
  | .lst xs => .ok xs
  | .tup xs => .ok xs
  | .scr xs => .ok (xs.map D.int)
  | .str z => .ok (charsD z)
  | _ => .no
def iSeq (f : EF) : IF := fun s => (f s).bind seqD
theorem yld_lst {K : PySem.W.Frag} {A : Addr → Prop} {H : Hp} {ds : List D} {vs : List V} {a : Addr} (r : H a = some (.lst vs)) (na : ¬ A a) (l : HoldsL H A ds vs) : Yld A (Itl K a) H ds := fun i H' A' u k dm => by
  have r' := k a _ r na
  refine ⟨fun hi => ⟨⟨vs, vs[i]'(by rw [l.length]; exact hi), SqL.of r', List.getElem?_eq_getElem _⟩, fun x H'' y => ?_⟩, fun hi => ⟨vs, SqL.of r', by rw [l.length]; exact hi⟩⟩
  obtain ⟨rfl, y⟩ := y
  have e := y vs (SqL.of r')
  obtain ⟨d, e2, h⟩ := l.getV e
  exact ⟨Same.refl _, d, e2, Holds.up u d h⟩
theorem di_seq {t : Expr} (h : DE F X W e fa) : DI F X W t e (iSeq fa) := ⟨PI.weak (PI.or (pi_list h.pe) (PI.or (pi_tup h.pe) (pi_str h.pe))) fun σ H Rr ⟨sd, rel, p⟩ => by
  unfold iSeq at p
  cases q : fa sd with
  | no => rw [q] at p; exact p.elim
  | ex c fs => rw [q] at p; exact .inl ⟨sd, rel, by rw [q]; exact p⟩
  | ok d =>
    rw [q, R.bind_ok] at p
    cases d with
    | lst xs =>
      refine .inl ⟨sd, rel, ?_⟩
      rw [q]
      intro v H' s h
      obtain ⟨a, vs, rfl, na, r, l⟩ := h
      exact ⟨a, rfl, ⟨vs, SqL.of r⟩, p _ H' s (yld_lst r na l)⟩
    | scr xs =>
      refine .inl ⟨sd, rel, ?_⟩
      rw [q]
      intro v H' s h
      obtain ⟨a, rfl, na, r⟩ := h
      refine ⟨a, rfl, ⟨_, .inl r⟩, p _ H' s fun i H2 A' u k dm => ?_⟩
      have r' : SqL X.K H2 a (xs.map V.int) := .inl (u.rdl a _ r na).1
      have l := HoldsL.ints (H := H2) (A := A') xs
      refine ⟨fun hi => ⟨⟨_, (xs.map V.int)[i]'(by simpa using hi), r', List.getElem?_eq_getElem _⟩, fun x H'' y => ?_⟩, fun hi => ⟨_, r', by simpa using hi⟩⟩
      obtain ⟨rfl, y⟩ := y
      have e := y _ r'
      obtain ⟨d, e2, h⟩ := l.getV e
      exact ⟨Same.refl _, d, e2, h⟩
    | tup xs =>
      refine .inr (.inl ⟨sd, rel, ?_⟩)
      rw [q]
      intro v H' s h
      obtain ⟨a, vs, rfl, na, r, l⟩ := h
      refine ⟨a, rfl, ⟨vs, SqT.of r⟩, p _ H' s fun i H2 A' u k dm => ?_⟩
      have r' := k a _ r na
      refine ⟨fun hi => ⟨⟨vs, vs[i]'(by rw [l.length]; exact hi), SqT.of r', List.getElem?_eq_getElem _⟩, fun x H'' y => ?_⟩, fun hi => ⟨vs, SqT.of r', by rw [l.length]; exact hi⟩⟩
      obtain ⟨rfl, y⟩ := y
      have e := y vs (SqT.of r')
      obtain ⟨d, e2, h⟩ := l.getV e
      exact ⟨Same.refl _, d, e2, Holds.up u d h⟩
    | str z =>
      refine .inr (.inr ⟨sd, rel, ?_⟩)
      rw [q]
      intro v H' s h
      cases h
      refine ⟨z, rfl, p _ H' s fun i H2 A' u k dm => ?_⟩
      have hl : (charsD z).length = z.cps.size := by simp [charsD]
      refine ⟨fun hi => ⟨by rw [hl] at hi; exact hi, fun x H'' y => ?_⟩, fun hi => by rw [hl] at hi; exact hi⟩
      obtain ⟨rfl, c, e, rfl⟩ := y
      refine ⟨Same.refl _, D.str ⟨#[c]⟩, ?_, rfl⟩
      unfold charsD
      rw [List.getElem?_map, Array.getElem?_toList, e]
      rfl
    | _ => exact p.elim⟩
def rangeD (lo : Int) (n : Nat) : List D := (List.range n).map fun (i : Nat) => D.int (lo + i)
theorem yld_range {A : Addr → Prop} {H : Hp} {lo : Int} {n : Nat} : Yld A (Itr lo n) H (rangeD lo n) := fun i H' A' u k dm => by
  have hl : (rangeD lo n).length = n := by simp [rangeD]
  refine ⟨fun hi => ⟨by rw [hl] at hi; exact hi, fun x H'' y => ?_⟩, fun hi => by rw [hl] at hi; exact hi⟩
  obtain ⟨rfl, rfl⟩ := y
  refine ⟨Same.refl _, D.int (lo + i), ?_, rfl⟩
  unfold rangeD
  rw [hl] at hi
  rw [List.getElem?_map, List.getElem?_range hi]
  rfl
def opRange1 : List D → R (List D)
  | [.int j] => if j.natAbs < 2 ^ 61 then .ok (rangeD 0 j.toNat) else .no
  | _ => .no
def opRange2 : List D → R (List D)
  | [.int i, .int j] => if i.natAbs < 2 ^ 61 ∧ j.natAbs < 2 ^ 61 then .ok (rangeD i (j - i).toNat) else .no
  | _ => .no
def opRange3 : List D → R (List D)
  | [.int i, .int j, .int c] => if c ≠ 0 ∧ c.natAbs < 1073741824 ∧ Builtin.Range.small i j c = true ∧ 0 ≤ Builtin.Range.rangeSize i j c then .ok ((List.range (Builtin.Range.rangeSize i j c).toNat).map fun (k : Nat) => D.int (i + k * c)) else .no
  | _ => .no
def iAll (op : List D → R (List D)) (fs : List EF) : IF := fun s => (evalL fs s).bind op
variable {es : List Expr} {fs : List EF}
theorem tia {b : Bool} {op : List D → R (List D)} {mg : Str → Option Value} {σ : St} {H : Hp} {Rr : It → Hp → Prop} {r : List V → Hp → Prop} {sd : SD} (rel : Rel F σ H sd)
    (p : match iAll op fs sd with
      | .ok ds => ∀ J H', Same H H' → Yld (Av F σ sd) J H' ds → Rr J H'
      | .ex c fs => ∀ cls da H', Same H H' → ExRep mg H' (Av F σ sd) c fs cls da → W cls da σ H'
      | .no => False)
    (hex : ∀ ds c fs', op ds ≠ .ex c fs')
    (hr : ∀ (ds out : List D), op ds = .ok out → ∀ (vs : List V) (H2 : Hp), Rel F σ H2 sd → HoldsXL b H2 (Av F σ sd) ds vs → (∀ J H', Same H2 H' → Yld (Av F σ sd) J H' out → Rr J H') → r vs H2) : TAx b F mg W (evalL fs) σ H r := by
  refine ⟨sd, rel, ?_⟩
  unfold iAll at p
  cases q : evalL fs sd with
  | no => rw [q] at p; exact p
  | ex c fs => rw [q] at p; exact p
  | ok ds =>
    rw [q, R.bind_ok] at p
    intro vs H2 s h
    cases q2 : op ds with
    | ok out => rw [q2] at p; exact hr ds out q2 vs H2 (rel.mono s) h fun J H' s2 y => p J H' (s.trans s2) y
    | ex c fs' => exact absurd q2 (hex _ _ _)
    | no => rw [q2] at p; exact p.elim
theorem di_range1 {t : Expr} {p : Pos} (hg : Gl X "range") (hm : X.mg "range" = none) (ha : DA true F X W [a] fs) (hs : starEach [a] X.env = [(false, eval a X.env)] := by rfl) : DI F X W t (.Call (.Name "range" p) [a] [] pos) (iAll opRange1 fs) :=
  ⟨PI.weak (pi_range1 hg hm ha.pa hs) fun σ H Rr ⟨sd, rel, p⟩ => tia (b := true) rel p (fun ds c fs' => by unfold opRange1; split <;> (try split) <;> exact fun z => by cases z) fun ds out e vs H2 r2 hv k => by
    unfold opRange1 at e
    split at e
    · split at e
      · rename_i hb
        cases e
        obtain ⟨v, r, rfl, h, rfl⟩ := hv
        cases h
        exact ⟨_, rfl, by omega, by omega, k _ H2 (Same.refl _) yld_range⟩
      · cases e
    · cases e⟩
theorem di_range2 {t : Expr} {p : Pos} (hg : Gl X "range") (hm : X.mg "range" = none) (ha : DA true F X W [a, b] fs) (hs : starEach [a, b] X.env = [(false, eval a X.env), (false, eval b X.env)] := by rfl) (hs2 : starEach [b] X.env = [(false, eval b X.env)] := by rfl) : DI F X W t (.Call (.Name "range" p) [a, b] [] pos) (iAll opRange2 fs) :=
  ⟨PI.weak (pi_range2 hg hm ha.pa hs hs2) fun σ H Rr ⟨sd, rel, p⟩ => tia (b := true) rel p (fun ds c fs' => by unfold opRange2; split <;> (try split) <;> exact fun z => by cases z) fun ds out e vs H2 r2 hv k => by
    unfold opRange2 at e
    split at e
    · split at e
      · rename_i hb
        cases e
        obtain ⟨v, r, rfl, h, v2, r2, rfl, h2, rfl⟩ := hv
        cases h
        cases h2
        exact ⟨_, _, rfl, ⟨by omega, by omega, by omega, by omega⟩, k _ H2 (Same.refl _) yld_range⟩
      · cases e
    · cases e⟩
theorem di_range3 {t : Expr} {p : Pos} (hg : Gl X "range") (hm : X.mg "range" = none) (ha : DA true F X W [a, b, c] fs) (hs : starEach [a, b, c] X.env = (false, eval a X.env) :: starEach [b, c] X.env := by rfl) (hpl : (backTo pos (starEach [b, c] X.env)).any (·.1) = false := by rfl) : DI F X W t (.Call (.Name "range" p) [a, b, c] [] pos) (iAll opRange3 fs) :=
  ⟨PI.weak (pi_range3 hg hm ha.pa hs hpl) fun σ H Rr ⟨sd, rel, p⟩ => tia (b := true) rel p (fun ds c fs' => by unfold opRange3; split <;> (try split) <;> exact fun z => by cases z) fun ds out e vs H2 r2 hv k => by
    unfold opRange3 at e
    split at e
    · split at e
      · rename_i i j c hb
        cases e
        obtain ⟨v, r, rfl, h, v2, r2, rfl, h2, v3, r3, rfl, h3, rfl⟩ := hv
        cases h
        cases h2
        cases h3
        refine ⟨_, _, _, (Builtin.Range.rangeSize i j c).toNat, rfl, ⟨hb.1, hb.2.1, hb.2.2.1, (Int.toNat_of_nonneg hb.2.2.2).symm⟩, k _ H2 (Same.refl _) fun i' H' A' u kk dm => ?_⟩
        rw [List.length_map, List.length_range]
        refine ⟨fun hi => ⟨hi, fun x H'' y => ?_⟩, fun hi => hi⟩
        obtain ⟨rfl, rfl⟩ := y
        refine ⟨Same.refl _, D.int (i + i' * c), ?_, rfl⟩
        rw [List.getElem?_map, List.getElem?_range hi]
        rfl
      · cases e
    · cases e⟩
end DS
set_option Elab.async false
set_option linter.all false
set_option maxRecDepth 100000
set_option maxHeartbeats 2000000
namespace DS
open PySem L2
variable {F : Fr} {X : Cx} {W : WX} {a b c e : Expr} {fa fb fc : EF} {pos : Pos} {st : Stmt} {sts : List Stmt} {f g : SF} {tt : TF} {es : List Expr} {fs : List EF}

/-! ### for -/
def forL (g : GF) (b : SF) : List D → SF
  | [], s => .nx s
  | d :: ds, s => match g d s with
    | none => .no
    | some s1 => match b s1 with
      | .nx s2 => forL g b ds s2
      | .ct s2 => forL g b ds s2
      | .bk s2 => .nx s2
      | o => o
def sFor (i : IF) (g : GF) (b : SF) : SF := fun s => match i s with
  | .ok ds => forL g b ds s
  | .ex c fs => .ex c fs s
  | .no => .no
theorem ds_for {t : Expr} {body : List Stmt} {fi : IF} {gg : GF} {tl : List Nat} (hp : PassesOwn (model X.prog X.w) X.A X.env X.xe) (hc : X.calm = true) (hi : DI F X W t e fi) (hg : DG F X t gg tl) (hb : DXs F X W body f) (hs : ∀ x, foldedSetIterable e X.env x = pure x := by intro _; rfl) : DX1 F X W (.For t e body [] pos) (sFor fi gg f) :=
  ⟨PS.weak (ps_for hp hc hi.pi hg.pg hb.ps hs) fun T σ H ⟨sd, rel, p⟩ => ⟨sd, rel, by
    unfold sFor at p
    cases q : fi sd with
    | no => rw [q] at p; exact p
    | ex c fs => rw [q] at p; exact fun cls da H' s h => post_ex (bb := false) (Q := fun _ _ => True) rel p cls da H' s h
    | ok ds =>
      rw [q] at p
      intro J H1 s1 y
      have e0 : ExtS σ sd H σ sd H1 := ExtS.same s1 fun _ z => z
      have p := PostS.ext e0 p
      have rel := rel.mono s1
      generalize H1 = H1 at *
      refine ⟨fun i m σ' H' => m = ds.length - i ∧ i ≤ ds.length ∧ ∃ s', Rel F σ' H' s' ∧ ExtS σ sd H1 σ' s' H' ∧ PostS X.mg W F σ sd T (forL gg f (ds.drop i) s') H1, ⟨ds.length, rfl, Nat.zero_le _, sd, rel, .refl, p⟩, ?_⟩
      rintro i m σ2 H2 ⟨rfl, hi, s2, r2, e2, p2⟩
      have yy := y i H2 (Av F σ2 s2) e2.up (fun b o h n => e2.keep b o h fun z => n (.inr z)) (fun a z => r2.dom z)
      by_cases hlt : i < ds.length
      · refine .inr ⟨(yy.1 hlt).1, fun σ' H' => ∃ s', Rel F σ' H' s' ∧ ExtS σ sd H1 σ' s' H' ∧ PostS X.mg W F σ sd T (forL gg f (ds.drop (i + 1)) s') H1, fun σ' H' h => ⟨ds.length - (i + 1), by omega, rfl, hlt, h⟩, fun x H3 yx => ?_⟩
        obtain ⟨s3, d, ed, hd⟩ := (yy.1 hlt).2 x H3 yx
        have edrop : ds.drop i = d :: ds.drop (i + 1) := by
          rw [List.drop_eq_getElem_cons hlt]
          congr 1
          rw [List.getElem?_eq_getElem hlt] at ed
          exact Option.some.inj ed
        rw [edrop] at p2
        unfold forL at p2
        have r3 := r2.mono s3
        have e3 : ExtS σ sd H1 σ2 s2 H3 := e2.trans (ExtS.same s3 fun _ z => z)
        refine ⟨s2, d, r3, hd, ?_⟩
        cases q2 : gg d s2 with
        | none => rw [q2] at p2; exact p2
        | some s4 =>
          rw [q2] at p2
          intro σ4 r4 own4 _
          have e4 : ExtS σ sd H1 σ4 s4 H3 := e3.trans (ExtS.same (Same.refl _) own4)
          refine ⟨s4, r4, ?_⟩
          dsimp only at p2
          cases q3 : f s4 with
          | nx s5 => rw [q3] at p2; exact fun σ' H' r e => ⟨s5, r, e4.trans e, p2⟩
          | ct s5 => rw [q3] at p2; exact fun σ' H' r e => ⟨s5, r, e4.trans e, p2⟩
          | bk s5 => rw [q3] at p2; exact fun σ' H' r e => p2 σ' H' r (e4.trans e)
          | rt d => rw [q3] at p2; exact p2
          | rn n => rw [q3] at p2; exact p2
          | ex c fs s' => rw [q3] at p2; exact fun cls da σ' H' r e => p2 cls da σ' H' r (e4.trans e)
          | no => rw [q3] at p2; exact p2
      · have ei : i = ds.length := by omega
        subst ei
        refine .inl ⟨yy.2 (Nat.le_refl _), ?_⟩
        rw [List.drop_length] at p2
        exact p2 σ2 H2 r2 e2⟩⟩

/-! ### enumerate, zip -/
def enumL : Nat → List D → List D
  | _, [] => []
  | i, d :: ds => .tup [.int (i : Nat), d] :: enumL (i + 1) ds
theorem enumL_length : ∀ (i : Nat) (ds : List D), (enumL i ds).length = ds.length
  | _, [] => rfl
  | i, d :: ds => by simp [enumL, enumL_length]
theorem enumL_get : ∀ (i : Nat) (ds : List D) (k : Nat) {d : D}, ds[k]? = some d → (enumL i ds)[k]? = some (.tup [.int ((i + k : Nat) : Int), d])
  | _, [], k, _, e => by simp at e
  | i, d :: ds, 0, _, e => by simp at e; subst e; simp [enumL]
  | i, d :: ds, k + 1, _, e => by
    have := enumL_get (i + 1) ds k (by simpa using e)
    simp only [enumL, List.getElem?_cons_succ]
    rw [this]
    have : i + 1 + k = i + (k + 1) := by omega
    rw [this]
def opEnum : List D → R (List D)
  | [.lst xs] => .ok (enumL 0 xs)
  | _ => .no
theorem di_enum {elts : List Expr} {kk : Nat} {tpos p : Pos} (hg : Gl X "enumerate") (hm : X.mg "enumerate" = none) (ha : DA false F X W [a] fs) (hs : starEach [a] X.env = [(false, eval a X.env)] := by rfl) : DI F X W (.Tuple elts kk tpos) (.Call (.Name "enumerate" p) [a] [] pos) (iAll opEnum fs) :=
  ⟨PI.weak (pi_enum hg hm ha.pa hs) fun σ H Rr ⟨sd, rel, p⟩ => tia (b := false) rel p (fun ds c fs' => by unfold opEnum; split <;> exact fun z => by cases z) fun ds out e vs H2 r2 hv k => by
    unfold opEnum at e
    split at e
    · cases e
      obtain ⟨v, r, rfl, h, rfl⟩ := hv
      obtain ⟨a, vs, rfl, na, r, l⟩ := h
      refine ⟨a, vs, rfl, SqL.of r, k _ H2 (Same.refl _) fun i H' A' u kk dm => ?_⟩
      have r' := kk a _ r na
      rw [enumL_length]
      refine ⟨fun hi => ⟨⟨vs, vs[i]'(by rw [l.length]; exact hi), SqL.of r', List.getElem?_eq_getElem _⟩, fun x H'' y => ?_⟩, fun hi => ⟨vs, SqL.of r', by rw [l.length]; exact hi⟩⟩
      obtain ⟨T, x', rfl, hT, rfl, y⟩ := y
      obtain ⟨d, e2, h⟩ := l.getV (y vs (SqL.of r'))
      refine ⟨same_upd hT, _, enumL_get 0 _ i e2, T, _, rfl, fun z => dm T z hT, upd_same, .int i, [x'], rfl, ?_, x', [], rfl, ?_, rfl⟩
      · show V.int i = V.int ((0 + i : Nat) : Int)
        rw [Nat.zero_add]
      · exact (Holds.up u d h).same (same_upd hT)
    · cases e⟩
def zipL : List D → List D → List D
  | x :: xs, y :: ys => .tup [x, y] :: zipL xs ys
  | _, _ => []
theorem zipL_length : ∀ (xs ys : List D), (zipL xs ys).length = min xs.length ys.length
  | [], _ => by simp [zipL]
  | _ :: _, [] => by simp [zipL]
  | x :: xs, y :: ys => by simp only [zipL, List.length_cons, zipL_length xs ys]; omega
theorem zipL_get : ∀ (xs ys : List D) (k : Nat) {x y : D}, xs[k]? = some x → ys[k]? = some y → (zipL xs ys)[k]? = some (.tup [x, y])
  | [], _, k, _, _, e, _ => by simp at e
  | _ :: _, [], k, _, _, _, e => by simp at e
  | x :: xs, y :: ys, 0, _, _, e, e2 => by simp at e e2; subst e; subst e2; simp [zipL]
  | x :: xs, y :: ys, k + 1, _, _, e, e2 => by
    simp only [zipL, List.getElem?_cons_succ]
    exact zipL_get xs ys k (by simpa using e) (by simpa using e2)
def opZip : List D → R (List D)
  | [.lst xs, .lst ys] => .ok (zipL xs ys)
  | _ => .no
theorem di_zip {elts : List Expr} {kk : Nat} {tpos p : Pos} (hg : Gl X "zip") (hm : X.mg "zip" = none) (ha : DA false F X W [a, b] fs) (hs : starEach [a, b] X.env = (false, eval a X.env) :: starEach [b] X.env := by rfl) (hpl : (backTo pos (starEach [b] X.env)).any (·.1) = false := by rfl) : DI F X W (.Tuple elts kk tpos) (.Call (.Name "zip" p) [a, b] [] pos) (iAll opZip fs) :=
  ⟨PI.weak (pi_zip hg hm ha.pa hs hpl) fun σ H Rr ⟨sd, rel, p⟩ => tia (b := false) rel p (fun ds c fs' => by unfold opZip; split <;> exact fun z => by cases z) fun ds out e vs H2 r2 hv k => by
    unfold opZip at e
    split at e
    · cases e
      obtain ⟨v, r, rfl, h, v2, r2', rfl, h2, rfl⟩ := hv
      obtain ⟨a, vs, rfl, na, r, l⟩ := h
      obtain ⟨a2, ws, rfl, na2, r2, l2⟩ := h2
      refine ⟨a, a2, vs, ws, rfl, SqL.of r, SqL.of r2, k _ H2 (Same.refl _) fun i H' A' u kk dm => ?_⟩
      have r' := kk a _ r na
      have r2' := kk a2 _ r2 na2
      have hl1 := l.length
      have hl2 := l2.length
      rw [zipL_length]
      refine ⟨fun hi => ⟨⟨vs, ws, vs[i]'(by omega), ws[i]'(by omega), SqL.of r', SqL.of r2', List.getElem?_eq_getElem _, List.getElem?_eq_getElem _⟩, fun x H'' y => ?_⟩, fun hi => ⟨vs, ws, SqL.of r', SqL.of r2', by omega⟩⟩
      obtain ⟨T, x', y', rfl, hT, rfl, y1, y2⟩ := y
      obtain ⟨d, e2, h⟩ := l.getV (y1 vs (SqL.of r'))
      obtain ⟨d2, e3, h2⟩ := l2.getV (y2 ws (SqL.of r2'))
      exact ⟨same_upd hT, _, zipL_get _ _ i e2 e3, T, _, rfl, fun z => dm T z hT, upd_same, x', [y'], rfl, (Holds.up u d h).same (same_upd hT), y', [], rfl, (Holds.up u d2 h2).same (same_upd hT), rfl⟩
    · cases e⟩

/-! ### one's own lists and dicts are changed -/
theorem up_write {σ : St} {H : Hp} {sd : SD} {p : Addr} {o : HO} (h : Av F σ sd p) : Up H (Av F σ sd) (upd H p o) (Av F σ sd) := Up.ofOff (fun b q e n => by rw [upd_ne (fun z => n (by rw [z]; exact h))]; exact e) fun b z => .inl z
/-- a change of one's own object in slot i -/
theorem own_slot {σ : St} {H : Hp} {sd : SD} {i : Nat} {ds : List D} (rel : Rel F σ H sd) (q : sd[i]? = some (.ol ds)) : ∃ a vs, σ[i]? = some (some (.ref a)) ∧ F.H0 a = none ∧ H a = some (.lst vs) ∧ HoldsL H (Av F σ sd) ds vs ∧ Av F σ sd a := by
  obtain ⟨v, e, a, vs, rfl, n, r, l⟩ := rel.slot i _ q
  exact ⟨a, vs, e, n, r, l, .inr ⟨i, _, q, rfl, e⟩⟩
theorem own_slotK {σ : St} {H : Hp} {sd : SD} {i : Nat} {ds : List (L2.Key × D)} (rel : Rel F σ H sd) (q : sd[i]? = some (.od ds)) : ∃ a vs, σ[i]? = some (some (.ref a)) ∧ F.H0 a = none ∧ H a = some (.dK vs) ∧ HoldsK H (Av F σ sd) ds vs ∧ Av F σ sd a := by
  obtain ⟨v, e, a, vs, rfl, n, r, l⟩ := rel.slot i _ q
  exact ⟨a, vs, e, n, r, l, .inr ⟨i, _, q, rfl, e⟩⟩
theorem wr_lst {σ : St} {H : Hp} {sd : SD} {i : Nat} {ds ds' : List D} {a : Addr} {vs' : List V} (rel : Rel F σ H sd) (q : sd[i]? = some (.ol ds)) (e : σ[i]? = some (some (.ref a))) (n : F.H0 a = none) (l : HoldsL H (Av F σ sd) ds' vs') :
    Rel F σ (upd H a (.lst vs')) (sd.set i (.ol ds')) ∧ ExtS σ sd H σ (sd.set i (.ol ds')) (upd H a (.lst vs')) :=
  rel.write q rfl rfl e ⟨a, vs', rfl, n, upd_same, HoldsL.up (up_write (.inr ⟨i, _, q, rfl, e⟩)) _ l⟩
theorem wr_dk {σ : St} {H : Hp} {sd : SD} {i : Nat} {ds ds' : List (L2.Key × D)} {a : Addr} {vs' : List (L2.Key × V)} (rel : Rel F σ H sd) (q : sd[i]? = some (.od ds)) (e : σ[i]? = some (some (.ref a))) (n : F.H0 a = none) (l : HoldsK H (Av F σ sd) ds' vs') :
    Rel F σ (upd H a (.dK vs')) (sd.set i (.od ds')) ∧ ExtS σ sd H σ (sd.set i (.od ds')) (upd H a (.dK vs')) :=
  rel.write q rfl rfl e ⟨a, vs', rfl, n, upd_same, HoldsK.up (up_write (.inr ⟨i, _, q, rfl, e⟩)) _ l⟩
/-- x.append(e), x one's own list in slot i -/
def sApp (i : Nat) (f : EF) : SF := fun s => match s[i]? with
  | some (.ol ds) => sE f (fun d s => if ds.length < sizeLine then .nx (s.set i (.ol (ds ++ [d]))) else .no) s
  | _ => .no
theorem ds_append (i : Nat) {x : Str} {px apos cpos : Pos} (h : DE F X W e fa) (hN : X.N[i]? = some x := by rfl) (hv : Vis X.env.scope x := by first | exact Or.inl rfl | exact Or.inr (Or.inl rfl) | exact Or.inr (Or.inr rfl)) (hd : (x == ("__debug__" : Str)) = false := by decide)
    (hcd : (x == ("__classdict__" : Str)) = false := by decide) (hbase : attributeBase (.Name x px) "append" X.env (eval (.Name x px) X.env) = eval (.Name x px) X.env := by rfl)
    (hfew : ((backTo cpos (starEach [e] X.env)).all (fun x => !x.1) && (backToKw cpos (keywordEach [] X.env)).all (fun x => x.1.isSome)
      && decide (([e] : List Expr).length + ([] : List Keyword).length + (if ([] : List Keyword).isEmpty then 0 else 1) < 30)) = true := by rfl)
    (hline : (apos.endLine == cpos.line) = true := by rfl) (hs : starEach [e] X.env = (false, eval e X.env) :: starEach [] X.env := by rfl) (hplain : (backTo cpos (starEach [] X.env)).any (·.1) = false := by rfl) (hsw : swapsWith (.Call (.Attribute (.Name x px) "append" apos) [e] [] cpos) none pos.line X.env = pure false := by rfl) :
    DX1 F X W (.Expr (.Call (.Attribute (.Name x px) "append" apos) [e] [] cpos) pos) (sApp i fa) :=
  ⟨PS.weak (ps_expr (pe_bm PySem.F.plainAttrs_list PySem.F.slot_list_append PySem.F.type_list_append mt_append (pe_var hN hv hd hcd) (pa_cons h.pe pa_nil hs) hbase hfew hline hs hplain) hsw) fun T σ H ⟨sd, rel, p⟩ => by
    unfold sApp at p
    split at p
    · rename_i ds q
      obtain ⟨a, vs, e, n, r, l, av⟩ := own_slot rel q
      refine ⟨_, e, .inl ⟨rfl, vs, SqL.of r⟩, tsE (bb := false) rel p fun d v H2 _ s2 rel2 hv p2 => ?_⟩
      split at p2
      · rename_i hl
        obtain ⟨r2, e2⟩ := wr_lst rel2 q e n ((l.same s2).snoc hv)
        exact ⟨a, vs, v, rfl, rfl, s2 _ _ r, by rw [l.length]; exact hl, p2 _ _ r2 e2⟩
      · exact p2.elim
    · exact p.elim⟩
/-- x.extend(e) -/
def sExtend (i : Nat) (f : EF) : SF := fun s => match s[i]? with
  | some (.ol ds) => sE f (fun d s => match d with
    | .lst es => if ds.length + es.length ≤ sizeLine then .nx (s.set i (.ol (ds ++ es))) else .no
    | _ => .no) s
  | _ => .no
theorem ds_extend (i : Nat) {x : Str} {px apos cpos : Pos} (h : DE F X W e fa) (hN : X.N[i]? = some x := by rfl) (hv : Vis X.env.scope x := by first | exact Or.inl rfl | exact Or.inr (Or.inl rfl) | exact Or.inr (Or.inr rfl)) (hd : (x == ("__debug__" : Str)) = false := by decide)
    (hcd : (x == ("__classdict__" : Str)) = false := by decide) (hbase : attributeBase (.Name x px) "extend" X.env (eval (.Name x px) X.env) = eval (.Name x px) X.env := by rfl)
    (hfew : ((backTo cpos (starEach [e] X.env)).all (fun x => !x.1) && (backToKw cpos (keywordEach [] X.env)).all (fun x => x.1.isSome)
      && decide (([e] : List Expr).length + ([] : List Keyword).length + (if ([] : List Keyword).isEmpty then 0 else 1) < 30)) = true := by rfl)
    (hline : (apos.endLine == cpos.line) = true := by rfl) (hs : starEach [e] X.env = (false, eval e X.env) :: starEach [] X.env := by rfl) (hplain : (backTo cpos (starEach [] X.env)).any (·.1) = false := by rfl) (hsw : swapsWith (.Call (.Attribute (.Name x px) "extend" apos) [e] [] cpos) none pos.line X.env = pure false := by rfl) :
    DX1 F X W (.Expr (.Call (.Attribute (.Name x px) "extend" apos) [e] [] cpos) pos) (sExtend i fa) :=
  ⟨PS.weak (ps_expr (pe_bm PySem.F.plainAttrs_list PySem.F.slot_list_extend PySem.F.type_list_extend mt_extend (pe_var hN hv hd hcd) (pa_cons h.pe pa_nil hs) hbase hfew hline hs hplain) hsw) fun T σ H ⟨sd, rel, p⟩ => by
    unfold sExtend at p
    split at p
    · rename_i ds q
      obtain ⟨a, vs, e, n, r, l, av⟩ := own_slot rel q
      refine ⟨_, e, .inl ⟨rfl, vs, SqL.of r⟩, tsE (bb := false) rel p fun d v H2 _ s2 rel2 hv p2 => ?_⟩
      split at p2
      · obtain ⟨b, ws, rfl, nb, rb, lb⟩ := hv
        split at p2
        · rename_i hl
          obtain ⟨r2, e2⟩ := wr_lst rel2 q e n ((l.same s2).append lb)
          exact ⟨a, b, vs, ws, rfl, rfl, s2 _ _ r, rb, by rw [l.length, lb.length]; exact hl, p2 _ _ r2 e2⟩
        · exact p2.elim
      · exact p2.elim
    · exact p.elim⟩
/-- x.pop(), the item not looked at -/
def sPop (i : Nat) : SF := fun s => match s[i]? with
  | some (.ol ds) => if ds = [] then .no else .nx (s.set i (.ol ds.dropLast))
  | _ => .no
theorem ds_pop (i : Nat) {x : Str} {px apos cpos : Pos} (hN : X.N[i]? = some x := by rfl) (hv : Vis X.env.scope x := by first | exact Or.inl rfl | exact Or.inr (Or.inl rfl) | exact Or.inr (Or.inr rfl)) (hd : (x == ("__debug__" : Str)) = false := by decide)
    (hcd : (x == ("__classdict__" : Str)) = false := by decide) (hbase : attributeBase (.Name x px) "pop" X.env (eval (.Name x px) X.env) = eval (.Name x px) X.env := by rfl)
    (hline : (apos.endLine == cpos.line) = true := by rfl) (hsw : swapsWith (.Call (.Attribute (.Name x px) "pop" apos) [] [] cpos) none pos.line X.env = pure false := by rfl) :
    DX1 F X W (.Expr (.Call (.Attribute (.Name x px) "pop" apos) [] [] cpos) pos) (sPop i) :=
  ⟨PS.weak (ps_expr (pe_bm0 PySem.F.plainAttrs_list PySem.F.slot_list_pop PySem.F.type_list_pop mt_pop (pe_var hN hv hd hcd) hbase hline) hsw) fun T σ H ⟨sd, rel, p⟩ => by
    unfold sPop at p
    split at p
    · rename_i ds q
      split at p
      · exact p.elim
      · rename_i hne
        obtain ⟨a, vs, e, n, r, l, av⟩ := own_slot rel q
        have hl := l.length
        have h0 : 0 < vs.length := by
          rw [hl]
          cases ds with
          | nil => exact absurd rfl hne
          | cons _ _ => simp
        obtain ⟨r2, e2⟩ := wr_lst rel q e n l.dropLast
        exact ⟨_, e, .inl ⟨rfl, vs, SqL.of r⟩, a, vs, vs[vs.length - 1], rfl, rfl, r, List.getElem?_eq_getElem _, p _ _ r2 e2⟩
    · exact p.elim⟩
/-- x.clear() -/
def sClear (i : Nat) : SF := fun s => match s[i]? with
  | some (.ol ds) => .nx (s.set i (.ol []))
  | _ => .no
theorem ds_clear (i : Nat) {x : Str} {px apos cpos : Pos} (hN : X.N[i]? = some x := by rfl) (hv : Vis X.env.scope x := by first | exact Or.inl rfl | exact Or.inr (Or.inl rfl) | exact Or.inr (Or.inr rfl)) (hd : (x == ("__debug__" : Str)) = false := by decide)
    (hcd : (x == ("__classdict__" : Str)) = false := by decide) (hbase : attributeBase (.Name x px) "clear" X.env (eval (.Name x px) X.env) = eval (.Name x px) X.env := by rfl)
    (hline : (apos.endLine == cpos.line) = true := by rfl) (hsw : swapsWith (.Call (.Attribute (.Name x px) "clear" apos) [] [] cpos) none pos.line X.env = pure false := by rfl) :
    DX1 F X W (.Expr (.Call (.Attribute (.Name x px) "clear" apos) [] [] cpos) pos) (sClear i) :=
  ⟨PS.weak (ps_expr (pe_bm0 PySem.F.plainAttrs_list PySem.F.slot_list_clear PySem.F.type_list_clear mt_clear (pe_var hN hv hd hcd) hbase hline) hsw) fun T σ H ⟨sd, rel, p⟩ => by
    unfold sClear at p
    split at p
    · rename_i ds q
      obtain ⟨a, vs, e, n, r, l, av⟩ := own_slot rel q
      obtain ⟨r2, e2⟩ := wr_lst (ds' := []) (vs' := []) rel q e n rfl
      exact ⟨_, e, .inl ⟨rfl, vs, SqL.of r⟩, a, vs, rfl, rfl, r, p _ _ r2 e2⟩
    · exact p.elim⟩
/-- x[k] = e, x one's own list or dict -/
def sPutI (i : Nat) (fv fk : EF) : SF := fun s => match s[i]? with
  | some (.ol ds) => sE fv (fun d s => sE fk (fun k s => match k with
    | .int j => match ixN ds.length j with
      | some n => .nx (s.set i (.ol (ds.set n d)))
      | none => .no
    | _ => .no) s) s
  | some (.od kvs) => sE fv (fun d s => sE fk (fun k s => match keyD k with
    | some key => if kvs.length < sizeLine then .nx (s.set i (.od (putD kvs key d))) else .no
    | none => .no) s) s
  | _ => .no
theorem PS.or {X : Cx} {st : Stmt} {t t' : TS} (h : PS X st t) (h' : PS X st t') : PS X st (fun D σ H => t D σ H ∨ t' D σ H) := ⟨fun pins s σ H D I q => q.elim (h.run pins s σ H D I) (h'.run pins s σ H D I)⟩
theorem ds_putI (i : Nat) {x : Str} {px pos' : Pos} (hu : X.A.units + 64 < cLine) (hv : DE F X W e fa) (hk : DB F X W b fb) (hN : X.N[i]? = some x := by rfl) (hvs : Vis X.env.scope x := by first | exact Or.inl rfl | exact Or.inr (Or.inl rfl) | exact Or.inr (Or.inr rfl)) (hd : (x == ("__debug__" : Str)) = false := by decide)
    (hcd : (x == ("__classdict__" : Str)) = false := by decide) (hs : swapsWith e (some (.Subscript (.Name x px) b pos')) pos.line X.env = pure false := by rfl)
    (hs1 : swapsWithSole [.Subscript (.Name x px) b pos'] e pos.line X.env = pure false := by rfl) (hw : swappedStores [.Subscript (.Name x px) b pos'] e X.env = pure none := by rfl) (h1 : (assignEach [.Subscript (.Name x px) b pos'] X.env).map (·.2) = [assign (.Subscript (.Name x px) b pos') X.env] := by rfl)
    (ha : ∀ v, assign (.Subscript (.Name x px) b pos') X.env v = (do
      let ov ← holding [v] (eval (.Name x px) X.env)
      let iv ← holding [v, ov] (eval b X.env)
      standAt pos'
      holding [v, ov, iv] (setItem ov iv v)
      release [v, ov, iv] []) := by intro _; rfl) :
    DX1 F X W (.Assign [.Subscript (.Name x px) b pos'] e pos) (sPutI i fa fb) :=
  ⟨PS.weak (PS.or (ps_asg hv.pe (pg_sub (pe_var hN hvs hd hcd) hk.pe set_list ha) hs1 hw h1) (ps_dput (by omega) (pe_var hN hvs hd hcd) hk.pe hv.pe hs)) fun T σ H ⟨sd, rel, p⟩ => by
    unfold sPutI at p
    split at p
    · rename_i ds q
      refine .inl (tsE (bb := false) rel p fun d v H2 _ s2 rel2 hv p2 => ?_)
      obtain ⟨a, vs, e, n, r, l, av⟩ := own_slot rel2 q
      refine ⟨_, e, tsE (bb := true) rel2 p2 fun k w H3 _ s3 rel3 hw p3 => ?_⟩
      split at p3
      · cases hw
        split at p3
        · rename_i m hm
          have l3 := (l.same s3).set m (hv.same s3)
          obtain ⟨r2, e2⟩ := wr_lst rel3 q e n l3
          exact ⟨a, vs, _, m, rfl, rfl, s3 _ _ r, by rw [l.length]; exact hm, p3 _ _ r2 e2⟩
        · exact p3.elim
      · exact p3.elim
    · rename_i kvs q
      refine .inr (tsE (bb := false) rel p fun d v H2 _ s2 rel2 hv p2 => ?_)
      obtain ⟨a, vs, e, n, r, l, av⟩ := own_slotK rel2 q
      refine ⟨_, e, tsE (bb := true) rel2 p2 fun k w H3 _ s3 rel3 hw p3 => ?_⟩
      split at p3
      · rename_i key hk
        split at p3
        · rename_i hl
          have := keyD_v hw hk
          subst this
          have l3 := (l.same s3).put key (hv.same s3)
          obtain ⟨r2, e2⟩ := wr_dk rel3 q e n l3
          exact ⟨a, _, rfl, DPut.k (s3 _ _ r) (by rw [l.length]; exact hl), p3 _ _ r2 e2⟩
        · exact p3.elim
      · exact p3.elim
    · exact p.elim⟩
end DS
set_option Elab.async false
set_option linter.all false
set_option maxRecDepth 100000
set_option maxHeartbeats 2000000
namespace DS
open PySem L2
variable {F : Fr} {X : Cx} {W : WX} {a b c e : Expr} {fa fb fc : EF} {pos : Pos} {st : Stmt} {sts : List Stmt} {f g : SF} {tt : TF} {es : List Expr} {fs : List EF}

/-! ### a comprehension's block -/
def wipeS (sd : SD) : List Nat → SD
  | [] => sd
  | v :: vs => (wipeS sd vs).set v .un
def bwS : Sl → Sl
  | .ol ds => .bw (.lst ds)
  | .od kvs => .bw (.dk kvs)
  | .oi C fs => .bw (.ins C fs)
  | .xc => .un
  | s => s
def blkS (sd : SD) : SD := sd.map bwS
theorem bwS_own (s : Sl) : (bwS s).own = false := by cases s <;> rfl
theorem Rel.wipe {σ : St} {H : Hp} {sd : SD} (rel : Rel F σ H sd) : ∀ vs : List Nat, Rel F (L2.wipe σ vs) H (wipeS sd vs)
  | [] => rel
  | v :: vs => (Rel.wipe rel vs).unset v none
theorem Rel.block {σ : St} {H H' : Hp} {sd : SD} {D : Addr} (rel : Rel F σ H sd) (hD : H D = none) (s : Same H H') (hD' : H' D ≠ none) : Rel ⟨H, fun a => Av F σ sd a ∨ a = D, 0⟩ σ H' (blkS sd) := by
  have noown : ∀ i a, ¬ OwnAt σ (blkS sd) i a := fun i a ⟨t, e, o, _⟩ => by
    unfold blkS at e
    rw [List.getElem?_map, Option.map_eq_some_iff] at e
    obtain ⟨t', _, rfl⟩ := e
    rw [bwS_own] at o
    cases o
  have av : ∀ a, Av ⟨H, fun a => Av F σ sd a ∨ a = D, 0⟩ σ (blkS sd) a → Av F σ sd a ∨ a = D := fun a z => z.elim id fun ⟨i, z⟩ => absurd z (noown i a)
  have u : Up H (Av F σ sd) H' (Av ⟨H, fun a => Av F σ sd a ∨ a = D, 0⟩ σ (blkS sd)) := Up.ofOff (fun b o h _ => s _ _ h) fun b z => (av b z).imp_right fun z => by rw [z]; exact hD
  have k : ∀ a, H a ≠ none → ¬ Av F σ sd a → ¬ Av ⟨H, fun a => Av F σ sd a ∨ a = D, 0⟩ σ (blkS sd) a := u.off
  refine ⟨s, by simp [blkS, rel.len], fun i t e => ?_, fun i j a h1 _ => absurd h1 (noown i a), fun a ⟨i, z⟩ => absurd z (noown i a), fun a z => z.elim (fun z => Same.dom s a (rel.dom z)) fun z => by rw [z]; exact hD'⟩
  unfold blkS at e
  rw [List.getElem?_map, Option.map_eq_some_iff] at e
  obtain ⟨t', e, rfl⟩ := e
  obtain ⟨v, ev, h⟩ := rel.slot i t' e
  refine ⟨v, ev, ?_⟩
  cases t' with
  | un => trivial
  | xc => trivial
  | sh d => obtain ⟨x, e, h⟩ := h; exact ⟨x, e, Holds.up u d h⟩
  | bw d => obtain ⟨x, e, h⟩ := h; exact ⟨x, e, HoldsB.less k (HoldsB.same rel.same h)⟩
  | ol ds => obtain ⟨a, vs, e, n, r, l⟩ := h; exact ⟨_, e, HoldsB.less (A := Av F σ sd) (d := .lst ds) k ⟨a, vs, rfl, r, l⟩⟩
  | od ds => obtain ⟨a, vs, e, n, r, l⟩ := h; exact ⟨_, e, HoldsB.less (A := Av F σ sd) (d := .dk ds) k ⟨a, vs, rfl, .inl r, l⟩⟩
  | oi C ds => obtain ⟨a, dx, vs, e, n, r, l⟩ := h; exact ⟨_, e, HoldsB.less (A := Av F σ sd) (d := .ins C ds) k ⟨a, dx, vs, rfl, r, l⟩⟩
theorem wipe_get (σ : St) : ∀ (vs : List Nat) (j : Nat), (L2.wipe σ vs)[j]? = if j ∈ vs ∧ j < σ.length then some none else σ[j]?
  | [], j => by simp [L2.wipe]
  | v :: vs, j => by
    have ih := wipe_get σ vs j
    unfold L2.wipe
    by_cases hj : v = j
    · subst hj
      by_cases hl : v < σ.length
      · rw [List.getElem?_set_self (by rw [L2.wipe_length]; exact hl), if_pos ⟨by simp, hl⟩]
      · rw [List.getElem?_eq_none (by simp [L2.wipe_length]; omega), if_neg (fun z => hl z.2)]
        rw [List.getElem?_eq_none (by omega)]
    · rw [List.getElem?_set_ne hj, ih]
      by_cases hm : j ∈ vs ∧ j < σ.length
      · rw [if_pos hm, if_pos ⟨List.mem_cons_of_mem _ hm.1, hm.2⟩]
      · rw [if_neg hm, if_neg fun z => hm ⟨(List.mem_cons.mp z.1).elim (fun z => absurd z.symm hj) id, z.2⟩]
theorem wipe_off {σ σ' : St} {vs ts : List Nat} (h : Off ts σ σ') (hs : ∀ i ∈ ts, i ∈ vs) : L2.wipe σ' vs = L2.wipe σ vs := by
  refine List.ext_getElem? fun j => ?_
  rw [wipe_get, wipe_get, h.1]
  by_cases hj : j ∈ vs
  · by_cases hl : j < σ.length
    · rw [if_pos ⟨hj, hl⟩, if_pos ⟨hj, hl⟩]
    · have e1 := h.1
      rw [if_neg (fun z => hl z.2), if_neg (fun z => hl z.2), List.getElem?_eq_none (by omega), List.getElem?_eq_none (by omega)]
  · rw [if_neg (fun z => hj z.1), if_neg (fun z => hj z.1)]
    exact h.2 j fun z => hj (hs j z)
theorem wipe_wipe_off {σ σ' : St} {vs ts : List Nat} (h : Off ts (L2.wipe σ vs) σ') (hs : ∀ i ∈ ts, i ∈ vs) : L2.wipe σ' vs = L2.wipe σ vs := by
  rw [wipe_off h hs]
  refine List.ext_getElem? fun j => ?_
  rw [wipe_get, L2.wipe_length]
  by_cases hj : j ∈ vs ∧ j < σ.length
  · rw [if_pos hj, wipe_get, if_pos hj]
  · rw [if_neg hj]

theorem wipeS_own (sd : SD) : ∀ (vs : List Nat) (b : Nat) (s' : Sl), (wipeS (blkS sd) vs)[b]? = some s' → s'.own = false
  | [], b, s', e => by
    unfold wipeS blkS at e
    rw [List.getElem?_map, Option.map_eq_some_iff] at e
    obtain ⟨t, _, rfl⟩ := e
    exact bwS_own t
  | v :: vs, b, s', e => by
    unfold wipeS at e
    by_cases hv : v = b
    · subst hv
      rw [List.getElem?_set] at e
      simp only [if_true] at e
      split at e
      · cases e; rfl
      · cases e
    · rw [List.getElem?_set_ne hv] at e
      exact wipeS_own sd vs b s' e
/-! ### any frame -/
theorem PE.exF {X : Cx} {e : Expr} {t : Fr → TE} (h : ∀ F, PE X e (t F)) : PE X e (fun σ H Q => ∃ F, t F σ H Q) := ⟨fun pins s σ H Q I ⟨F, q⟩ => (h F).run pins s σ H Q I q⟩
theorem PG.exF {X : Cx} {e : Expr} {t : Fr → TG} (h : ∀ F, PG X e (t F)) : PG X e (fun v σ H Q => ∃ F, t F v σ H Q) := ⟨fun pins s σ H v u Q I r ⟨F, q⟩ => (h F).run pins s σ H v u Q I r q⟩
theorem PTs.exF {X : Cx} {e : List Expr} {t : Fr → TT} (h : ∀ F, PTs X e (t F)) : PTs X e (fun σ H Q => ∃ F, t F σ H Q) := ⟨fun pins s σ H Q I ⟨F, q⟩ => (h F).run pins s σ H Q I q⟩
theorem PI.exF {X : Cx} {g e : Expr} {t : Fr → TI} (h : ∀ F, PI X g e (t F)) : PI X g e (fun σ H Q => ∃ F, t F σ H Q) := ⟨fun pins s σ H Q I ⟨F, q⟩ => (h F).run pins s σ H Q I q⟩
structure DTs (F : Fr) (X : Cx) (W : WX) (ifs : List Expr) (f : TF) : Prop where
  pt : PTs X ifs (TTx F X.mg W f)
def tYesF : TF := fun _ => .ok true
theorem dts_nil : DTs F X W [] tYesF := ⟨⟨fun pins s σ H Q I ⟨sd, rel, p⟩ => pts_nil.run pins s σ H Q I (p H (Same.refl H))⟩⟩
theorem dts_one (h : DT F X W c tt) : DTs F X W [c] tt := ⟨pts_one h.pt⟩
abbrev W0 : WX := fun _ _ _ _ => False
def noX {α : Type} : R α → R α
  | .ok a => .ok a
  | _ => .no
/-- the items that a clause's turns give -/
def lcL (g : GF) (t : TF) (el : EF) (s0 : SD) : List D → R (List D)
  | [] => .ok []
  | d :: ds => match g d s0 with
    | none => .no
    | some s1 => (noX (t s1)).bind fun b => if b = true then (noX (el s1)).bind fun y => (lcL g t el s0 ds).bind fun r => .ok (y :: r) else lcL g t el s0 ds
def nLc (it : IF) (g : GF) (t : TF) (el : EF) (vs : List Nat) : NF := fun s => (it s).bind fun ds => (lcL g t el (wipeS (blkS s) vs) ds).bind fun r => if r.length ≤ sizeLine then .ok (.nl r) else .no
theorem lcL_ex {g : GF} {t : TF} {el : EF} {s0 : SD} : ∀ {ds : List D} {c fs}, lcL g t el s0 ds ≠ .ex c fs
  | [], _, _ => fun z => by cases z
  | d :: ds, c, fs => fun z => by
    unfold lcL at z
    cases q : g d s0 with
    | none => rw [q] at z; cases z
    | some s1 =>
      rw [q] at z
      dsimp only at z
      cases q2 : t s1 with
      | no => rw [q2] at z; cases z
      | ex _ _ => rw [q2] at z; cases z
      | ok b =>
        rw [q2] at z
        simp only [noX, R.bind_ok] at z
        cases b with
        | false => rw [if_neg Bool.false_ne_true] at z; exact lcL_ex z
        | true =>
          rw [if_pos rfl] at z
          cases q3 : el s1 with
          | no => rw [q3] at z; cases z
          | ex _ _ => rw [q3] at z; cases z
          | ok y =>
            rw [q3] at z
            simp only [noX, R.bind_ok] at z
            cases q4 : lcL g t el s0 ds with
            | no => rw [q4] at z; cases z
            | ex _ _ => exact lcL_ex q4
            | ok r => rw [q4] at z; cases z
/-- the reading of a one-clause comprehension, by plain data -/
theorem lc_read {fi : IF} {gg : GF} {tl vs : List Nat} {fe : EF} {mg : Str → Option Value} (hsub : ∀ i ∈ tl, i ∈ vs) {σ : L2.St} {H : Hp} {Q : VK} (h : TNx F mg W (nLc fi gg tt fe vs) σ H Q) :
    tLc (TIx F mg W fi) (fun v σ H Q => ∃ F, TGx F gg tl v σ H Q) (fun σ H Q => ∃ F, TTx F mg W0 tt σ H Q) (fun σ H Q => ∃ F, TEx false F mg W0 fe σ H Q) vs σ H Q := by
  obtain ⟨sd, rel, p⟩ := h
  refine ⟨sd, rel, ?_⟩
  unfold nLc at p
  cases q : fi sd with
  | no => rw [q] at p; exact p
  | ex c fs => rw [q] at p; exact p
  | ok ds =>
    rw [q, R.bind_ok] at p
    intro J H1 s1 y D hD
    have rel1 := rel.mono s1
    cases q2 : lcL gg tt fe (wipeS (blkS sd) vs) ds with
    | no => rw [q2] at p; exact p.elim
    | ex c fs => exact absurd q2 lcL_ex
    | ok out =>
      rw [q2, R.bind_ok] at p
      by_cases hz : out.length ≤ sizeLine
      · rw [if_pos hz] at p
        refine ⟨fun i m H' => m = ds.length - i ∧ i ≤ ds.length ∧ ∃ accD accV rest, H' D = some (.lst accV) ∧ HoldsL H' (fun a => Av F σ sd a ∨ a = D) accD accV ∧ Same H1 H' ∧ lcL gg tt fe (wipeS (blkS sd) vs) (ds.drop i) = .ok rest ∧ out = accD ++ rest,
          ⟨ds.length, rfl, Nat.zero_le _, [], [], out, upd_same, rfl, same_upd hD, q2, rfl⟩, ?_⟩
        rintro i m H2 ⟨rfl, hi, accD, accV, rest, eD, hA, s2, er, eo⟩
        have rb := (rel1.block hD s2 (by rw [eD]; simp)).wipe vs
        generalize hF : (⟨H1, fun a => Av F σ sd a ∨ a = D, 0⟩ : Fr) = F' at rb
        generalize hs0 : wipeS (blkS sd) vs = s0 at rb er ⊢
        have avB : ∀ {σ' : St} {sd' : SD} (a : Addr), (Av F σ sd a ∨ a = D) → Av F' σ' sd' a := fun a z => .inl (by rw [← hF]; exact z)
        have noAv : ∀ a, Av F' (L2.wipe σ vs) s0 a → Av F σ sd a ∨ a = D := fun a z => by
          rcases z with z | z
          · rw [← hF] at z; exact z
          · obtain ⟨j, s', e, o, _⟩ := z
            rw [← hs0] at e
            rw [wipeS_own sd vs j s' e] at o
            cases o
        have u2 : Up H1 (Av F σ sd) H2 (Av F' (L2.wipe σ vs) s0) := Up.ofOff (fun b o h _ => s2 _ _ h) fun b z => (noAv b z).imp_right fun z => by rw [z]; exact hD
        have yy := y i H2 (Av F' (L2.wipe σ vs) s0) u2 (fun b o h _ => s2 _ _ h) (fun a z => rb.dom z)
        by_cases hlt : i < ds.length
        · refine .inr ⟨(yy.1 hlt).1, fun H' => ∃ accD accV rest, H' D = some (.lst accV) ∧ HoldsL H' (fun a => Av F σ sd a ∨ a = D) accD accV ∧ Same H1 H' ∧ lcL gg tt fe s0 (ds.drop (i + 1)) = .ok rest ∧ out = accD ++ rest, fun H' h => ⟨ds.length - (i + 1), by omega, rfl, hlt, h⟩, fun x H3 yx => ?_⟩
          obtain ⟨s3, d, ed, hd⟩ := (yy.1 hlt).2 x H3 yx
          have edrop : ds.drop i = d :: ds.drop (i + 1) := by
            rw [List.drop_eq_getElem_cons hlt]
            congr 1
            rw [List.getElem?_eq_getElem hlt] at ed
            exact Option.some.inj ed
          rw [edrop] at er
          unfold lcL at er
          have r3 := rb.mono s3
          refine ⟨F', s0, d, r3, hd, ?_⟩
          cases q3 : gg d s0 with
          | none => rw [q3] at er; cases er
          | some s4 =>
            rw [q3] at er
            dsimp only at er
            intro σ4 r4 own4 off4
            refine ⟨wipe_wipe_off off4 hsub, F', s4, r4, ?_⟩
            cases q4 : tt s4 with
            | no => rw [q4] at er; cases er
            | ex c fs => rw [q4] at er; cases er
            | ok bb =>
              rw [q4] at er
              simp only [noX, R.bind_ok] at er
              intro H5 s5
              have r5 := r4.mono s5
              have s25 : Same H2 H5 := s3.trans s5
              cases bb with
              | false =>
                rw [if_neg Bool.false_ne_true] at er ⊢
                exact ⟨accD, accV, rest, s25 _ _ eD, hA.same s25, s2.trans s25, er, eo⟩
              | true =>
                rw [if_pos rfl] at er ⊢
                refine ⟨F', s4, r5, ?_⟩
                cases q5 : fe s4 with
                | no => rw [q5] at er; cases er
                | ex c fs => rw [q5] at er; cases er
                | ok yv =>
                  rw [q5] at er
                  simp only [noX, R.bind_ok] at er
                  intro v H6 s6 hv
                  have s26 : Same H2 H6 := s25.trans s6
                  cases q6 : lcL gg tt fe s0 (ds.drop (i + 1)) with
                  | no => rw [q6] at er; cases er
                  | ex c fs => exact absurd q6 lcL_ex
                  | ok r =>
                    rw [q6] at er
                    cases er
                    have hv' : Holds H6 (fun a => Av F σ sd a ∨ a = D) yv v := Holds.less hv fun a z => avB a z
                    have hl := hA.length
                    have hlen : accD.length < out.length := by rw [eo]; simp
                    refine ⟨accV, s26 _ _ eD, by omega, accD ++ [yv], accV ++ [v], r, upd_same, ?_, fun b o h => ?_, rfl, by rw [eo]; simp⟩
                    · have uD : Up H6 (fun a => Av F σ sd a ∨ a = D) (upd H6 D (.lst (accV ++ [v]))) (fun a => Av F σ sd a ∨ a = D) := Up.ofOff (fun b q e n => by rw [upd_ne (fun z => n (.inr z))]; exact e) fun b z => .inl z
                      exact HoldsL.up uD _ ((hA.same s26).snoc hv')
                    · rw [upd_ne (ne_of_none h hD)]
                      exact (s2.trans s26) _ _ h
        · have ei : i = ds.length := by omega
          subst ei
          rw [List.drop_length] at er
          unfold lcL at er
          cases er
          rw [List.append_nil] at eo
          subst eo
          refine .inl ⟨yy.2 (Nat.le_refl _), p D H2 (s1.trans s2) (s1.free hD) (by rw [eD]; simp) fun F2 h0 => ⟨D, accV, rfl, h0, eD, hA⟩⟩
      · rw [if_neg hz] at p; exact p.elim
theorem dn_lc {elt tg iter : Expr} {ifs : List Expr} {scope : Scope} (own : List (Str × Nat)) {fi : IF} {gg : GF} {tl : List Nat} {fe : EF} (hc : X.calm = true) (hN : X.N.Nodup) (hi : DI F X W tg iter fi) (ok : BlkOk X.N X.env.scope scope own)
    (hg : ∀ (F : Fr) (s : Shared) (H : Hp) (C : Addr) (cl : List (Str × Addr)) (fp : List Addr), DG F (X.blk s H scope (compEnvC scope cl C X.env) fp) tg gg tl)
    (ht : ∀ (F : Fr) (s : Shared) (H : Hp) (C : Addr) (cl : List (Str × Addr)) (fp : List Addr), DTs F (X.blk s H scope (compEnvC scope cl C X.env) fp) W0 ifs tt)
    (he : ∀ (F : Fr) (s : Shared) (H : Hp) (C : Addr) (cl : List (Str × Addr)) (fp : List Addr), DE F (X.blk s H scope (compEnvC scope cl C X.env) fp) W0 elt fe)
    (hsub : ∀ i ∈ tl, i ∈ own.map (·.2)) (hs : ∀ x, foldedSetIterable iter X.env x = pure x := by intro _; rfl) :
    DN F X W (.ListComp elt [⟨tg, iter, ifs, 0⟩] scope pos) (nLc fi gg tt fe (own.map (·.2))) :=
  ⟨PE.weak (pe_lc hc hN hi.pi ok (fun s H C cl fp => PG.exF (t := fun F => TGx F gg tl) fun F => (hg F s H C cl fp).pg) (fun s H C cl fp => PTs.exF (t := fun F => TTx F X.mg W0 tt) fun F => (ht F s H C cl fp).pt) (fun s H C cl fp => PE.exF (t := fun F => TEx false F X.mg W0 fe) fun F => (he F s H C cl fp).pe) hs) fun σ H Q h => lc_read hsub h⟩
/-- y = [e for .. in ..] on one line -/
theorem ds_setLc (i : Nat) {y : Str} {py spos : Pos} {elt tg iter : Expr} {ifs : List Expr} {scope : Scope} (own : List (Str × Nat)) {fi : IF} {gg : GF} {tl : List Nat} {fe : EF} (hc : X.calm = true) (hN : X.N.Nodup) (hy : X.N[i]? = some y) (hyl : X.env.scope.names.lookup y = some .local)
    (hsw : swapsWith (.ListComp elt [⟨tg, iter, ifs, 0⟩] scope pos) (some (.Name y py)) spos.line X.env = pure true) (hi : DI F X W tg iter fi) (ok : BlkOk X.N X.env.scope scope own)
    (hg : ∀ (F : Fr) (s : Shared) (H : Hp) (C : Addr) (cl : List (Str × Addr)) (fp : List Addr), DG F (X.blk s H scope (compEnvC scope cl C X.env) fp) tg gg tl)
    (ht : ∀ (F : Fr) (s : Shared) (H : Hp) (C : Addr) (cl : List (Str × Addr)) (fp : List Addr), DTs F (X.blk s H scope (compEnvC scope cl C X.env) fp) W0 ifs tt)
    (he : ∀ (F : Fr) (s : Shared) (H : Hp) (C : Addr) (cl : List (Str × Addr)) (fp : List Addr), DE F (X.blk s H scope (compEnvC scope cl C X.env) fp) W0 elt fe)
    (hsub : ∀ i ∈ tl, i ∈ own.map (·.2)) (hs : ∀ x, foldedSetIterable iter X.env x = pure x := by intro _; rfl) :
    DX1 F X W (.Assign [.Name y py] (.ListComp elt [⟨tg, iter, ifs, 0⟩] scope pos) spos) (sSetN i (nLc fi gg tt fe (own.map (·.2)))) :=
  ⟨PS.weak (ps_setLc hc hN hy hyl hsw hi.pi ok (fun s H C cl fp => PG.exF (t := fun F => TGx F gg tl) fun F => (hg F s H C cl fp).pg) (fun s H C cl fp => PTs.exF (t := fun F => TTx F X.mg W0 tt) fun F => (ht F s H C cl fp).pt) (fun s H C cl fp => PE.exF (t := fun F => TEx false F X.mg W0 fe) fun F => (he F s H C cl fp).pe) hs)
    fun T σ H ⟨sd, rel, p⟩ => lc_read hsub (tsN i rel p fun _ _ h => h)⟩
end DS
set_option Elab.async false
set_option linter.all false
set_option maxRecDepth 100000
set_option maxHeartbeats 2000000
namespace DS
open PySem L2 PyProof.Rows
variable {F : Fr} {X : Cx} {W : WX} {a b c e o : Expr} {fa fb fc : EF} {pos : Pos} {st : Stmt} {sts : List Stmt} {f g : SF} {tt : TF} {es : List Expr} {fs : List EF}

/-! ### y = [..] on one line -/
theorem tn_of_te {mg : Str → Option Value} {σ : L2.St} {H : Hp} {Q : VK} {fn : NF} (h : TEx false F mg W (eN fn) σ H Q) : TNx F mg W fn σ H Q := by
  obtain ⟨sd, rel, p⟩ := h
  refine ⟨sd, rel, ?_⟩
  unfold eN at p
  cases q : fn sd with
  | no => rw [q] at p; exact p
  | ex c fs => rw [q] at p; exact p
  | ok n =>
    rw [q, R.bind_ok] at p
    intro pa H' s hn hp h
    refine p _ H' s ?_
    have nav : ¬ Av F σ sd pa := fun z => rel.dom z hn
    have h := h ⟨fun _ => none, fun _ => False, 0⟩ rfl
    cases n with
    | nl ds => obtain ⟨a, vs, e, _, r, l⟩ := h; cases e; exact ⟨pa, vs, rfl, nav, r, l.less fun _ z => .inl z⟩
    | nd ds => obtain ⟨a, vs, e, _, r, l⟩ := h; cases e; exact ⟨pa, vs, rfl, nav, .inl r, HoldsK.up (up_own fun _ z => .inl z) _ l⟩

/-! ### the promise of a def by a function on plain data -/
def PostD (mg : Str → Option Value) (B : Addr → Prop) (r : R D) (H : Hp) (Q : VK) (E : XK) : Prop := match r with
  | .ok d => ∀ v H', Same H H' → Holds H' B d v → Q v H'
  | .ex c fs => ∀ cls da H', Same H H' → ExRep mg H' B c fs cls da → E cls da H'
  | .no => False
def spD (mg : Str → Option Value) (n : Nat) (g : List D → R D) : Sp := fun vs H Q E => vs.length = n ∧ ∃ ds B, HoldsL H B ds vs ∧ (∀ a, B a → H a ≠ none) ∧ PostD mg B (g ds) H Q E
def retOf : SO → R D
  | .rt d => .ok d
  | .rn n => .ok n.d
  | .nx _ => .ok .non
  | .ex c fs _ => .ex c fs
  | _ => .no
/-- a body run: the parameters, then so many further slots -/
def runD (k : Nat) (f : SF) (ds : List D) : R D := retOf (f (ds.map .sh ++ List.replicate k .un))
section
variable {P : Program} {w : World} {K : PySem.W.Frag} {mg : Str → Option Value} {base : Heap}
theorem start_rel {H : Hp} {B : Addr → Prop} {N : List Str} {ds : List D} {vs : List V} {k : Nat} (h : HoldsL H B ds vs) (hB : ∀ a, B a → H a ≠ none) (hk : N.length - vs.length = k) : Rel ⟨H, B, 0⟩ (L2.start N vs) H (ds.map .sh ++ List.replicate k .un) := by
  subst hk
  have hl := h.length
  have hown : ∀ (i : Nat) (s : Sl), (ds.map Sl.sh ++ List.replicate (N.length - vs.length) Sl.un)[i]? = some s → s.own = false := fun i s e => by
    rcases List.mem_append.mp (List.mem_of_getElem? e) with m | m
    · obtain ⟨d, _, rfl⟩ := List.mem_map.mp m; rfl
    · rw [(List.mem_replicate.mp m).2]; rfl
  have noown : ∀ i a, ¬ OwnAt (L2.start N vs) (ds.map Sl.sh ++ List.replicate (N.length - vs.length) Sl.un) i a := fun i a ⟨t, e, o, _⟩ => by
    rw [hown i t e] at o; cases o
  refine ⟨Same.refl _, by simp [L2.start, hl], fun i s e => ?_, fun i j a h1 _ => absurd h1 (noown i a), fun a ⟨i, z⟩ => absurd z (noown i a), hB⟩
  have hi : i < (L2.start N vs).length := by
    have := (List.getElem?_eq_some_iff.mp e).1
    simpa [L2.start, hl] using this
  by_cases hd : i < ds.length
  · rw [List.getElem?_append_left (by simpa using hd), List.getElem?_map, List.getElem?_eq_getElem hd] at e
    cases e
    obtain ⟨v, ev, hv⟩ := h.get (List.getElem?_eq_getElem hd)
    refine ⟨some v, ?_, v, rfl, Holds.less hv fun a z => z.elim id fun ⟨i, z⟩ => absurd z (noown i a)⟩
    unfold L2.start
    rw [List.getElem?_append_left (by simp; omega), List.getElem?_map, ev]
    rfl
  · rw [List.getElem?_append_right (by simpa using hd)] at e
    have hs : s = .un := by
      have := List.mem_of_getElem? e
      exact (List.mem_replicate.mp this).2
    subst hs
    exact ⟨_, List.getElem?_eq_getElem hi, trivial⟩
/-- what a def's facts are, for its callers -/
structure GFn (P : Program) (w : World) (K : PySem.W.Frag) (mg : Str → Option Value) (base : Heap) (k : Nat) (x : Str) (n : Nat) (g : List D → R D) : Prop where
  ex : ∃ f fd ps, FnOk P w K mg base (L2.CX P w) k f fd ps (spD mg n g) ∧ mg x = some (.ref f) ∧ PySem.W.keepIn K (.ref f) = true ∧ Binds K fd ps []
theorem body_end {X : Cx} {k : Nat} {f : SF} {ds : List D} {vs : List V} {N : List Str} {H : Hp} {B : Addr → Prop} {Q : VK} {E : XK} (h : HoldsL H B ds vs) (hB : ∀ a, B a → H a ≠ none) (hk : N.length - vs.length = k)
    (p : PostD mg B (runD k f ds) H Q E) : TSx ⟨H, B, 0⟩ mg (fun cls d _ H' => E cls d H') f { nx := fun _ H' => Q .non H', rt := Q } (L2.start N vs) H := by
  refine ⟨_, start_rel h hB hk, ?_⟩
  unfold runD retOf at p
  cases q : f (ds.map .sh ++ List.replicate k .un) with
  | nx s' => rw [q] at p; exact fun σ' H' r _ => p _ H' r.same rfl
  | rt d => rw [q] at p; exact p
  | rn n =>
    rw [q] at p
    intro pa H' s _ nb h
    have h := h ⟨fun _ => none, fun _ => False, 0⟩ rfl
    refine p _ H' s ?_
    cases n with
    | nl ds => obtain ⟨a, vs, e, _, r, l⟩ := h; cases e; exact ⟨pa, vs, rfl, nb, r, l.less fun _ z => .inl z⟩
    | nd ds => obtain ⟨a, vs, e, _, r, l⟩ := h; cases e; exact ⟨pa, vs, rfl, nb, .inl r, HoldsK.up (up_own fun _ z => .inl z) _ l⟩
  | bk s' => rw [q] at p; exact p.elim
  | ct s' => rw [q] at p; exact p.elim
  | ex c fs s' => rw [q] at p; exact fun cls da σ' H' r _ x => p cls da H' r.same x
  | no => rw [q] at p; exact p
/-- a def's body keeps its promise -/
theorem fn_ok {x qual : Str} {st : Stmt} {f : Addr} {fd : FuncData} {N ps : List Str} {k kk n : Nat} {body : SF} (Fn : Fun K x qual st f fd) (S : FnScope N ps (defScope st)) (hn : ps.length = n) (hk : N.length - n = kk)
    (hb : ∀ (F : Fr) (W : WX) (cdv : Value) (A : Around) (outer : List Env) (s : Shared) (H : Hp) (E : XK), Room k (A.deeper (envOfC qual (defScope st) s.heap.objs.size f cdv)) →
      Takes (cxOf (L2.CX P w) P w K mg base N qual (defScope st) f cdv A outer s H E) W → PassesOwn (model P w) (A.deeper (envOfC qual (defScope st) s.heap.objs.size f cdv)) (envOfC qual (defScope st) s.heap.objs.size f cdv) (cxOf (L2.CX P w) P w K mg base N qual (defScope st) f cdv A outer s H E).xe →
      DXs F (cxOf (L2.CX P w) P w K mg base N qual (defScope st) f cdv A outer s H E) W (defBody st) body) :
    FnOk P w K mg base (L2.CX P w) (k + 1) f fd ps (spD mg n (runD kk body)) := by
  subst hn
  refine Fn.okX S (fun vs H Q E h => h.1) fun cdv A outer s H vs Q E hr h => ?_
  obtain ⟨hl, ds, B, hh, hB, p⟩ := h
  refine ⟨_, (hb ⟨H, B, 0⟩ (fun cls d _ H' => E cls d H') cdv A outer s H E hr (takes_of rfl rfl rfl rfl) (passes_of rfl)).ps, ?_⟩
  exact body_end (X := cxOf (L2.CX P w) P w K mg base N qual (defScope st) f cdv A outer s H E) hh hB (by rw [hl]; exact hk) p
theorem gfn_mk {x qual : Str} {st : Stmt} {f : Addr} {fd : FuncData} {ps : List Str} {k n : Nat} {g : List D → R D} (Fn : Fun K x qual st f fd) (h : FnOk P w K mg base (L2.CX P w) k f fd ps (spD mg n g)) (hm : mg x = some (.ref f)) (hb : Binds K fd ps []) : GFn P w K mg base k x n g :=
  ⟨f, fd, ps, h, hm, Fn.kp, hb⟩
end

/-! ### calls -/
theorem PostD.of {mg : Str → Option Value} {σ : L2.St} {sd : SD} {r : R D} {H : Hp} {Q : VK} (p : Post false mg W σ (Av F σ sd) r H Q) : PostD mg (Av F σ sd) r H Q (WE W σ) := by
  cases r with
  | ok d => exact p
  | ex c fs => exact p
  | no => exact p
theorem de_call {x : Str} {k k' n : Nat} {gf : List D → R D} {p : Pos} (G : GFn X.prog X.w X.K X.mg X.base k x n gf) (hr : Room k' X.A) (hg : Gl X x) (tk : Takes X W) (ha : DA false F X W (e :: es) fs) (hn : (e :: es).length = n := by rfl) (hfs : fs.length = n := by rfl) (hkk : k ≤ k' := by decide)
    (hdb : (x == ("__debug__" : Str)) = false := by decide) (he : starEach (e :: es) X.env = (false, eval e X.env) :: starEach es X.env := by rfl) (hpl : (backTo pos (starEach es X.env)).any (·.1) = false := by rfl) :
    DE F X W (.Call (.Name x p) (e :: es) [] pos) (eAll gf fs) := by
  obtain ⟨f, fd, ps, G, hm, hk, hb⟩ := G
  refine ⟨PE.weak (pe_callS G (hr.mono hkk) hg hm hk hb (fun σ => passAt tk σ) ha.pa hdb he hpl) fun σ H Q ⟨sd, rel, p⟩ => tas (b := false) rel p fun ds q vs H2 _ r2 hv p2 => ?_⟩
  refine ⟨?_, ds, Av F σ sd, hv.l, fun a z => r2.dom z, PostD.of p2⟩
  rw [hv.l.length]
  have : ∀ (fs : List EF) (ds : List D), evalL fs sd = .ok ds → ds.length = fs.length := fun fs => by
    induction fs with
    | nil => intro ds e; cases e; rfl
    | cons f fs ih =>
      intro ds e
      simp only [evalL] at e
      cases h1 : f sd <;> rw [h1] at e <;> try (cases e)
      rw [R.bind_ok] at e
      cases h2 : evalL fs sd <;> rw [h2] at e <;> cases e
      simp [ih _ h2]
  rw [this fs ds q]
  exact hfs

/-! ### attributes -/
def lookF (fs : List (Str × D)) (f : Str) : Option D := fs.lookup f
def opFld (Cs : List Addr) (f : Str) : D → R D
  | .ins C fs => if C ∈ Cs then (match fs.lookup f with
    | some d => .ok d
    | none => .no) else .no
  | _ => .no
theorem HoldsF.look {H : Hp} {A : Addr → Prop} {f : Str} : ∀ {ds : List (Str × D)} {vs : List (Str × V)} {d : D}, HoldsF H A ds vs → ds.lookup f = some d → ∃ v, vs.lookup f = some v ∧ Holds H A d v
  | [], _, _, _, e => by cases e
  | (k, x) :: ds, _, d, h, e => by
    obtain ⟨v, r, rfl, h1, h2⟩ := h
    rw [List.lookup_cons] at e ⊢
    cases q : f == k with
    | true => rw [q] at e; cases e; exact ⟨v, rfl, h1⟩
    | false => rw [q] at e; exact HoldsF.look h2 e
theorem HoldsF.keys {H : Hp} {A : Addr → Prop} : ∀ {ds : List (Str × D)} {vs : List (Str × V)}, HoldsF H A ds vs → vs.map (·.1) = ds.map (·.1)
  | [], _, h => by cases h; rfl
  | (k, d) :: ds, _, h => by obtain ⟨v, r, rfl, _, h2⟩ := h; simp [HoldsF.keys h2]
theorem HoldsF.nolook {H : Hp} {A : Addr → Prop} {f : Str} : ∀ {ds : List (Str × D)} {vs : List (Str × V)}, HoldsF H A ds vs → ds.lookup f = none → vs.lookup f = none
  | [], _, h, e => by cases h; rfl
  | (k, x) :: ds, _, h, e => by
    obtain ⟨v, r, rfl, h1, h2⟩ := h
    rw [List.lookup_cons] at e ⊢
    cases q : f == k with
    | true => rw [q] at e; cases e
    | false => rw [q] at e; exact HoldsF.nolook h2 e
theorem de_fld {Cs : List Addr} {x : Str} (hC : ∀ C ∈ Cs, Cls X.K C ∧ NoAttr X.K C x) (ha : DB F X W e fa) (hb : attributeBase e x X.env (eval e X.env) = eval e X.env := by rfl) : DE F X W (.Attribute e x pos) (eUn (opFld Cs x) fa) :=
  ⟨PE.weak (pe_fld ha.pe hb) fun σ H Q ⟨sd, rel, p⟩ => te1s rel p fun d q v H2 r2 hv p2 => by
    unfold opFld at p2
    split at p2
    · split at p2
      · rename_i hc
        split at p2
        · rename_i d2 hd2
          obtain ⟨a, dx, ws, rfl, r, l⟩ := hv
          obtain ⟨v, e2, h2⟩ := l.look hd2
          exact ⟨a, _, dx, ws, v, rfl, r, (hC _ hc).1, (hC _ hc).2, e2, ok_p p2 h2⟩
        · exact p2.elim
      · exact p2.elim
    · exact p2.elim⟩
def putFD (f : Str) (v : D) : List (Str × D) → List (Str × D)
  | [] => [(f, v)]
  | (g, x) :: r => if g = f then (g, v) :: r else (g, x) :: putFD f v r
theorem HoldsF.put {H : Hp} {A : Addr → Prop} (f : Str) {d : D} {v : V} (hv : Holds H A d v) : ∀ {ds : List (Str × D)} {vs : List (Str × V)}, HoldsF H A ds vs → HoldsF H A (putFD f d ds) (putF f v vs)
  | [], _, h => by cases h; exact ⟨v, [], rfl, hv, rfl⟩
  | (k, x) :: ds, _, h => by
    obtain ⟨w, r, rfl, h1, h2⟩ := h
    unfold putFD putF
    by_cases e : k = f
    · rw [if_pos e, if_pos e]; exact ⟨v, r, rfl, hv, h2⟩
    · rw [if_neg e, if_neg e]; exact ⟨w, _, rfl, h1, HoldsF.put f hv h2⟩
theorem HoldsF.length {H : Hp} {A : Addr → Prop} {ds : List (Str × D)} {vs : List (Str × V)} (h : HoldsF H A ds vs) : vs.length = ds.length := by
  have := congrArg List.length h.keys
  simpa using this
/-- self.f = e, self one's own in slot i -/
def sFldD (C0 : Addr) (i : Nat) (x : Str) (f : EF) : SF := sE f fun d s => match s[i]? with
  | some (.oi C fs) => if C = C0 ∧ fs.length < 1000 then .nx (s.set i (.oi C (putFD x d fs))) else .no
  | _ => .no
theorem ds_fld {C0 : Addr} (i : Nat) {x y : Str} {px pos' : Pos} (hC : Cls X.K C0 ∧ NoAttr X.K C0 y) (h : DE F X W e fa) (hN : X.N[i]? = some x := by rfl) (hv : Vis X.env.scope x := by first | exact Or.inl rfl | exact Or.inr (Or.inl rfl) | exact Or.inr (Or.inr rfl)) (hd : (x == ("__debug__" : Str)) = false := by decide)
    (hcd : (x == ("__classdict__" : Str)) = false := by decide) (hs : swapsWith e (some (.Attribute (.Name x px) y pos')) pos.line X.env = pure false := by rfl) : DX1 F X W (.Assign [.Attribute (.Name x px) y pos'] e pos) (sFldD C0 i y fa) :=
  ⟨PS.weak (ps_fld (pe_var hN hv hd hcd) h.pe hs) fun T σ H ⟨sd, rel, p⟩ => tsE (bb := false) rel p fun d v H2 _ s2 rel2 hv p2 => by
    split at p2
    · rename_i C fs q
      split at p2
      · rename_i hc
        obtain ⟨w, e, a, dx, ws, rfl, n, r, l⟩ := rel2.slot i _ q
        have av : Av F σ sd a := .inr ⟨i, _, q, rfl, e⟩
        have hc1 := hc.1
        subst hc1
        obtain ⟨r3, e3⟩ := rel2.write (s' := .oi C (putFD y d fs)) (o := .ins C dx (putF y v ws)) q rfl rfl e ⟨a, dx, _, rfl, n, upd_same, HoldsF.up (up_write av) _ (l.put y hv)⟩
        exact ⟨_, e, a, C, dx, ws, rfl, r, hC.1, hC.2, by rw [l.length]; exact hc.2, p2 _ _ r3 e3⟩
      · exact p2.elim
    · exact p2.elim⟩

/-! ### __init__, and the call of a class -/
def PostI (mg : Str → Option Value) (x C : Addr) (B : Addr → Prop) (r : R (List (Str × D))) (H : Hp) (Q : VK) (E : XK) : Prop := match r with
  | .ok fs => ∀ H' dx ws, (∀ b o, H b = some o → b ≠ x → H' b = some o) → H' x = some (.ins C dx ws) → HoldsF H' (fun a => B a ∨ a = x) fs ws → Q .non H'
  | .ex c fs => ∀ cls da H', (∀ b o, H b = some o → b ≠ x → H' b = some o) → ExRep mg H' B c fs cls da → E cls da H'
  | .no => False
def spI (mg : Str → Option Value) (C : Addr) (n : Nat) (g : List D → R (List (Str × D))) : Sp := fun vs H Q E => vs.length = n ∧ ∃ x dx rest ds B, vs = .ref x :: rest ∧ H x = some (.ins C dx []) ∧ HoldsL H (fun a => B a ∨ a = x) ds rest ∧ (∀ a, B a → H a ≠ none) ∧ ¬ B x ∧ PostI mg x C B (g ds) H Q E
def retI (C : Addr) : SO → R (List (Str × D))
  | .nx s => (match (s[0]? : Option Sl) with
    | some (Sl.oi C' fs) => if C' = C then .ok fs else .no
    | _ => .no)
  | .ex c fs _ => .ex c fs
  | _ => .no
def runI (C : Addr) (k : Nat) (f : SF) (ds : List D) : R (List (Str × D)) := retI C (f (.oi C [] :: (ds.map .sh ++ List.replicate k .un)))
section
variable {P : Program} {w : World} {K : PySem.W.Frag} {mg : Str → Option Value} {base : Heap}
theorem startI_rel {H : Hp} {B : Addr → Prop} {N : List Str} {ds : List D} {rest : List V} {k : Nat} {x dx C : Addr} (hx : H x = some (.ins C dx [])) (h : HoldsL H (fun a => B a ∨ a = x) ds rest) (hB : ∀ a, B a → H a ≠ none) (nB : ¬ B x) (hk : N.length - (rest.length + 1) = k) :
    Rel ⟨fun b => if b = x then none else H b, B, x⟩ (L2.start N (.ref x :: rest)) H (.oi C [] :: (ds.map .sh ++ List.replicate k .un)) := by
  subst hk
  have hl := h.length
  have hown : ∀ (i : Nat) (s : Sl), (ds.map Sl.sh ++ List.replicate (N.length - (rest.length + 1)) Sl.un)[i]? = some s → s.own = false := fun i s e => by
    rcases List.mem_append.mp (List.mem_of_getElem? e) with m | m
    · obtain ⟨d, _, rfl⟩ := List.mem_map.mp m; rfl
    · rw [(List.mem_replicate.mp m).2]; rfl
  have hst : L2.start N (.ref x :: rest) = some (.ref x) :: (rest.map some ++ List.replicate (N.length - (rest.length + 1)) none) := by simp [L2.start]
  rw [hst]
  have own0 : ∀ i a, OwnAt (some (V.ref x) :: (rest.map some ++ List.replicate (N.length - (rest.length + 1)) none)) (.oi C [] :: (ds.map Sl.sh ++ List.replicate (N.length - (rest.length + 1)) Sl.un)) i a → i = 0 ∧ a = x := fun i a ⟨t, e, o, e2⟩ => by
    cases i with
    | zero => simp at e2; exact ⟨rfl, e2.symm⟩
    | succ i =>
      rw [List.getElem?_cons_succ] at e
      rw [hown i t e] at o
      cases o
  have own : ∀ a, Own (some (V.ref x) :: (rest.map some ++ List.replicate (N.length - (rest.length + 1)) none)) (.oi C [] :: (ds.map Sl.sh ++ List.replicate (N.length - (rest.length + 1)) Sl.un)) a → a = x := fun a ⟨i, z⟩ => (own0 i a z).2
  refine ⟨fun b o q => ?_, by simp [hl], fun i s e => ?_, fun i j a h1 h2 => by rw [(own0 i a h1).1, (own0 j a h2).1], fun a z => by rw [own a z]; exact nB, hB⟩
  · have q : (if b = x then none else H b) = some o := q
    by_cases hb : b = x
    · rw [if_pos hb] at q; cases q
    · rw [if_neg hb] at q; exact q
  · cases i with
    | zero =>
      simp at e
      subst e
      exact ⟨_, rfl, x, dx, [], rfl, ⟨if_pos rfl, rfl⟩, hx, rfl⟩
    | succ i =>
      rw [List.getElem?_cons_succ] at e ⊢
      by_cases hd : i < ds.length
      · rw [List.getElem?_append_left (by simpa using hd), List.getElem?_map, List.getElem?_eq_getElem hd] at e
        cases e
        obtain ⟨v, ev, hv⟩ := h.get (List.getElem?_eq_getElem hd)
        refine ⟨some v, ?_, v, rfl, Holds.less hv fun a z => z.imp_right (own a)⟩
        rw [List.getElem?_append_left (by simp; omega), List.getElem?_map, ev]
        rfl
      · have hi : i < (rest.map some ++ List.replicate (N.length - (rest.length + 1)) (none : Option V)).length := by
          have := (List.getElem?_eq_some_iff.mp e).1
          simpa [hl] using this
        rw [List.getElem?_append_right (by simpa using hd)] at e
        have hs : s = .un := (List.mem_replicate.mp (List.mem_of_getElem? e)).2
        subst hs
        exact ⟨_, List.getElem?_eq_getElem hi, trivial⟩
theorem bodyI_end {k : Nat} {f : SF} {ds : List D} {rest : List V} {N : List Str} {H : Hp} {B : Addr → Prop} {Q : VK} {E : XK} {x dx C : Addr} (hx : H x = some (.ins C dx [])) (h : HoldsL H (fun a => B a ∨ a = x) ds rest) (hB : ∀ a, B a → H a ≠ none) (nB : ¬ B x) (hk : N.length - (rest.length + 1) = k)
    (p : PostI mg x C B (runI C k f ds) H Q E) : TSx ⟨fun b => if b = x then none else H b, B, x⟩ mg (fun cls d _ H' => E cls d H') f { nx := fun _ H' => Q .non H', rt := Q } (L2.start N (.ref x :: rest)) H := by
  refine ⟨_, startI_rel hx h hB nB hk, ?_⟩
  have off : ∀ {σ' : L2.St} {H' : Hp} {s' : SD}, Rel ⟨fun b => if b = x then none else H b, B, x⟩ σ' H' s' → ∀ b o, H b = some o → b ≠ x → H' b = some o := fun r b o q hb => r.same b o (by show (if b = x then none else H b) = some o; rw [if_neg hb]; exact q)
  unfold runI retI at p
  cases q : f (.oi C [] :: (ds.map .sh ++ List.replicate k .un)) with
  | nx s' =>
    rw [q] at p
    dsimp only at p
    intro σ' H' r _
    split at p
    · rename_i C' fs e
      split at p
      · rename_i hc
        subst hc
        obtain ⟨v, e2, a, dx', ws, rfl, n, r0, l⟩ := r.slot 0 _ e
        have ea : a = x := n.2
        subst ea
        exact p H' dx' ws (off r) r0 (HoldsF.up (up_own fun b z => z.imp_right fun z => ⟨0, _, e, rfl, by rw [z]; exact e2⟩) _ l)
      · exact p.elim
    · exact p.elim
  | rt d => rw [q] at p; exact p.elim
  | rn n => rw [q] at p; exact p.elim
  | bk s' => rw [q] at p; exact p.elim
  | ct s' => rw [q] at p; exact p.elim
  | ex c fs s' => rw [q] at p; exact fun cls da σ' H' r _ x => p cls da H' (off r) x
  | no => rw [q] at p; exact p
end
end DS
set_option Elab.async false
set_option linter.all false
set_option maxRecDepth 100000
set_option maxHeartbeats 2000000
namespace DS
open PySem L2 PyProof.Rows
variable {F : Fr} {X : Cx} {W : WX} {a b c e o : Expr} {fa fb fc : EF} {pos : Pos} {st : Stmt} {sts : List Stmt} {f g : SF} {tt : TF} {es : List Expr} {fs : List EF}

section
variable {P : Program} {w : World} {K : PySem.W.Frag} {mg : Str → Option Value} {base : Heap}
/-- an __init__ keeps its promise -/
theorem fnI_ok {x qual : Str} {st : Stmt} {f C : Addr} {fd : FuncData} {N ps : List Str} {k kk n : Nat} {body : SF} (Fn : Fun K x qual st f fd) (S : FnScope N ps (defScope st)) (hn : ps.length = n) (hk : N.length - n = kk)
    (hb : ∀ (F : Fr) (W : WX) (cdv : Value) (A : Around) (outer : List Env) (s : Shared) (H : Hp) (E : XK), Room k (A.deeper (envOfC qual (defScope st) s.heap.objs.size f cdv)) →
      Takes (cxOf (L2.CX P w) P w K mg base N qual (defScope st) f cdv A outer s H E) W → PassesOwn (model P w) (A.deeper (envOfC qual (defScope st) s.heap.objs.size f cdv)) (envOfC qual (defScope st) s.heap.objs.size f cdv) (cxOf (L2.CX P w) P w K mg base N qual (defScope st) f cdv A outer s H E).xe →
      DXs F (cxOf (L2.CX P w) P w K mg base N qual (defScope st) f cdv A outer s H E) W (defBody st) body) :
    FnOk P w K mg base (L2.CX P w) (k + 1) f fd ps (spI mg C n (runI C kk body)) := by
  subst hn
  refine Fn.okX S (fun vs H Q E h => h.1) fun cdv A outer s H vs Q E hr h => ?_
  obtain ⟨hl, x, dx, rest, ds, B, rfl, hx, hh, hB, nB, p⟩ := h
  refine ⟨_, (hb ⟨fun b => if b = x then none else H b, B, x⟩ (fun cls d _ H' => E cls d H') cdv A outer s H E hr (takes_of rfl rfl rfl rfl) (passes_of rfl)).ps, ?_⟩
  exact bodyI_end hx hh hB nB (by rw [← hk, ← hl]; rfl) p
/-- a class that can be made -/
structure GCl (P : Program) (w : World) (K : PySem.W.Frag) (mg : Str → Option Value) (base : Heap) (k : Nat) (x : Str) (C : Addr) (n : Nat) (g : List D → R (List (Str × D))) : Prop where
  ex : ∃ f fd ps, FnOk P w K mg base (L2.CX P w) k f fd ps (spI mg C n g) ∧ Mk K C f ∧ mg x = some (.ref C) ∧ Binds K fd ps []
end
theorem run_makeS {CX : CXT} {k : Nat} {f C : Addr} {fd : FuncData} {ps : List Str} {sp : Sp} {E : XK} {pins : List (Addr × Obj)} {σ : L2.St} {H : Hp} {s : Shared} {Q : VK} {us : List Value} {vs : List V} (M : Mk X.K C f) (F : FnOk X.prog X.w X.K X.mg X.base CX k f fd ps sp) (hr : Room (k + 1) X.A) (hb : Binds X.K fd ps [])
    (hx : ∀ (pins : List (Addr × Obj)) (H : Hp) (s : Shared) (e : Value) (s' : Shared), Inv X pins σ H s → CX X.stack H s E e s' → X.xe e s') (I : Inv X pins σ H s) (r : Vals vs us)
    (h : ∀ x dx, H x = none → H dx = none → dx ≠ x → sp (.ref x :: vs) (upd (upd H dx (.own x)) x (.ins C dx [])) (fun v H2 => v = .non ∧ Q (.ref x) H2) E) :
    wpAny (model X.prog X.w) X.A (call (.ref C) us) (EP X pins σ Q) X.xe s := by
  have hq := h (s.heap.objs.size + 1) s.heap.objs.size (I.hok.fresh (Nat.le_succ _)) (I.hok.fresh (Nat.le_refl _)) (Nat.ne_of_lt (Nat.lt_succ_self _))
  have I2 := Inv.made (C := C) I
  have r2 : Vals (V.ref (s.heap.objs.size + 1) :: vs) (Value.ref (s.heap.objs.size + 1) :: us) := .cons rfl r
  have hl : (Value.ref (s.heap.objs.size + 1) :: us).length = ps.length := by
    have e := r2.length
    rw [F.len _ _ _ _ hq] at e
    exact e.symm
  have b := hb { s with heap := (s.heap.push { cls := .type "dict", data := .dict #[] }).push (PySem.W.instObj C s.heap.objs.size) } (Value.ref (s.heap.objs.size + 1) :: us) I2.kIn (by rw [List.append_nil]; exact hl)
  rw [List.append_nil] at b
  refine wpAny_call (make_map (f := f) I.kIn M.makes M.init (beq_iff_eq.mp M.fn) (codeAny_mono (F.run _ X.stack _ _ ⟨Value.ref (s.heap.objs.size + 1) :: us, []⟩ (Value.ref (s.heap.objs.size + 1) :: us) _ _ E (hr.make C us [])
    (I2.env0.make C us []) b r2 hq) fun r s' hq' => ?_))
  cases r with
  | error e => exact hx pins _ _ e s' I2 hq'
  | ok fl =>
    cases fl with
    | ret u =>
      obtain ⟨v, H', I3, rv, ev, q3⟩ := I2.after hq'
      subst ev
      exact ⟨rv, ⟨V.ref (s.heap.objs.size + 1), H', I3, rfl, q3⟩⟩
    | next => exact False.elim hq'
    | brk => exact False.elim hq'
    | cont => exact False.elim hq'
def tMakeS (C : Addr) (sp : Sp) (W : WX) (t : TA) : TE := fun σ H Q => t σ H fun vs H1 => ∀ x dx, H1 x = none → H1 dx = none → dx ≠ x → sp (.ref x :: vs) (upd (upd H1 dx (.own x)) x (.ins C dx [])) (fun v H2 => v = .non ∧ Q (.ref x) H2) (WE W σ)
theorem pe_makeS {k : Nat} {f C : Addr} {fd : FuncData} {ps : List Str} {sp : Sp} {x : Str} {p : Pos} {t : TA} (M : Mk X.K C f) (F : FnOk X.prog X.w X.K X.mg X.base (L2.CX X.prog X.w) k f fd ps sp) (hr : Room (k + 1) X.A) (hg : Gl X x) (hm : X.mg x = some (.ref C)) (hb : Binds X.K fd ps []) (tk : Takes X W)
    (ha : PA X (e :: es) t) (hdb : (x == ("__debug__" : Str)) = false := by decide) (he : starEach (e :: es) X.env = (false, eval e X.env) :: starEach es X.env := by rfl) (hpl : (backTo pos (starEach es X.env)).any (·.1) = false := by rfl) :
    PE X (.Call (.Name x p) (e :: es) [] pos) (tMakeS C sp W t) := by
  refine ⟨fun pins s σ H Q I h => ?_⟩
  refine wpAny_Call_Name_kw (ld_glob I hg hm ?_ hdb)
  refine PySem.W.callWith_K (h₀ := X.base) I.ok.mod.kin M.kp (thn (ha.run pos pins s σ H _ I h) fun us s1 ⟨vs, H1, I1, r, q⟩ => ⟨I1.kIn, ?_⟩) he hpl
  exact run_makeS M F hr hb (passAt tk σ) I1 r q
theorem evalL_length {sd : SD} : ∀ {fs : List EF} {ds : List D}, evalL fs sd = .ok ds → ds.length = fs.length
  | [], ds, e => by cases e; rfl
  | f :: fs, ds, e => by
    simp only [evalL] at e
    cases h1 : f sd <;> rw [h1] at e <;> try (cases e)
    rw [R.bind_ok] at e
    cases h2 : evalL fs sd <;> rw [h2] at e <;> cases e
    simp [evalL_length h2]
/-- C(..) -/
def opMake (C : Addr) (g : List D → R (List (Str × D))) (ds : List D) : R D := (g ds).bind fun fs => .ok (.ins C fs)
theorem de_make {x : Str} {C : Addr} {k k' n : Nat} {gf : List D → R (List (Str × D))} {p : Pos} (G : GCl X.prog X.w X.K X.mg X.base k x C n gf) (hr : Room k' X.A) (hg : Gl X x) (tk : Takes X W) (ha : DA false F X W (e :: es) fs) (hfs : fs.length + 1 = n := by rfl) (hkk : k + 1 ≤ k' := by decide)
    (hdb : (x == ("__debug__" : Str)) = false := by decide) (he : starEach (e :: es) X.env = (false, eval e X.env) :: starEach es X.env := by rfl) (hpl : (backTo pos (starEach es X.env)).any (·.1) = false := by rfl) :
    DE F X W (.Call (.Name x p) (e :: es) [] pos) (eAll (opMake C gf) fs) := by
  obtain ⟨f, fd, ps, G, M, hm, hb⟩ := G
  refine ⟨PE.weak (pe_makeS M G (hr.mono hkk) hg hm hb tk ha.pa hdb he hpl) fun σ H Q ⟨sd, rel, p⟩ => tas (b := false) rel p fun ds q vs H2 _ r2 hv p2 => fun x dx hx hdx hne => ?_⟩
  have s1 : Same H2 (upd (upd H2 dx (.own x)) x (.ins C dx [])) := fun b o h => by
    rw [upd_ne (ne_of_none h hx), upd_ne (ne_of_none h hdx)]; exact h
  refine ⟨?_, x, dx, vs, ds, Av F σ sd, rfl, upd_same, ?_, fun a z => Same.dom s1 a (r2.dom z), fun z => r2.dom z hx, ?_⟩
  · rw [List.length_cons, hv.l.length, evalL_length q]; exact hfs
  · exact HoldsL.up (Up.ofOff (fun b o h _ => s1 _ _ h) fun b z => z.imp_right fun z => by rw [z]; exact hx) _ hv.l
  · unfold opMake at p2
    cases q3 : gf ds with
    | no => rw [q3] at p2; exact p2.elim
    | ex c fs =>
      rw [q3] at p2
      exact fun cls da H' s x => p2 cls da H' (fun b o h => s b o (s1 b o h) (ne_of_none h hx)) x
    | ok fs =>
      rw [q3] at p2
      refine fun H' dx' ws s h l => ⟨rfl, p2 _ H' (fun b o h => s b o (s1 b o h) (ne_of_none h hx)) ⟨x, dx', ws, rfl, fun z => r2.dom z hx, h, HoldsF.up (up_own fun a z => .inl z) _ l⟩⟩

/-! ### methods -/
structure GMt (P : Program) (w : World) (K : PySem.W.Frag) (mg : Str → Option Value) (base : Heap) (k : Nat) (m : Str) (C : Addr) (n : Nat) (g : List D → R D) : Prop where
  ex : ∃ f fd ps, FnOk P w K mg base (L2.CX P w) k f fd ps (spD mg n g) ∧ Cls K C ∧ Meth K C m f ∧ Binds K fd ps []
def tMethS (C : Addr) (m : Str) (sp : Sp) (W : WX) (ta : TE) (t : TA) : TE := fun σ H Q => ta σ H fun x H1 => ∃ a dx fs, x = .ref a ∧ H1 a = some (.ins C dx fs) ∧ fs.lookup m = none ∧ t σ H1 fun vs H2 => sp (x :: vs) H2 Q (WE W σ)
theorem pe_methS {k : Nat} {f C : Addr} {fd : FuncData} {ps : List Str} {sp : Sp} {m : Str} {apos : Pos} {ta : TE} {t : TA} {pl : Sem Bool} (he : PE X o ta) (c : Cls X.K C) (hm : Meth X.K C m f) (F : FnOk X.prog X.w X.K X.mg X.base (L2.CX X.prog X.w) k f fd ps sp) (hr : Room k X.A) (hb : Binds X.K fd ps []) (tk : Takes X W) (ha : PA X (e :: es) t)
    (hst : starEach (e :: es) X.env = (false, eval e X.env) :: starEach es X.env := by rfl) (hpl : (backTo pos (starEach es X.env)).any (·.1) = false := by rfl)
    (ht : eval (.Call (.Attribute o m apos) (e :: es) [] pos) X.env = (do
      let ov ← eval o X.env
      standAt apos.atName
      let (f, first) ← holding [ov] (getMethod ov m pl)
      callWith pos f first (backTo pos (starEach (e :: es) X.env)) (backToKw pos (keywordEach [] X.env))) := by rfl) :
    PE X (.Call (.Attribute o m apos) (e :: es) [] pos) (tMethS C m sp W ta t) := by
  refine ⟨fun pins s σ H Q I h => ?_⟩
  refine PySem.W.methodCall_KW (pl := pl) (thn (he.run pins s σ H _ I h) fun u s1 ⟨x, H1, I1, rx, a, dx, fs, ex, ea, l, q⟩ => ?_) ht
  subst ex
  obtain rfl : u = Value.ref a := rx
  refine getmeth_ok I1 ea c hm l ?_
  refine PySem.W.callWith_K (first := [.ref a]) (h₀ := X.base) I.ok.mod.kin hm.kp (thn (ha.run pos pins s1 σ H1 _ I1 q) fun us s2 ⟨vs, H2, I2, r, q2⟩ => ⟨I2.kIn, ?_⟩) hst hpl
  exact run_fnS (E := WE W) (us := .ref a :: us) (vs := .ref a :: vs) F hr hb (passAt tk σ) I2 (.cons rfl r) q2
theorem pe_meth0S {k : Nat} {f C : Addr} {fd : FuncData} {ps : List Str} {sp : Sp} {m : Str} {apos : Pos} {ta : TE} {pl : Sem Bool} (he : PE X o ta) (c : Cls X.K C) (hm : Meth X.K C m f) (F : FnOk X.prog X.w X.K X.mg X.base (L2.CX X.prog X.w) k f fd ps sp) (hr : Room k X.A) (hb : Binds X.K fd ps []) (tk : Takes X W)
    (ht : eval (.Call (.Attribute o m apos) [] [] pos) X.env = (do
      let ov ← eval o X.env
      standAt apos.atName
      let (f, first) ← holding [ov] (getMethod ov m pl)
      callWith pos f first (backTo pos (starEach [] X.env)) (backToKw pos (keywordEach [] X.env))) := by rfl) :
    PE X (.Call (.Attribute o m apos) [] [] pos) (tMethS C m sp W ta tNil) := by
  refine ⟨fun pins s σ H Q I h => ?_⟩
  refine PySem.W.methodCall_KW (pl := pl) (thn (he.run pins s σ H _ I h) fun u s1 ⟨x, H1, I1, rx, a, dx, fs, ex, ea, l, q⟩ => ?_) ht
  subst ex
  obtain rfl : u = Value.ref a := rx
  refine getmeth_ok I1 ea c hm l ?_
  exact PySem.W.callWith_K0 (first := [.ref a]) I1.kIn hm.kp (run_fnS (E := WE W) (us := [.ref a]) (vs := [.ref a]) F hr hb (passAt tk σ) I1 (.cons rfl .nil) q)
/-- o.m(..), o an instance of C without an attribute of the name -/
def opMeth (C : Addr) (m : Str) (g : List D → R D) (x : D) (ds : List D) : R D := match x with
  | .ins C' fs => if C' = C ∧ fs.lookup m = none then g (.ins C' fs :: ds) else .no
  | _ => .no
def isIns (C : Addr) (m : Str) : D → Bool
  | .ins C' fs => decide (C' = C) && (fs.lookup m).isNone
  | _ => false
def eMeth (C : Addr) (m : Str) (g : List D → R D) (fa : EF) (fs : List EF) : EF := fun s => (fa s).bind fun x => if isIns C m x = true then (evalL fs s).bind fun ds => g (x :: ds) else .no
theorem de_meth {m : Str} {C : Addr} {k k' n : Nat} {gf : List D → R D} {apos : Pos} {pl : Sem Bool} (G : GMt X.prog X.w X.K X.mg X.base k m C n gf) (hr : Room k' X.A) (tk : Takes X W) (ho : DE F X W o fa) (ha : DA false F X W (e :: es) fs) (hfs : fs.length + 1 = n := by rfl) (hkk : k ≤ k' := by decide)
    (hst : starEach (e :: es) X.env = (false, eval e X.env) :: starEach es X.env := by rfl) (hpl : (backTo pos (starEach es X.env)).any (·.1) = false := by rfl)
    (ht : eval (.Call (.Attribute o m apos) (e :: es) [] pos) X.env = (do
      let ov ← eval o X.env
      standAt apos.atName
      let (f, first) ← holding [ov] (getMethod ov m pl)
      callWith pos f first (backTo pos (starEach (e :: es) X.env)) (backToKw pos (keywordEach [] X.env))) := by rfl) :
    DE F X W (.Call (.Attribute o m apos) (e :: es) [] pos) (eMeth C m gf fa fs) := by
  obtain ⟨f, fd, ps, G, hc, hm, hb⟩ := G
  refine ⟨PE.weak (pe_methS ho.pe hc hm G (hr.mono hkk) hb tk ha.pa hst hpl ht) fun σ H Q ⟨sd, rel, p⟩ => te1s rel p fun d q v H1 r1 hv p1 => ?_⟩
  cases hd : isIns C m d with
  | false => rw [hd] at p1; exact p1.elim
  | true =>
    rw [hd, if_pos rfl] at p1
    have hv : Holds H1 (Av F σ sd) d v := hv
    cases d with
    | ins C' ds0 =>
      have hv' := hv
      obtain ⟨a, dx, ws, rfl, na, r, l⟩ := hv'
      simp only [isIns, Bool.and_eq_true, decide_eq_true_eq, Option.isNone_iff_eq_none] at hd
      obtain ⟨hC, hn⟩ := hd
      subst hC
      refine ⟨a, dx, ws, rfl, r, l.nolook hn, tas (b := false) r1 p1 fun ds q2 vs H2 s2 r2 hvs p2 => ?_⟩
      refine ⟨by rw [List.length_cons, hvs.l.length, evalL_length q2]; exact hfs, .ins C' ds0 :: ds, Av F σ sd, ⟨_, _, rfl, ?_, hvs.l⟩, fun a z => r2.dom z, PostD.of p2⟩
      exact Holds.same s2 hv
    | _ => cases hd
def eMeth0 (C : Addr) (m : Str) (g : List D → R D) (fa : EF) : EF := fun s => (fa s).bind fun x => if isIns C m x = true then g [x] else .no
theorem de_meth0 {m : Str} {C : Addr} {k k' : Nat} {gf : List D → R D} {apos : Pos} {pl : Sem Bool} (G : GMt X.prog X.w X.K X.mg X.base k m C 1 gf) (hr : Room k' X.A) (tk : Takes X W) (ho : DE F X W o fa) (hkk : k ≤ k' := by decide)
    (ht : eval (.Call (.Attribute o m apos) [] [] pos) X.env = (do
      let ov ← eval o X.env
      standAt apos.atName
      let (f, first) ← holding [ov] (getMethod ov m pl)
      callWith pos f first (backTo pos (starEach [] X.env)) (backToKw pos (keywordEach [] X.env))) := by rfl) :
    DE F X W (.Call (.Attribute o m apos) [] [] pos) (eMeth0 C m gf fa) := by
  obtain ⟨f, fd, ps, G, hc, hm, hb⟩ := G
  refine ⟨PE.weak (pe_meth0S ho.pe hc hm G (hr.mono hkk) hb tk ht) fun σ H Q ⟨sd, rel, p⟩ => te1s rel p fun d q v H1 r1 hv p1 => ?_⟩
  cases hd : isIns C m d with
  | false => rw [hd] at p1; exact p1.elim
  | true =>
    rw [hd, if_pos rfl] at p1
    have hv : Holds H1 (Av F σ sd) d v := hv
    cases d with
    | ins C' ds0 =>
      have hv' := hv
      obtain ⟨a, dx, ws, rfl, na, r, l⟩ := hv'
      simp only [isIns, Bool.and_eq_true, decide_eq_true_eq, Option.isNone_iff_eq_none] at hd
      obtain ⟨hC, hn⟩ := hd
      subst hC
      refine ⟨a, dx, ws, rfl, r, l.nolook hn, rfl, [.ins C' ds0], Av F σ sd, ⟨_, _, rfl, hv, rfl⟩, fun a z => r1.dom z, PostD.of p1⟩
    | _ => cases hd
end DS
set_option Elab.async false
set_option linter.all false
set_option maxRecDepth 100000
set_option maxHeartbeats 2000000
namespace PySem
section
variable {prog : Program} {w : World} {K : Type} [DecidableEq K] {knd : KeyKind prog w K} {A : Around} {E : Value → Shared → Prop} {s : Shared}
theorem dm_dictPut {d : Addr} {kvs : List (K × Value)} {k : K} {key v : Value} {Q : Unit → Shared → Prop} (hkey : knd.is k key = true) (hm : s.heap.DictOf knd d kvs)
    (hQ : ∀ h', h'.DictOf knd d (stored kvs k v) → Heap.SameBut d s.heap h' → Q () { s with heap := h' })
    (hsz : kvs.length ≤ sizeLine) :
    wpAny (model prog w) A (dictPut d (knd.hash k) key v) Q E s := by
  obtain ⟨o, es, ep, ho, hc, hd, hk, hp, hn⟩ := hm
  have hes : es.size ≤ sizeLine := by have e1 := hp.length; have e2 : es.toList.length = es.size := by simp
                                      omega
  unfold dictPut
  refine wpAny_bind (wpAny_dictFind_of hkey ho hd hk ?_)
  have hidx : (es.findIdx? fun e => knd.is k e.key) = kvs.findIdx? fun kv => decide (kv.1 = k) := by
    rw [← hp.findIdx k]; obtain ⟨l⟩ := es; simp
  cases hi : es.findIdx? fun e => knd.is k e.key with
  | some i =>
    refine wpAny_updateDict ho hd (hQ _ ⟨_, _, ep, Heap.get?_update_self _ ho (Obj.isFreed_of_dict (Obj.data_mapDict hd _)),
      hc.mapDict _, Obj.data_mapDict hd _, hk.modify _ _, ?_, ?_⟩ (Heap.SameBut.update ..))
    · rw [stored, if_pos (any_of_findIdx_some (hidx ▸ hi))]
      have hl : (es.toList.findIdx? fun e => knd.is k e.key) = some i := by rw [← hi]; obtain ⟨l⟩ := es; simp
      have := hp.modify hn hl v
      obtain ⟨l⟩ := es
      simpa using this
    · rw [stored, if_pos (any_of_findIdx_some (hidx ▸ hi)), keys_map_store]; exact hn
  | none =>
    have hnot : k ∉ kvs.map (·.1) := not_mem_of_findIdx_none (hidx ▸ hi)
    have hany : ¬ (kvs.any fun kv => decide (kv.1 = k)) = true := by
      rw [List.any_eq_true]; rintro ⟨kv, hkv, he⟩
      exact hnot (List.mem_map.mpr ⟨kv, hkv, of_decide_eq_true he⟩)
    refine wpAny_updateDictKeys (hz := hes) ho hd (hQ _ ⟨_, _, ep + 1, Heap.get?_update_self _ ho (Obj.isFreed_of_dict (Obj.data_mapDictKeys hd _)),
      hc.mapDictKeys _, Obj.data_mapDictKeys hd _, hk.push hkey _, ?_, ?_⟩ (Heap.SameBut.update ..))
    · rw [stored, if_neg hany]
      have := hp.append hkey (knd.hash k) v
      obtain ⟨l⟩ := es
      simpa using this
    · rw [stored, if_neg hany, List.map_append, List.nodup_append]
      refine ⟨hn, by simp, ?_⟩
      intro a ha b hb
      simp only [List.map_cons, List.map_nil, List.mem_singleton] at hb
      subst hb
      exact fun e => hnot (e ▸ ha)
theorem dm_merge {d o : Addr} {kvs more : List (K × Value)} {Q : Unit → Shared → Prop} (nk : ∀ k v, knd.is k v = true → ∀ a, v ≠ .ref a) (hdo : d ≠ o) (hoS : (o == sysModules) = false)
    (hd : s.heap.DictOf knd d kvs) (ho : s.heap.DictOf knd o more)
    (hQ : ∀ h', h'.DictOf knd d (merged kvs more) → h'.DictOf knd o more → Heap.SameBut d s.heap h' → Q () { s with heap := h' })
    (hsz : kvs.length + more.length ≤ sizeLine) :
    wpAny (model prog w) A (mergeMapping d (.ref o) false) Q E s := by
  obtain ⟨od, esd, epd, hod, hcd, hdd, hkd, hpd, hnd⟩ := id hd
  obtain ⟨oo, eso, epo, hoo, hco, hdo', hko, hpo, hno⟩ := id ho
  have hlen : more.length = eso.size := by rw [← hpo.length]; simp
  have loop : wpAny (model prog w) A (do
      let l ← dictEntries o
      let epoch ← dictEpoch o
      forIn (List.range l.size) PUnit.unit fun i (_ : PUnit) => (do
          let l' ← dictEntries o
          match l'[i]? with
            | some e => do
              holding [e.key, e.val] (dictPut d e.hash e.key e.val)
              let ep' ← dictEpoch o
              if (ep' != epoch) = true then do
                  (unsupported "dict.changed-during-merge" : Sem PUnit)
                  pure (ForInStep.yield PUnit.unit)
                else pure (ForInStep.yield PUnit.unit)
            | _ => do
              (unsupported "dict.changed-during-merge" : Sem PUnit)
              pure (ForInStep.yield PUnit.unit) : Sem (ForInStep PUnit))
      pure ()) Q E s := by
    refine wpAny_bind (wpAny_dictEntries hoo hdo' ?_)
    refine wpAny_bind (wpAny_dictEpoch hoo hdo' ?_)
    refine wpAny_bind ?_
    rw [List.range_eq_range']
    refine wpAny_forIn_list _
      (fun rest _ s' => ∃ h' i, s' = { s with heap := h' } ∧ rest = List.range' i (eso.size - i) ∧ i ≤ eso.size ∧ h'.DictOf knd d (merged kvs (more.take i)) ∧ h'.get? o = some oo ∧ Heap.SameBut d s.heap h')
      _ ?_ ?_ _ _ ⟨s.heap, 0, rfl, by simp, Nat.zero_le _, by simpa [merged] using hd, hoo, Heap.SameBut.refl _ _⟩
    · rintro x rest b s' ⟨h', i, rfl, hr, hi, hd', hoo', hs'⟩
      have hlt : i < eso.size := by
        rcases Nat.lt_or_ge i eso.size with h | h
        · exact h
        · rw [Nat.sub_eq_zero_of_le h] at hr; simp at hr
      obtain ⟨rfl, hrest⟩ : x = i ∧ rest = List.range' (i + 1) (eso.size - (i + 1)) := by
        have e : eso.size - i = (eso.size - (i + 1)) + 1 := by omega
        rw [e, List.range'_succ] at hr
        injection hr with h1 h2
        exact ⟨h1, h2⟩
      refine wpAny_bind (wpAny_dictEntries hoo' hdo' ?_)
      rw [Array.getElem?_eq_getElem hlt]
      obtain ⟨kv, hkv⟩ : ∃ kv, more[x]? = some kv := ⟨more[x]'(by rw [hlen]; exact hlt), List.getElem?_eq_getElem _⟩
      obtain ⟨k, v⟩ := kv
      obtain ⟨hkey, hval⟩ := hpo.get? (e := eso[x]) (by simp [hlt]) hkv
      obtain ⟨k', hkey', hhash⟩ := hko eso[x] (Array.getElem_mem hlt)
      obtain rfl : k' = k := knd.inj _ _ _ hkey' hkey
      show wpAny _ _ (holding [eso[x].key, eso[x].val] (dictPut d eso[x].hash eso[x].key eso[x].val) >>= _) _ _ _
      rw [hhash, hval]
      have hmx : (merged kvs (more.take x)).length ≤ sizeLine := by
        have e1 := merged_length_le kvs (more.take x)
        have e2 : (more.take x).length ≤ more.length := by rw [List.length_take]; omega
        omega
      refine wpAny_bind (wpAny_holding (dm_dictPut (hsz := hmx) hkey hd' fun h'' hd'' hs'' => ?_))
      have hoo'' : h''.get? o = some oo := (hs''.2 o (Ne.symm hdo)).trans hoo'
      refine wpAny_bind (wpAny_dictEpoch hoo'' hdo' ?_)
      rw [if_neg (by simp)]
      exact wpAny_pure ⟨h'', x + 1, rfl, hrest, hlt, by rw [merged_take_succ kvs more x (k', v) hkv]; exact hd'', hoo'', hs'.trans hs''⟩
    · rintro b s' ⟨h', i, rfl, hr, hi, hd', hoo', hs'⟩
      have hin : i = eso.size := by
        rcases Nat.lt_or_ge i eso.size with h | h
        · have e : eso.size - i = (eso.size - (i + 1)) + 1 := by omega
          rw [e, List.range'_succ] at hr; exact nomatch hr
        · exact Nat.le_antisymm hi h
      refine wpAny_pure (hQ h' ?_ ⟨oo, eso, epo, hoo', hco, hdo', hko, hpo, hno⟩ hs')
      rw [hin, ← hlen, List.take_length] at hd'; exact hd'
  unfold mergeMapping
  refine wpAny_bind (wpAny_isInstance ho.typeIs isSubtype_dict_dict ?_)
  simp only [if_true]
  refine wpAny_bind (wpAny_specialOf ho.typeIs F.slot_dict_iter.lookup ?_)
  refine wpAny_bind (wpAny_pure ?_)
  simp only [beq_self_eq_true]
  rw [if_neg (by rw [hoS]; exact Bool.false_ne_true)]
  refine wpAny_bind (wpAny_dictEntries hod hdd ?_)
  simp only [Bool.false_eq_true, if_false]
  split
  · refine wpAny_bind (wpAny_dictEntries hoo hdo' ?_)
    refine wpAny_bind ?_
    obtain ⟨l⟩ := eso
    rw [List.forIn_toArray]
    refine wpAny_forIn_list _ (fun rest _ s' => s' = s ∧ ∀ e ∈ rest, e ∈ l) _ ?_ ?_ _ _ ⟨rfl, fun e h => h⟩
    · rintro x rest b s' ⟨rfl, hr⟩
      obtain ⟨k, hk, _⟩ := hko x (by simpa using hr x List.mem_cons_self)
      have nr := nk k x.key hk
      split
      · rename_i a he
        exact absurd he (nr a)
      · exact wpAny_pure ⟨rfl, fun e h => hr e (List.mem_cons_of_mem _ h)⟩
    · rintro b s' ⟨rfl, _⟩
      exact loop
  · exact loop
/-- a dict merged into the display, as the display says it -/
theorem dm_one {d o : Addr} {kvs more : List (K × Value)} {kk : Value → Sem Unit} {tc : Value → Sem Unit} {k2 : Value → Sem Unit} {Q : Unit → Shared → Prop} (nk : ∀ k v, knd.is k v = true → ∀ a, v ≠ .ref a) (hdo : d ≠ o) (hoS : (o == sysModules) = false)
    (hd : s.heap.DictOf knd d kvs) (ho : s.heap.DictOf knd o more)
    (hQ : ∀ h', h'.DictOf knd d (merged kvs more) → h'.DictOf knd o more → Heap.SameBut d s.heap h' → Q () { s with heap := h' })
    (hsz : kvs.length + more.length ≤ sizeLine) {vs : List Value} :
    wpAny (model prog w) A ((((holding vs (mergeMapping d (.ref o) false)).onRaise kk).tryCatch tc).onRaise k2) Q E s := by
  refine wpAny_onRaise (wpAny_tryCatch (wpAny_onRaise (wpAny_holding ?_)))
  exact dm_merge nk hdo hoS hd ho hQ hsz
theorem dm_disp2 {m1 m2 : Sem Value} {Q : Value → Shared → Prop} (nk : ∀ k v, knd.is k v = true → ∀ a, v ≠ .ref a)
    (h : wpAny (model prog w) A m1 (fun x1 s1 => ∃ o1 more1, x1 = .ref o1 ∧ s.heap.objs.size ≠ o1 ∧ (o1 == sysModules) = false ∧ s1.heap.DictOf knd s.heap.objs.size [] ∧ s1.heap.DictOf knd o1 more1 ∧ more1.length ≤ sizeLine ∧
      ∀ h1, h1.DictOf knd s.heap.objs.size (merged [] more1) → Heap.SameBut s.heap.objs.size s1.heap h1 → wpAny (model prog w) A m2 (fun x2 s2 => ∃ o2 kvs2 more2, x2 = .ref o2 ∧ s.heap.objs.size ≠ o2 ∧ (o2 == sysModules) = false ∧ s2.heap.DictOf knd s.heap.objs.size kvs2 ∧ s2.heap.DictOf knd o2 more2 ∧ kvs2.length + more2.length ≤ sizeLine ∧
        ∀ h2, h2.DictOf knd s.heap.objs.size (merged kvs2 more2) → Heap.SameBut s.heap.objs.size s2.heap h2 → Q (.ref s.heap.objs.size) { s2 with heap := h2 }) E { s1 with heap := h1 }) E
      { s with heap := s.heap.push { cls := .type "dict", data := .dict #[] } }) :
    wpAny (model prog w) A (dictDisplay [(none, m1), (none, m2)]) Q E s := by
  unfold dictDisplay
  simp only [List.forIn_cons, List.forIn_nil, List.isEmpty_nil, if_true, pure_bind, bind_assoc]
  refine wpAny_bind (wpAny_alloc ?_)
  refine wpAny_bind (wpAny_holding (wpAny_mono h (fun x1 s1 h1 => ?_) fun _ _ e => e))
  obtain ⟨o1, more1, rfl, ho1, hS1, hd1, hm1, hz1, h1⟩ := h1
  refine wpAny_bind (dm_one nk ho1 hS1 hd1 hm1 (fun ha hda hoa hsa => ?_) (by simpa using hz1))
  refine wpAny_bind (wpAny_holding (wpAny_mono (h1 ha hda hsa) (fun x2 s2 h2 => ?_) fun _ _ e => e))
  obtain ⟨o2, kvs2, more2, rfl, ho2, hS2, hd2, hm2, hz2, h2⟩ := h2
  refine wpAny_bind (dm_one nk ho2 hS2 hd2 hm2 (fun hb hdb hob hsb => ?_) hz2)
  exact wpAny_pure (h2 hb hdb hsb)
theorem dm_dispK {m1 : Sem Value} {p : Sem Value × Sem Value} {more : List (Sem Value × Sem Value)} {Q : Value → Shared → Prop} (hl : more = [] ∨ ∃ q, more = [q]) (nk : ∀ k v, knd.is k v = true → ∀ a, v ≠ .ref a)
    (h : wpAny (model prog w) A m1 (fun x1 s1 => ∃ o1 more1, x1 = .ref o1 ∧ s.heap.objs.size ≠ o1 ∧ (o1 == sysModules) = false ∧ s1.heap.DictOf knd s.heap.objs.size [] ∧ s1.heap.DictOf knd o1 more1 ∧ more1.length ≤ sizeLine ∧
      ∀ h1, h1.DictOf knd s.heap.objs.size (merged [] more1) → Heap.SameBut s.heap.objs.size s1.heap h1 → s.heap.objs.size ≠ h1.objs.size ∧ (h1.objs.size == sysModules) = false ∧ wpAny (model prog w) A (evalPairs (p :: more)) (fun vs s2 => ∃ kvs2 kvs, Carries knd vs kvs ∧ s2.heap.DictOf knd h1.objs.size [] ∧ s2.heap.DictOf knd s.heap.objs.size kvs2 ∧ kvs2.length + kvs.length ≤ sizeLine ∧
        ∀ h2 h3, h2.DictOf knd h1.objs.size (merged [] kvs) → Heap.SameBut h1.objs.size s2.heap h2 → h3.DictOf knd s.heap.objs.size (merged kvs2 (merged [] kvs)) → Heap.SameBut s.heap.objs.size h2 h3 → Q (.ref s.heap.objs.size) { s2 with heap := h3, toks := s2.toks + vs.length }) E { s1 with heap := h1.push { cls := .type "dict", data := .dict #[] } }) E
      { s with heap := s.heap.push { cls := .type "dict", data := .dict #[] } }) :
    wpAny (model prog w) A (dictDisplay ((none, m1) :: ((p :: more).map fun p => (some p.1, p.2)))) Q E s := by
  have key : ∀ (d : Addr) (s0 : Shared) (h1 : Heap), wpAny (model prog w) A (evalPairs (p :: more)) (fun vs s2 => ∃ kvs2 kvs, Carries knd vs kvs ∧ s2.heap.DictOf knd h1.objs.size [] ∧ s2.heap.DictOf knd d kvs2 ∧ kvs2.length + kvs.length ≤ sizeLine ∧
        ∀ h2 h3, h2.DictOf knd h1.objs.size (merged [] kvs) → Heap.SameBut h1.objs.size s2.heap h2 → h3.DictOf knd d (merged kvs2 (merged [] kvs)) → Heap.SameBut d h2 h3 → Q (.ref d) { s2 with heap := h3, toks := s2.toks + vs.length }) E { s0 with heap := h1.push { cls := .type "dict", data := .dict #[] } } → d ≠ h1.objs.size → (h1.objs.size == sysModules) = false →
      wpAny (model prog w) A (do
        let sub ← holding [.ref d] (subDict (p :: more))
        ((holding [.ref d, .ref sub] (mergeMapping d (.ref sub) false)).onRaise fun x => do let _ ← holding [.ref d, x] (runValue (.builtin "proto.let_go" {})))
        pure (Value.ref d)) Q E { s0 with heap := h1 } := fun d s0 h1 hw hne hS => by
    have hlen : (p :: more).length ≤ 15 := by rcases hl with rfl | ⟨q, rfl⟩ <;> simp
    refine wpAny_bind (wpAny_holding (wpAny_subDict (knd := knd) (s := { s0 with heap := h1 }) hlen (wpAny_mono hw (fun vs s2 h2 => ?_) fun _ _ e => e)))
    obtain ⟨kvs2, kvs, c, hd0, hd, hz, h2⟩ := h2
    refine ⟨kvs, c, hd0, fun ha hda hsa => ?_⟩
    have hd' := hd.sameBut hsa hne
    have hz2 : kvs2.length + (merged [] kvs).length ≤ sizeLine := by
      have := merged_length_le ([] : List (K × Value)) kvs
      simp only [List.length_nil, Nat.zero_add] at this
      omega
    refine wpAny_bind (wpAny_onRaise (wpAny_holding (dm_merge (s := { s2 with heap := ha, toks := s2.toks + vs.length }) nk hne hS hd' hda (fun hb hdb _ hsb => ?_) hz2)))
    exact wpAny_pure (h2 ha hb hda hsa hdb hsb)
  unfold dictDisplay
  rcases hl with rfl | ⟨q, rfl⟩
  · simp only [List.map_cons, List.map_nil, List.forIn_cons, List.forIn_nil, List.isEmpty_nil, if_true, pure_bind, bind_assoc, List.nil_append, List.length_cons, List.length_nil]
    refine wpAny_bind (wpAny_alloc ?_)
    refine wpAny_bind (wpAny_holding (wpAny_mono h (fun x1 s1 h1 => ?_) fun _ _ e => e))
    obtain ⟨o1, more1, rfl, ho1, hS1, hd1, hm1, hz1, h1⟩ := h1
    refine wpAny_bind (dm_one nk ho1 hS1 hd1 hm1 (fun ha hda hoa hsa => ?_) (by simpa using hz1))
    obtain ⟨hn, hS, hw⟩ := h1 ha hda hsa
    simp only [show (0 + 1 == 17) = false from rfl, show (0 + 1 + 1 == 17) = false from rfl, Bool.false_eq_true, if_false, pure_bind, bind_assoc, List.isEmpty_cons, List.cons_append, List.nil_append, List.length_cons, List.length_nil]
    exact key _ s1 ha hw hn hS
  · simp only [List.map_cons, List.map_nil, List.forIn_cons, List.forIn_nil, List.isEmpty_nil, if_true, pure_bind, bind_assoc, List.nil_append, List.length_cons, List.length_nil, List.cons_append]
    refine wpAny_bind (wpAny_alloc ?_)
    refine wpAny_bind (wpAny_holding (wpAny_mono h (fun x1 s1 h1 => ?_) fun _ _ e => e))
    obtain ⟨o1, more1, rfl, ho1, hS1, hd1, hm1, hz1, h1⟩ := h1
    refine wpAny_bind (dm_one nk ho1 hS1 hd1 hm1 (fun ha hda hoa hsa => ?_) (by simpa using hz1))
    obtain ⟨hn, hS, hw⟩ := h1 ha hda hsa
    simp only [show (0 + 1 == 17) = false from rfl, show (0 + 1 + 1 == 17) = false from rfl, Bool.false_eq_true, if_false, pure_bind, bind_assoc, List.isEmpty_cons, List.cons_append, List.nil_append, List.length_cons, List.length_nil]
    exact key _ s1 ha hw hn hS
end
end PySem
set_option Elab.async false
set_option linter.all false
set_option maxRecDepth 100000
set_option maxHeartbeats 2000000
namespace DS
open PySem L2
variable {F : Fr} {X : Cx} {W : WX} {a b c e o : Expr} {fa fb fc : EF} {pos : Pos} {st : Stmt} {sts : List Stmt} {f g : SF} {tt : TF} {es : List Expr} {fs : List EF}

theorem mix_noref {P : Program} {w : World} : ∀ (k : L2.Key) (v : Value), (mixKind P w).is k v = true → ∀ a, v ≠ .ref a := fun k v h a e => by
  subst e
  rcases keyIs_shape h with ⟨i, t, _, e⟩ | ⟨x, t, _, e⟩ <;> cases e
def mergeD (kvs more : List (L2.Key × D)) : List (L2.Key × D) := more.foldl (fun acc kv => putD acc kv.1 kv.2) kvs
theorem HoldsK.merge {H : Hp} {A : Addr → Prop} : ∀ {more : List (L2.Key × D)} {ms : List (L2.Key × V)} {kvs : List (L2.Key × D)} {ws : List (L2.Key × V)}, HoldsK H A more ms → HoldsK H A kvs ws → HoldsK H A (mergeD kvs more) (mergeK ws ms)
  | [], _, _, _, h, k => by cases h; exact k
  | (k', d) :: more, _, kvs, ws, h, k => by
    obtain ⟨v, r, rfl, h1, h2⟩ := h
    exact HoldsK.merge (kvs := putD kvs k' d) (ws := putK ws k' v) h2 (k.put k' h1)
/-- one more address to keep off -/
theorem Rel.more {σ : L2.St} {H H' : Hp} {sd : SD} {p : Addr} (rel : Rel F σ H sd) (hD : H p = none) (s : Same H H') (hD' : H' p ≠ none) : Rel ⟨F.H0, fun a => F.B a ∨ a = p, F.S⟩ σ H' sd := by
  have av : ∀ a, Av ⟨F.H0, fun a => F.B a ∨ a = p, F.S⟩ σ sd a → Av F σ sd a ∨ a = p := fun a z => z.elim (fun z => z.imp_left .inl) fun z => .inl (.inr z)
  have u : Up H (Av F σ sd) H' (Av ⟨F.H0, fun a => F.B a ∨ a = p, F.S⟩ σ sd) := Up.ofOff (fun b o h _ => s _ _ h) fun b z => (av b z).imp_right fun z => by rw [z]; exact hD
  refine ⟨rel.same.trans s, rel.len, fun i t e => ?_, rel.inj, fun a z q => q.elim (rel.nb a z) fun q => ?_, fun a z => z.elim (fun z => Same.dom s a (rel.bdom a z)) fun z => by rw [z]; exact hD'⟩
  · obtain ⟨v, ev, h⟩ := rel.slot i t e
    refine ⟨v, ev, ?_⟩
    cases t with
    | un => trivial
    | xc => exact h
    | sh d => obtain ⟨x, e, h⟩ := h; exact ⟨x, e, Holds.up u d h⟩
    | bw d => obtain ⟨x, e, h⟩ := h; exact ⟨x, e, HoldsB.less (fun a ha na => u.off a (Same.dom rel.same a ha) na) h⟩
    | ol ds => obtain ⟨a, vs, e, n, r, l⟩ := h; exact ⟨a, vs, e, n, s _ _ r, HoldsL.up u _ l⟩
    | od ds => obtain ⟨a, vs, e, n, r, l⟩ := h; exact ⟨a, vs, e, n, s _ _ r, HoldsK.up u _ l⟩
    | oi C ds => obtain ⟨a, dx, vs, e, n, r, l⟩ := h; exact ⟨a, dx, vs, e, n, s _ _ r, HoldsF.up u _ l⟩
  · rw [q] at z
    exact (rel.odom z).1 hD
def asDk {α : Type} (d : D) (f : List (L2.Key × D) → R α) : R α := match d with
  | .dk ks => f ks
  | _ => .no
def merge2D (ks ls : List (L2.Key × D)) : R ND := if ks.length + ls.length ≤ sizeLine then .ok (.nd (mergeD (mergeD [] ks) ls)) else .no
def nMerge2 (fa fb : EF) : NF := fun s => (fa s).bind fun x => asDk x fun ks => (fb s).bind fun y => asDk y fun ls => merge2D ks ls
theorem length_putD (kvs : List (L2.Key × D)) (k : L2.Key) (d : D) : (putD kvs k d).length ≤ kvs.length + 1 := by
  unfold putD
  split
  · simp
  · simp
theorem length_mergeD : ∀ (more kvs : List (L2.Key × D)), (mergeD kvs more).length ≤ kvs.length + more.length
  | [], kvs => Nat.le_refl _
  | kv :: r, kvs => by
    have h1 := length_putD kvs kv.1 kv.2
    have h2 := length_mergeD r (putD kvs kv.1 kv.2)
    show (mergeD (putD kvs kv.1 kv.2) r).length ≤ _
    simp only [List.length_cons]
    omega
theorem post_more {mg : Str → Option Value} {σ : L2.St} {sd : SD} {n0 : Addr} {H Hx : Hp} {Qx : VK} {c : Str} {fs' : List (Str × D)} (s2 : Same H Hx) (p : ∀ cls da H', Same H H' → ExRep mg H' (Av F σ sd) c fs' cls da → W cls da σ H') :
    Post false mg W σ (Av ⟨F.H0, fun a => F.B a ∨ a = n0, F.S⟩ σ sd) (.ex c fs') Hx Qx := fun cls da H' s3 x => p cls da H' (s2.trans s3) (by
    rcases x with ⟨C, h1, h2, h3⟩ | x
    · exact .inl ⟨C, h1, h2, h3.imp_right fun ⟨d, ws, e1, e2, e3⟩ => ⟨d, ws, e1, e2, HoldsF.up (up_own fun a z => z.elim (fun z => .inl (.inl z)) .inr) _ e3⟩⟩
    · exact .inr x)
theorem dn_merge2 (ha : ∀ F, DE F X W a fa) (hb : ∀ F, DE F X W b fb) : DN F X W (.Dict [none, none] [a, b] pos) (nMerge2 fa fb) := ⟨⟨fun pins s σ H Q I ⟨sd, rel, p⟩ => by
  rw [arm_eval_Dict]
  refine wpAny_bind (wpAny_standAt ?_)
  show wpAny _ _ (dictDisplay [(none, do let x ← eval a X.env; standAt pos; pure x), (none, do let x ← eval b X.env; standAt pos; pure x)]) _ _ _
  refine dm_disp2 (knd := mixKind X.prog X.w) mix_noref ?_
  generalize hD : s.heap.objs.size = n0
  have hn : H n0 = none := I.hok.fresh (Nat.le_of_eq hD)
  have I1 : Inv X pins σ (upd H n0 (.dK [])) { s with heap := s.heap.push { cls := .type "dict", data := .dict #[] } } :=
    I.laid (a := n0) (o := .dK []) (t' := s.toks) (fun _ _ q => Heap.get?_push_of_some _ q) (Nat.le_of_eq hD) (by rw [← hD]; exact dk_empty s.heap I.big)
  have r1 := rel.more hn (same_upd (o := .dK []) hn) (by rw [upd_same]; simp)
  have avA : ∀ a, (Av F σ sd a ∨ a = n0) → Av ⟨F.H0, fun a => F.B a ∨ a = n0, F.S⟩ σ sd a := fun a z => z.elim (fun z => z.elim (fun z => .inl (.inl z)) .inr) fun z => .inl (.inr z)
  unfold nMerge2 at p
  cases q1 : fa sd with
  | no => rw [q1] at p; exact p.elim
  | ex c fs =>
    rw [q1] at p
    refine wpAny_bind (thn ((ha _).pe.run pins _ σ _ (fun _ _ => False) I1 ⟨sd, r1, by rw [q1]; exact post_more (same_upd hn) p⟩) fun u s1 hu => ?_)
    obtain ⟨_, _, _, _, z⟩ := hu
    exact z.elim
  | ok x =>
    rw [q1, R.bind_ok] at p
    refine wpAny_bind (thn ((ha _).pe.run pins _ σ _ (fun v H2 => Same (upd H n0 (.dK [])) H2 ∧ Holds H2 (Av ⟨F.H0, fun a => F.B a ∨ a = n0, F.S⟩ σ sd) x v) I1 ⟨sd, r1, by rw [q1]; exact fun v H2 s2 hv => ⟨s2, hv⟩⟩) fun u s1 hu => wpAny_bind (wpAny_standAt (wpAny_pure ?_)))
    obtain ⟨v, H2, I2, rv, s2, hv⟩ := hu
    cases x with
    | dk ks =>
      replace p : match ((fb sd).bind fun y => asDk y fun ls => merge2D ks ls) with
        | .ok n => ∀ p H', Same H H' → H p = none → H' p ≠ none → (∀ F' : Fr, F'.H0 p = none → SlOk F' H' (fun a => Av F σ sd a ∨ a = p) (some (.ref p)) n.sl) → Q (.ref p) H'
        | .ex c fs => Post false X.mg W σ (Av F σ sd) (.ex c fs) H Q
        | .no => False := p
      obtain ⟨a1, ws, rfl, na1, rd1, l1⟩ := hv
      cases rv
      obtain ⟨z1, hS1, vs1, kv1, dd1⟩ := dk_rd I2.hok rd1
      have e0 : H2 n0 = some (.dK []) := s2 _ _ upd_same
      obtain ⟨z0, hS0, vs0, kv0, dd0⟩ := dk_of I2.hok e0
      cases kv0
      refine ⟨a1, vs1, rfl, fun z => na1 (avA _ (.inr z.symm)), hS1, dd0, dd1, by rw [← kv1.length]; exact z1, fun h1 hd1 hs1 => ?_⟩
      have hl : (mergeK [] ws).length ≤ sizeLine := Nat.le_trans (length_mergeK ws []) (by simpa using z1)
      have I3 : Inv X pins σ (upd H2 n0 (.dK (mergeK [] ws))) { s1 with heap := h1 } := d_write (t' := s1.toks) I2 (by rw [e0]; exact True.intro) hs1 (let ⟨q, _, _, hq, _⟩ := hd1; ⟨q, hq⟩) (dk_new hl hS0 (kv1.merge .nil) hd1)
      have s3 : Same H (upd H2 n0 (.dK (mergeK [] ws))) := fun b o h => by
        rw [upd_ne (ne_of_none h hn)]; exact s2 _ _ (same_upd hn b o h)
      have r3 := rel.more hn s3 (by rw [upd_same]; simp)
      cases q2 : fb sd with
      | no => rw [q2] at p; exact p.elim
      | ex c fs =>
        rw [q2] at p
        refine wpAny_bind (thn ((hb _).pe.run pins _ σ _ (fun _ _ => False) I3 ⟨sd, r3, by rw [q2]; exact post_more s3 p⟩) fun u s1 hu => ?_)
        obtain ⟨_, _, _, _, z⟩ := hu
        exact z.elim
      | ok y =>
        rw [q2, R.bind_ok] at p
        refine wpAny_bind (thn ((hb _).pe.run pins _ σ _ (fun v H4 => Same (upd H2 n0 (.dK (mergeK [] ws))) H4 ∧ Holds H4 (Av ⟨F.H0, fun a => F.B a ∨ a = n0, F.S⟩ σ sd) y v) I3 ⟨sd, r3, by rw [q2]; exact fun v H2 s2 hv => ⟨s2, hv⟩⟩) fun u2 s4 hu2 => wpAny_bind (wpAny_standAt (wpAny_pure ?_)))
        obtain ⟨v2, H4, I4, rv2, s4', hv2⟩ := hu2
        cases y with
        | dk ls =>
          by_cases hz : ks.length + ls.length ≤ sizeLine
          · replace p : ∀ p H', Same H H' → H p = none → H' p ≠ none → (∀ F' : Fr, F'.H0 p = none → SlOk F' H' (fun a => Av F σ sd a ∨ a = p) (some (.ref p)) (.od (mergeD (mergeD [] ks) ls))) → Q (.ref p) H' := by
              unfold asDk merge2D at p
              simp only [hz, if_true] at p
              exact p
            obtain ⟨a2, ws2, rfl, na2, rd2, l2⟩ := hv2
            cases rv2
            obtain ⟨z2, hS2, vs2, kv2, dd2⟩ := dk_rd I4.hok rd2
            have e4 : H4 n0 = some (.dK (mergeK [] ws)) := s4' _ _ upd_same
            obtain ⟨z4, hS4, vs4, kv4, dd4⟩ := dk_of I4.hok e4
            have hz4 : (mergeK [] ws).length + ws2.length ≤ sizeLine := by
              have := length_mergeK ws []
              have h1 := l1.length
              have h2 := l2.length
              simp only [List.length_nil, Nat.zero_add] at this
              omega
            refine ⟨a2, vs4, vs2, rfl, fun z => na2 (avA _ (.inr z.symm)), hS2, dd4, dd2, by rw [← kv4.length, ← kv2.length]; exact hz4, fun h2 hd2 hs2 => ?_⟩
            have hl2 : (mergeK (mergeK [] ws) ws2).length ≤ sizeLine := Nat.le_trans (length_mergeK ws2 _) hz4
            have I5 : Inv X pins σ (upd H4 n0 (.dK (mergeK (mergeK [] ws) ws2))) { s4 with heap := h2 } := d_write (t' := s4.toks) I4 (by rw [e4]; exact True.intro) hs2 (let ⟨q, _, _, hq, _⟩ := hd2; ⟨q, hq⟩) (dk_new hl2 hS4 (kv2.merge kv4) hd2)
            have s5 : Same H (upd H4 n0 (.dK (mergeK (mergeK [] ws) ws2))) := fun b o h => by
              rw [upd_ne (ne_of_none h hn)]; exact s4' _ _ (s3 b o h)
            refine ⟨.ref n0, _, I5, rfl, p n0 _ s5 hn (by rw [upd_same]; simp) fun F' h0 => ⟨n0, _, rfl, h0, upd_same, ?_⟩⟩
            have offD : ∀ {Ha Hb : Hp}, (∀ b o, Ha b = some o → b ≠ n0 → Hb b = some o) → Up Ha (Av ⟨F.H0, fun a => F.B a ∨ a = n0, F.S⟩ σ sd) Hb (fun a => Av F σ sd a ∨ a = n0) := fun h => Up.ofOff (fun b o q n => h b o q fun z => n (avA _ (.inr z))) fun b z => .inl (avA b z)
            have m2 : HoldsK (upd H4 n0 (.dK (mergeK (mergeK [] ws) ws2))) (fun a => Av F σ sd a ∨ a = n0) ls ws2 := HoldsK.up (offD fun b o h hb => by rw [upd_ne hb]; exact h) _ l2
            have m1 : HoldsK (upd H4 n0 (.dK (mergeK (mergeK [] ws) ws2))) (fun a => Av F σ sd a ∨ a = n0) ks ws := HoldsK.up (offD fun b o h hb => by rw [upd_ne hb]; exact s4' _ _ (by rw [upd_ne hb]; exact h)) _ l1
            exact m2.merge (m1.merge (kvs := []) (ws := []) rfl)
          · exfalso
            unfold asDk merge2D at p
            simp only [hz, if_false] at p
        | _ => exact p.elim
    | _ => exact p.elim⟩⟩
end DS
set_option Elab.async false
set_option linter.all false
set_option maxRecDepth 100000
set_option maxHeartbeats 2000000
namespace DS
open PySem L2
variable {F : Fr} {X : Cx} {W : WX} {a b c e : Expr} {fa fb fc : EF} {pos : Pos} {st : Stmt} {sts : List Stmt} {f g : SF} {tt : TF} {es : List Expr} {fs : List EF}

/-! ### dict comprehensions -/
def lcD (g : GF) (t : TF) (ek ev : EF) (s0 : SD) : List (L2.Key × D) → List D → R (List (L2.Key × D))
  | acc, [] => .ok acc
  | acc, d :: ds => match g d s0 with
    | none => .no
    | some s1 => (noX (t s1)).bind fun b => if b = true then (noX (ek s1)).bind fun k => (noX (ev s1)).bind fun v => (match keyD k with
        | some kk => if acc.length < sizeLine then lcD g t ek ev s0 (putD acc kk v) ds else .no
        | none => .no) else lcD g t ek ev s0 acc ds
def nDc (it : IF) (g : GF) (t : TF) (ek ev : EF) (vs : List Nat) : NF := fun s => (it s).bind fun ds => (lcD g t ek ev (wipeS (blkS s) vs) [] ds).bind fun r => .ok (.nd r)
theorem noX_ok {α : Type} {r : R α} {x : α} (h : noX r = .ok x) : r = .ok x := by cases r <;> first | exact h | cases h
theorem lcD_ex {g : GF} {t : TF} {ek ev : EF} {s0 : SD} : ∀ {ds : List D} {acc c fs}, lcD g t ek ev s0 acc ds ≠ .ex c fs
  | [], _, _, _ => fun z => by cases z
  | d :: ds, acc, c, fs => fun z => by
    unfold lcD at z
    cases q : g d s0 with
    | none => rw [q] at z; cases z
    | some s1 =>
      rw [q] at z
      dsimp only at z
      cases q2 : t s1 with
      | no => rw [q2] at z; cases z
      | ex _ _ => rw [q2] at z; cases z
      | ok b =>
        rw [q2] at z
        simp only [noX, R.bind_ok] at z
        cases b with
        | false => rw [if_neg Bool.false_ne_true] at z; exact lcD_ex z
        | true =>
          rw [if_pos rfl] at z
          cases q3 : ek s1 with
          | no => rw [q3] at z; cases z
          | ex _ _ => rw [q3] at z; cases z
          | ok k =>
            rw [q3] at z
            simp only [noX, R.bind_ok] at z
            cases q4 : ev s1 with
            | no => rw [q4] at z; cases z
            | ex _ _ => rw [q4] at z; cases z
            | ok v =>
              rw [q4] at z
              simp only [noX, R.bind_ok] at z
              cases q5 : keyD k with
              | none => rw [q5] at z; cases z
              | some kk =>
                rw [q5] at z
                dsimp only at z
                by_cases hl : acc.length < sizeLine
                · rw [if_pos hl] at z; exact lcD_ex z
                · rw [if_neg hl] at z; cases z
theorem dn_dc {kx vx tg iter : Expr} {ifs : List Expr} {scope : Scope} (own : List (Str × Nat)) {fi : IF} {gg : GF} {tl : List Nat} {fk fe : EF} (hc : X.calm = true) (hN : X.N.Nodup) (hi : DI F X W tg iter fi) (ok : BlkOk X.N X.env.scope scope own)
    (hg : ∀ (F : Fr) (s : Shared) (H : Hp) (C : Addr) (cl : List (Str × Addr)) (fp : List Addr), DG F (X.blk s H scope (compEnvC scope cl C X.env) fp) tg gg tl)
    (ht : ∀ (F : Fr) (s : Shared) (H : Hp) (C : Addr) (cl : List (Str × Addr)) (fp : List Addr), DTs F (X.blk s H scope (compEnvC scope cl C X.env) fp) W0 ifs tt)
    (hk : ∀ (F : Fr) (s : Shared) (H : Hp) (C : Addr) (cl : List (Str × Addr)) (fp : List Addr), DE F (X.blk s H scope (compEnvC scope cl C X.env) fp) W0 kx fk)
    (he : ∀ (F : Fr) (s : Shared) (H : Hp) (C : Addr) (cl : List (Str × Addr)) (fp : List Addr), DE F (X.blk s H scope (compEnvC scope cl C X.env) fp) W0 vx fe)
    (hsub : ∀ i ∈ tl, i ∈ own.map (·.2)) (hs : ∀ x, foldedSetIterable iter X.env x = pure x := by intro _; rfl) :
    DN F X W (.DictComp kx vx [⟨tg, iter, ifs, 0⟩] scope pos) (nDc fi gg tt fk fe (own.map (·.2))) :=
  ⟨PE.weak (pe_dc hc hN hi.pi ok (fun s H C cl fp => PG.exF (t := fun F => TGx F gg tl) fun F => (hg F s H C cl fp).pg) (fun s H C cl fp => PTs.exF (t := fun F => TTx F X.mg W0 tt) fun F => (ht F s H C cl fp).pt) (fun s H C cl fp => PE.exF (t := fun F => TEx false F X.mg W0 fk) fun F => (hk F s H C cl fp).pe) (fun s H C cl fp => PE.exF (t := fun F => TEx false F X.mg W0 fe) fun F => (he F s H C cl fp).pe) hs) fun σ H Q ⟨sd, rel, p⟩ => ⟨sd, rel, by
    unfold nDc at p
    cases q : fi sd with
    | no => rw [q] at p; exact p
    | ex c fs => rw [q] at p; exact p
    | ok ds =>
      rw [q, R.bind_ok] at p
      intro J H1 s1 y D hD
      have rel1 := rel.mono s1
      generalize own.map (·.2) = vs at p hsub ⊢
      cases q2 : lcD gg tt fk fe (wipeS (blkS sd) vs) [] ds with
      | no => rw [q2] at p; exact p.elim
      | ex c fs => exact absurd q2 lcD_ex
      | ok out =>
        rw [q2, R.bind_ok] at p
        refine ⟨fun i m H' => m = ds.length - i ∧ i ≤ ds.length ∧ ∃ accD accV, H' D = some (.dK accV) ∧ HoldsK H' (fun a => Av F σ sd a ∨ a = D) accD accV ∧ Same H1 H' ∧ lcD gg tt fk fe (wipeS (blkS sd) vs) accD (ds.drop i) = .ok out,
          ⟨ds.length, rfl, Nat.zero_le _, [], [], upd_same, rfl, same_upd hD, q2⟩, ?_⟩
        rintro i m H2 ⟨rfl, hi, accD, accV, eD, hA, s2, er⟩
        have rb := (rel1.block hD s2 (by rw [eD]; simp)).wipe vs
        generalize hF : (⟨H1, fun a => Av F σ sd a ∨ a = D, 0⟩ : Fr) = F' at rb
        generalize hs0 : wipeS (blkS sd) vs = s0 at rb er ⊢
        have avB : ∀ {σ' : St} {sd' : SD} (a : Addr), (Av F σ sd a ∨ a = D) → Av F' σ' sd' a := fun a z => .inl (by rw [← hF]; exact z)
        have noAv : ∀ a, Av F' (L2.wipe σ vs) s0 a → Av F σ sd a ∨ a = D := fun a z => by
          rcases z with z | z
          · rw [← hF] at z; exact z
          · obtain ⟨j, s', e, o, _⟩ := z
            rw [← hs0] at e
            rw [wipeS_own sd vs j s' e] at o
            cases o
        have u2 : Up H1 (Av F σ sd) H2 (Av F' (L2.wipe σ vs) s0) := Up.ofOff (fun b o h _ => s2 _ _ h) fun b z => (noAv b z).imp_right fun z => by rw [z]; exact hD
        have yy := y i H2 (Av F' (L2.wipe σ vs) s0) u2 (fun b o h _ => s2 _ _ h) (fun a z => rb.dom z)
        by_cases hlt : i < ds.length
        · refine .inr ⟨(yy.1 hlt).1, fun H' => ∃ accD accV, H' D = some (.dK accV) ∧ HoldsK H' (fun a => Av F σ sd a ∨ a = D) accD accV ∧ Same H1 H' ∧ lcD gg tt fk fe s0 accD (ds.drop (i + 1)) = .ok out, fun H' h => ⟨ds.length - (i + 1), by omega, rfl, hlt, h⟩, fun x H3 yx => ?_⟩
          obtain ⟨s3, d, ed, hd⟩ := (yy.1 hlt).2 x H3 yx
          have edrop : ds.drop i = d :: ds.drop (i + 1) := by
            rw [List.drop_eq_getElem_cons hlt]
            congr 1
            rw [List.getElem?_eq_getElem hlt] at ed
            exact Option.some.inj ed
          rw [edrop] at er
          unfold lcD at er
          have r3 := rb.mono s3
          refine ⟨F', s0, d, r3, hd, ?_⟩
          cases q3 : gg d s0 with
          | none => rw [q3] at er; cases er
          | some s4 =>
            rw [q3] at er
            dsimp only at er
            intro σ4 r4 own4 off4
            refine ⟨wipe_wipe_off off4 hsub, F', s4, r4, ?_⟩
            cases q4 : tt s4 with
            | no => rw [q4] at er; cases er
            | ex c fs => rw [q4] at er; cases er
            | ok bb =>
              rw [q4] at er
              simp only [noX, R.bind_ok] at er
              intro H5 s5
              have r5 := r4.mono s5
              have s25 : Same H2 H5 := s3.trans s5
              cases bb with
              | false =>
                rw [if_neg Bool.false_ne_true] at er ⊢
                exact ⟨accD, accV, s25 _ _ eD, hA.same s25, s2.trans s25, er⟩
              | true =>
                rw [if_pos rfl] at er ⊢
                refine ⟨F', s4, r5, ?_⟩
                cases q5 : fk s4 with
                | no => rw [q5] at er; cases er
                | ex c fs => rw [q5] at er; cases er
                | ok kv =>
                  rw [q5] at er
                  simp only [noX, R.bind_ok] at er
                  intro v H6 s6 hv
                  have s26 : Same H2 H6 := s25.trans s6
                  refine ⟨F', s4, r5.mono s6, ?_⟩
                  cases q6 : fe s4 with
                  | no => rw [q6] at er; cases er
                  | ex c fs => rw [q6] at er; cases er
                  | ok yv =>
                    rw [q6] at er
                    simp only [noX, R.bind_ok] at er
                    intro z H7 s7 hz
                    have s27 : Same H2 H7 := s26.trans s7
                    cases q7 : keyD kv with
                    | none => rw [q7] at er; cases er
                    | some kk =>
                      rw [q7] at er
                      dsimp only at er
                      by_cases hl : accD.length < sizeLine
                      · rw [if_pos hl] at er
                        have hz' : Holds H7 (fun a => Av F σ sd a ∨ a = D) yv z := Holds.less hz fun a z => avB a z
                        refine ⟨accV, kk, keyD_v (Holds.b hv) q7, s27 _ _ eD, by rw [hA.length]; exact hl, putD accD kk yv, putK accV kk z, upd_same, ?_, fun b o h => ?_, er⟩
                        · have uD : Up H7 (fun a => Av F σ sd a ∨ a = D) (upd H7 D (.dK (putK accV kk z))) (fun a => Av F σ sd a ∨ a = D) := Up.ofOff (fun b q e n => by rw [upd_ne (fun z => n (.inr z))]; exact e) fun b z => .inl z
                          exact HoldsK.up uD _ ((hA.same s27).put kk hz')
                        · rw [upd_ne (ne_of_none h hD)]
                          exact (s2.trans s27) _ _ h
                      · rw [if_neg hl] at er; cases er
        · have ei : i = ds.length := by omega
          subst ei
          rw [List.drop_length] at er
          unfold lcD at er
          cases er
          refine .inl ⟨yy.2 (Nat.le_refl _), p D H2 (s1.trans s2) (s1.free hD) (by rw [eD]; simp) fun F2 h0 => ⟨D, accV, rfl, h0, eD, hA⟩⟩⟩⟩
end DS
set_option Elab.async false
set_option linter.all false
set_option maxRecDepth 100000
set_option maxHeartbeats 2000000
namespace DS
open PySem L2
variable {F : Fr} {X : Cx} {W : WX} {a b c e : Expr} {fa fb fc : EF} {pos : Pos} {st : Stmt} {sts : List Stmt} {f g : SF} {tt : TF} {es : List Expr} {fs : List EF}

theorem te1S {b b' : Bool} {fa : EF} {op : D → R D} {mg : Str → Option Value} {σ : L2.St} {H : Hp} {Q : VK} {r : V → Hp → Prop} {sd : SD} (rel : Rel F σ H sd)
    (p : Post b' mg W σ (Av F σ sd) ((fa sd).bind op) H Q)
    (hr : ∀ (d : D), fa sd = .ok d → ∀ (v : V) (H2 : Hp), Same H H2 → Rel F σ H2 sd → (if b = true then HoldsB H2 (Av F σ sd) d v else Holds H2 (Av F σ sd) d v) → Post b' mg W σ (Av F σ sd) (op d) H2 Q → r v H2) :
    TEx b F mg W fa σ H r := by
  refine ⟨sd, rel, ?_⟩
  cases q : fa sd with
  | ok d =>
    rw [q] at p
    intro v H2 s h
    exact hr d q v H2 s (rel.mono s) h (p.mono s)
  | ex c fs => rw [q] at p; exact p
  | no => rw [q] at p; exact p
/-! ### d.get(k, z) -/
def opGet (k : D) (kvs : List (L2.Key × D)) (z : D) : R D := match keyD k with
  | some kk => .ok ((valD kvs kk).getD z)
  | none => .no
def eGet2 (fa fb fc : EF) : EF := fun s => (fa s).bind fun x => asDk x fun kvs => (fb s).bind fun k => (fc s).bind fun z => opGet k kvs z
theorem de_get2 {o : Expr} {apos cpos : Pos} (hu : X.A.units + 64 < cLine) (ho : DB F X W o fa) (hb : DB F X W b fb) (hc : DE F X W c fc) (m : M2 X o "get" apos b c cpos := by exact ⟨rfl, rfl, rfl, rfl⟩) :
    DE F X W (.Call (.Attribute o "get" apos) [b, c] [] cpos) (eGet2 fa fb fc) :=
  ⟨PE.weak (pe_dget2 (by omega) ho.pe hb.pe hc.pe m) fun σ H Q ⟨sd, rel, p⟩ => te1S rel p fun d q v H1 s1 r1 hv p1 => by
    have hv : HoldsB H1 (Av F σ sd) d v := hv
    cases d with
    | dk kvs =>
      obtain ⟨a1, ws, rfl, rd, l⟩ := hv
      refine ⟨a1, rfl, .inl ⟨_, rd⟩, te1S (b' := false) r1 p1 fun k _ y H2 s2 r2 h1 p2 => te1S (b' := false) r2 p2 fun z _ w H3 s3 r3 h3 p3 => ?_⟩
      have h1 : HoldsB H2 (Av F σ sd) k y := h1
      unfold opGet at p3
      cases qk : keyD k with
      | none => rw [qk] at p3; exact p3.elim
      | some kk =>
        rw [qk] at p3
        have ev := keyD_v h1 qk
        refine ⟨valV ws kk, .inl ⟨ws, kk, rd_same (s2.trans s3) rd, ev, rfl⟩, p3 _ H3 (Same.refl H3) ?_⟩
        rcases (l.same (s2.trans s3)).val kk with ⟨e1, e2⟩ | ⟨d, v, e1, e2, hh⟩
        · rw [e1, e2]; exact h3
        · rw [e1, e2]; exact hh
    | _ => exact p1.elim⟩
def eGet1 (fa fb : EF) : EF := fun s => (fa s).bind fun x => asDk x fun kvs => (fb s).bind fun k => opGet k kvs .non
theorem de_get1 {o : Expr} {apos cpos : Pos} (hu : X.A.units + 64 < cLine) (ho : DB F X W o fa) (hb : DB F X W b fb) (m : M1 X o "get" apos b cpos := by exact ⟨rfl, rfl, rfl, rfl⟩) :
    DE F X W (.Call (.Attribute o "get" apos) [b] [] cpos) (eGet1 fa fb) :=
  ⟨PE.weak (pe_dget1 (by omega) ho.pe hb.pe m) fun σ H Q ⟨sd, rel, p⟩ => te1S rel p fun d q v H1 s1 r1 hv p1 => by
    have hv : HoldsB H1 (Av F σ sd) d v := hv
    cases d with
    | dk kvs =>
      obtain ⟨a1, ws, rfl, rd, l⟩ := hv
      refine ⟨a1, rfl, .inl ⟨_, rd⟩, te1S (b' := false) r1 p1 fun k _ y H2 s2 r2 h1 p3 => ?_⟩
      have h1 : HoldsB H2 (Av F σ sd) k y := h1
      unfold opGet at p3
      cases qk : keyD k with
      | none => rw [qk] at p3; exact p3.elim
      | some kk =>
        rw [qk] at p3
        have ev := keyD_v h1 qk
        refine ⟨valV ws kk, .inl ⟨ws, kk, rd_same s2 rd, ev, rfl⟩, p3 _ H2 (Same.refl H2) ?_⟩
        rcases (l.same s2).val kk with ⟨e1, e2⟩ | ⟨d, v, e1, e2, hh⟩
        · rw [e1, e2]; rfl
        · rw [e1, e2]; exact hh
    | _ => exact p1.elim⟩

/-! ### sorted -/
def sortI (ns : List Int) : List Int := ns.mergeSort fun a b => decide (a ≤ b)
theorem sortI_perm (ns : List Int) : (sortI ns).Perm ns := List.mergeSort_perm _ _
theorem sortI_pw (ns : List Int) : (sortI ns).Pairwise (· ≤ ·) := by
  have := List.pairwise_mergeSort (le := fun a b : Int => decide (a ≤ b)) (fun a b c h1 h2 => by simp only [decide_eq_true_eq] at *; omega) (fun a b => by simp only [Bool.or_eq_true, decide_eq_true_eq]; omega) ns
  exact this.imp fun h => by simpa using h
theorem sortI_uniq {ns ys : List Int} (p : ys.Perm ns) (w : ys.Pairwise (· ≤ ·)) : ys = sortI ns :=
  List.Perm.eq_of_pairwise (le := (· ≤ ·)) (fun a b _ _ h1 h2 => Int.le_antisymm h1 h2) w (sortI_pw ns) (p.trans (sortI_perm ns).symm)
def keysI : List (L2.Key × D) → Option (List Int)
  | [] => some []
  | (.inl i, _) :: r => (keysI r).map (i :: ·)
  | (.inr _, _) :: _ => none
theorem keysI_map : ∀ {kvs : List (L2.Key × D)} {ns : List Int}, keysI kvs = some ns → kvs.map (·.1) = ns.map Sum.inl
  | [], ns, h => by cases h; rfl
  | (.inl i, d) :: r, ns, h => by
    unfold keysI at h
    cases q : keysI r with
    | none => rw [q] at h; cases h
    | some ms =>
      rw [q] at h
      cases h
      simp only [List.map_cons]
      rw [keysI_map q]
  | (.inr _, _) :: _, _, h => by cases h
def opSorted : List D → R D
  | [.lst xs] => match intsD xs with
    | some ns => .ok (.lst ((sortI ns).map D.int))
    | none => .no
  | [.dk kvs] => match keysI kvs with
    | some ns => if ns.length < 64 then .ok (.lst ((sortI ns).map D.int)) else .no
    | none => .no
  | _ => .no
def rSortedA (K : PySem.W.Frag) : List V → Hp → VK → Prop := fun xs H Q => rSortedI K xs H Q ∨ (∃ (a : Addr) (kvs : List (Key × V)) (ks : List Int), xs = [.ref a] ∧ Rd H a (.dK kvs) ∧ kvs.map (·.1) = ks.map Sum.inl ∧ ks.length < 64 ∧ ∀ (ys : List Int) (p : Addr), ys.Perm ks → ys.Pairwise (· ≤ ·) → H p = none → Q (.ref p) (upd H p (.lst (ys.map V.int))))
theorem or_sorted (hc : X.calm = true) : CallR X (.builtin "sorted") (rSortedA X.K) := CallR.or cr_sortedI (call_sortedDI hc)
theorem ok_sorted {K : PySem.W.Frag} : CallOk (rSortedA K) opSorted := by
  intro mg W σ A ds vs H Q dm hv p
  unfold opSorted at p
  split at p
  · rename_i xs
    obtain ⟨v, r, rfl, h1, h2⟩ := hv
    cases h2
    obtain ⟨a, ws, rfl, rd, l⟩ := h1
    split at p
    · rename_i ns q
      have e := intsD_v q l
      subst e
      refine .inl ⟨a, ns, rfl, SqL.of rd, fun ns' p' pe pw hp => ?_⟩
      rw [sortI_uniq pe pw]
      exact new_lst dm p (HoldsL.ints _) p' hp
    · exact p.elim
  · rename_i kvs
    obtain ⟨v, r, rfl, h1, h2⟩ := hv
    cases h2
    obtain ⟨a, ws, rfl, rd, l⟩ := h1
    split at p
    · rename_i ns q
      by_cases hl : ns.length < 64
      · rw [if_pos hl] at p
        refine .inr ⟨a, ws, ns, rfl, rd, by rw [l.keys, keysI_map q], hl, fun ns' p' pe pw hp => ?_⟩
        rw [sortI_uniq pe pw]
        exact new_lst dm p (HoldsL.ints _) p' hp
      · rw [if_neg hl] at p; exact p.elim
    · exact p.elim
  · exact p.elim

/-! ### list(range(..)) -/
def rangeL (i j : Int) : List D := (List.range (j - i).toNat).map fun (k : Nat) => D.int (i + k)
def RgS (i j : Int) : Prop := i.natAbs < 2 ^ 61 ∧ j.natAbs < 2 ^ 61 ∧ (j - i).toNat ≤ sizeLine
instance (i j : Int) : Decidable (RgS i j) := by unfold RgS; infer_instance
theorem RgS.ok {i j : Int} (h : RgS i j) : RgOk i j := by
  obtain ⟨h1, h2, h3⟩ := h
  exact ⟨by omega, by omega, by omega, by omega, h3⟩
theorem holds_range {H : Hp} {A : Addr → Prop} {i : Int} : ∀ (l : List Nat), HoldsL H A (l.map fun (k : Nat) => D.int (i + k)) (l.map fun (k : Nat) => V.int (i + k))
  | [] => rfl
  | k :: l => ⟨_, _, rfl, rfl, holds_range l⟩
def nRg1 : List D → R ND
  | [.int n] => if RgS 0 n then .ok (.nl (rangeL 0 n)) else .no
  | _ => .no
def nRg2 : List D → R ND
  | [.int i, .int j] => if RgS i j then .ok (.nl (rangeL i j)) else .no
  | _ => .no
theorem nRg1_ex (ds : List D) (c : Str) (fs' : List (Str × D)) : nRg1 ds ≠ .ex c fs' := by unfold nRg1; split <;> (try split) <;> exact fun z => by cases z
theorem nRg2_ex (ds : List D) (c : Str) (fs' : List (Str × D)) : nRg2 ds ≠ .ex c fs' := by unfold nRg2; split <;> (try split) <;> exact fun z => by cases z
theorem tn1 {b : Bool} {op : D → R ND} {mg : Str → Option Value} {σ : L2.St} {H : Hp} {Q : VK} {r : V → Hp → Prop} {sd : SD} (rel : Rel F σ H sd)
    (hn : TNx F mg W (fun s => (fa s).bind op) σ H Q) : True := trivial
def PostN (mg : Str → Option Value) (W : WX) (F : Fr) (σ : L2.St) (sd : SD) (r : R ND) (H : Hp) (Q : VK) : Prop := match r with
  | .ok n => ∀ p H', Same H H' → H p = none → H' p ≠ none → (∀ F' : Fr, F'.H0 p = none → SlOk F' H' (fun a => Av F σ sd a ∨ a = p) (some (.ref p)) n.sl) → Q (.ref p) H'
  | .ex c fs => ∀ cls da H', Same H H' → ExRep mg H' (Av F σ sd) c fs cls da → W cls da σ H'
  | .no => False
theorem PostN.mono {mg : Str → Option Value} {σ : L2.St} {sd : SD} {r : R ND} {H H' : Hp} {Q : VK} (s : Same H H') (p : PostN mg W F σ sd r H Q) : PostN mg W F σ sd r H' Q := by
  cases r with
  | ok n => exact fun p' H2 s2 h1 h2 h3 => p p' H2 (s.trans s2) (s.free h1) h2 h3
  | ex c fs => exact fun cls da H2 s2 x => p cls da H2 (s.trans s2) x
  | no => exact p
theorem te1N {b : Bool} {fa : EF} {op : D → R ND} {mg : Str → Option Value} {σ : L2.St} {H : Hp} {Q : VK} {r : V → Hp → Prop} {sd : SD} (rel : Rel F σ H sd)
    (p : PostN mg W F σ sd ((fa sd).bind op) H Q)
    (hr : ∀ (d : D), fa sd = .ok d → ∀ (v : V) (H2 : Hp), Same H H2 → Rel F σ H2 sd → (if b = true then HoldsB H2 (Av F σ sd) d v else Holds H2 (Av F σ sd) d v) → PostN mg W F σ sd (op d) H2 Q → r v H2) :
    TEx b F mg W fa σ H r := by
  refine ⟨sd, rel, ?_⟩
  cases q : fa sd with
  | ok d =>
    rw [q] at p
    intro v H2 s h
    exact hr d q v H2 s (rel.mono s) h (p.mono s)
  | ex c fs => rw [q] at p; exact p
  | no => rw [q] at p; exact p
def nRange1 (fa : EF) : NF := fun s => (fa s).bind fun x => nRg1 [x]
def nRange2 (fa fb : EF) : NF := fun s => (fa s).bind fun x => (fb s).bind fun y => nRg2 [x, y]
theorem new_nl {mg : Str → Option Value} {σ : L2.St} {sd : SD} {H : Hp} {Q : VK} {ds : List D} {vs : List V} (rel : Rel F σ H sd) (p : PostN mg W F σ sd (.ok (.nl ds)) H Q) (l : HoldsL H (Av F σ sd) ds vs) (q : Addr) (hn : H q = none) : Q (.ref q) (upd H q (.lst vs)) :=
  p q _ (same_upd hn) hn (by rw [upd_same]; simp) fun F' h0 => slok_lst l (fun a z => rel.dom z) hn h0
theorem dn_listRg1 {p1 p2 pos2 : Pos} {x y : Str} (hx : x = "list") (hy : y = "range") (hc : X.calm = true) (hg : Gl X "list") (hm : X.mg "list" = none) (hg2 : Gl X "range") (hm2 : X.mg "range" = none) (ha : DB F X W a fa)
    (hs : starEach [.Call (.Name y p2) [a] [] pos2] X.env = (false, eval (.Call (.Name y p2) [a] [] pos2) X.env) :: starEach [] X.env := by rfl) (hs2 : starEach [a] X.env = (false, eval a X.env) :: starEach [] X.env := by rfl) :
    DN F X W (.Call (.Name x p1) [.Call (.Name y p2) [a] [] pos2] [] pos) (nRange1 fa) := by
  subst hx; subst hy
  exact ⟨PE.weak (pe_listRg hc hg hm (prg_1 hg2 hm2 ha.pe hs2) hs) fun σ H Q ⟨sd, rel, p⟩ => te1N rel p fun d q v H1 s1 r1 hv p1 => by
    unfold nRg1 at p1
    split at p1
    · rename_i n e
      cases e
      by_cases hr : RgS 0 n
      · rw [if_pos hr] at p1
        cases hv
        exact ⟨n, rfl, hr.ok, fun q' hq => new_nl r1 p1 (holds_range _) q' hq⟩
      · rw [if_neg hr] at p1; exact p1.elim
    · exact p1.elim⟩
theorem dn_listRg2 {p1 p2 pos2 : Pos} {x y : Str} (hx : x = "list") (hy : y = "range") (hc : X.calm = true) (hg : Gl X "list") (hm : X.mg "list" = none) (hg2 : Gl X "range") (hm2 : X.mg "range" = none) (ha : DB F X W a fa) (hb : DB F X W b fb)
    (hs : starEach [.Call (.Name y p2) [a, b] [] pos2] X.env = (false, eval (.Call (.Name y p2) [a, b] [] pos2) X.env) :: starEach [] X.env := by rfl) (hs2 : starEach [a, b] X.env = (false, eval a X.env) :: starEach [b] X.env := by rfl)
    (hs3 : starEach [b] X.env = (false, eval b X.env) :: starEach [] X.env := by rfl) (hs4 : (backTo pos2 (starEach [b] X.env)).any (·.1) = false := by rfl) :
    DN F X W (.Call (.Name x p1) [.Call (.Name y p2) [a, b] [] pos2] [] pos) (nRange2 fa fb) := by
  subst hx; subst hy
  exact ⟨PE.weak (pe_listRg hc hg hm (prg_2 hg2 hm2 ha.pe hb.pe hs2 hs3 hs4) hs) fun σ H Q ⟨sd, rel, p⟩ => te1N rel p fun d q v H1 s1 r1 hv p1 => te1N r1 p1 fun d2 q2 v2 H2 s2 r2 hv2 p2 => by
    unfold nRg2 at p2
    split at p2
    · rename_i i j e
      cases e
      by_cases hr : RgS i j
      · rw [if_pos hr] at p2
        cases hv
        cases hv2
        exact ⟨i, j, rfl, rfl, hr.ok, fun q' hq => new_nl r2 p2 (holds_range _) q' hq⟩
      · rw [if_neg hr] at p2; exact p2.elim
    · exact p2.elim⟩

/-! ### isinstance -/
inductive Tag where
  | non | bl | int | str | lst | tup | dk | ins (C : Addr) | exc (C : Addr) | oth
  deriving DecidableEq, Inhabited
def tagD : D → Tag
  | .non => .non
  | .bl _ => .bl
  | .int _ => .int
  | .str _ => .str
  | .scr _ => .lst
  | .lst _ => .lst
  | .tup _ => .tup
  | .dk _ => .dk
  | .ins C _ => .ins C
  | .kt _ _ => .oth
  | .exc _ C _ => .exc C
def Tag.ty : Tag → Value
  | .non => .type "NoneType"
  | .bl => .type "bool"
  | .int => .type "int"
  | .str => .type "str"
  | .lst => .type "list"
  | .tup => .type "tuple"
  | .dk => .type "dict"
  | .ins C => .ref C
  | .exc C => .ref C
  | .oth => .none
structure TyC (K : PySem.W.Frag) (C : Addr) : Prop where
  c : Cls K C
  f : PySem.W.findIn K (.ref C) "__class__" = some (some (.builtin "object.__class__"))
  g : PySem.W.specialIn K (.builtin "object.__class__") "__get__" = some (some (.builtin "getset_descriptor.__get__"))
  t : PySem.W.takesIn K (.builtin "object.__class__") = some true
  m : PySem.W.mroIn K C (.type "object") = some true
def TagOk (K : PySem.W.Frag) (u : Value) (tb : Tag × Bool) : Prop := PySem.W.kitOne K tb.1.ty u = some tb.2 ∧ match tb.1 with
  | .ins C => TyC K C
  | .exc _ => False
  | .oth => False
  | _ => True
theorem tag_ty {K : PySem.W.Frag} {u : Value} {H : Hp} {A : Addr → Prop} {d : D} {v : V} {x : Bool} (h : HoldsB H A d v) (o : TagOk K u (tagD d, x)) : TyX K H v (tagD d).ty := by
  cases d with
  | non => cases h; exact .base .non
  | bl b => cases h; exact .base (.bl _)
  | int b => cases h; exact .base (.int _)
  | str b => cases h; exact .base (.str _)
  | scr xs =>
    obtain ⟨a, rfl, _, r⟩ := h
    rcases r with r | ⟨o, r⟩
    · exact .base (.lst r)
    · exact .base (.frz r)
  | lst xs => obtain ⟨a, vs, rfl, r, _⟩ := h; exact .base (.lst r)
  | tup xs => obtain ⟨a, vs, rfl, _, r, _⟩ := h; exact .base (.tup r)
  | dk xs =>
    obtain ⟨a, vs, rfl, r, _⟩ := h
    rcases r with r | ⟨o, r⟩
    · exact .base (.dK r)
    · exact .fDict r
  | ins C fs => obtain ⟨a, dx, ws, rfl, r, _⟩ := h; exact .base (.ins r o.2.c o.2.f o.2.g o.2.t o.2.m)
  | kt T xs => exact o.2.elim
  | exc c C fs => exact o.2.elim
def opIsi (tb : List (Tag × Bool)) (d : D) : R D := match tb.lookup (tagD d) with
  | some b => .ok (.bl b)
  | none => .no
theorem lookup_mem {α β : Type} [BEq α] [LawfulBEq α] {k : α} {v : β} : ∀ {l : List (α × β)}, l.lookup k = some v → (k, v) ∈ l
  | (k', v') :: l, h => by
    rw [List.lookup_cons] at h
    split at h
    · rename_i e
      cases h
      rw [eq_of_beq e]
      exact .head _
    · exact .tail _ (lookup_mem h)
theorem de_isi {cv : V} {u : Value} {p1 : Pos} (tb : List (Tag × Bool)) (hg : Gl X "isinstance") (hm : X.mg "isinstance" = none) (ha : DB F X W a fa) (hb : PE X b (tC cv)) (hu : ClsV cv u) (ht : ∀ q ∈ tb, TagOk X.K u q)
    (hs : starEach [a, b] X.env = (false, eval a X.env) :: starEach [b] X.env := by rfl) (hs2 : starEach [b] X.env = (false, eval b X.env) :: starEach [] X.env := by rfl) (hpl : (backTo pos (starEach [b] X.env)).any (·.1) = false := by rfl) :
    DE F X W (.Call (.Name "isinstance" p1) [a, b] [] pos) (eUn (opIsi tb) fa) :=
  ⟨PE.weak (pe_callB call_isi hg hm (by decide +kernel) (pa_cons ha.pe (pa_cons hb pa_nil hs2) hs) (by decide) (by decide) hs hpl) fun σ H Q ⟨sd, rel, p⟩ => te1S rel p fun d q v H1 s1 r1 hv p1 => by
    have hv : HoldsB H1 (Av F σ sd) d v := hv
    unfold opIsi at p1
    cases ql : tb.lookup (tagD d) with
    | none => rw [ql] at p1; exact p1.elim
    | some bb =>
      rw [ql] at p1
      have o := ht _ (lookup_mem ql)
      exact ⟨v, cv, _, u, bb, rfl, hu, tag_ty hv o, o.1, p1 _ _ (Same.refl _) rfl⟩⟩
end DS
set_option Elab.async false
set_option linter.all false
set_option maxRecDepth 100000
set_option maxHeartbeats 2000000
namespace DS
open PySem L2
variable {F : Fr} {X : Cx} {W : WX} {a b c e : Expr} {fa fb fc : EF} {pos : Pos} {st : Stmt} {sts : List Stmt} {f g : SF} {tt : TF} {es : List Expr} {fs : List EF}

/-! ### special methods of one's own classes -/
structure GSp (P : Program) (w : World) (K : PySem.W.Frag) (mg : Str → Option Value) (base : Heap) (k : Nat) (m : Str) (C : Addr) (n : Nat) (g : List D → R D) : Prop where
  ex : ∃ f fd ps, FnOk P w K mg base (L2.CX P w) k f fd ps (spD mg n g) ∧ PySem.W.findIn K (.ref C) m = some (some (.ref f)) ∧ PySem.W.isFn K (.ref f) = true ∧ PySem.W.fnIn K f = true ∧ Binds K fd ps []
theorem run_fn1 {CX : CXT} {k : Nat} {f : Addr} {fd : FuncData} {ps : List Str} {sp : Sp} {E : L2.St → XK} {pins : List (Addr × Obj)} {σ : L2.St} {H : Hp} {s : Shared} {Q : VK} {us : List Value} {vs : List V} (F : FnOk X.prog X.w X.K X.mg X.base CX k f fd ps sp) (hr : Room (k + 1) X.A) (hb : Binds X.K fd ps []) (hx : PassesAt CX X σ (E σ))
    (I : Inv X pins σ H s) (r : Vals vs us) (h : sp vs H Q (E σ)) : wpAny (model X.prog X.w) X.A.in1 (call (.ref f) us) (EP X pins σ Q) X.xe s := by
  have hl : us.length = ps.length := by rw [← r.length]; exact F.len _ _ _ _ h
  have b := hb s us I.kIn (by rw [List.append_nil]; exact hl)
  rw [List.append_nil] at b
  refine wpAny_call (codeAny_mono (F.run X.A.in1 X.stack s H ⟨us, []⟩ us vs Q (E σ) hr.in1 I.env0.in1 b r h) fun r s' hq => ?_)
  cases r with
  | error e => exact hx pins H s e s' I hq
  | ok fl =>
    cases fl with
    | ret u => exact I.after hq
    | next => exact False.elim hq
    | brk => exact False.elim hq
    | cont => exact False.elim hq
theorem ins_inst {pins : List (Addr × Obj)} {σ : L2.St} {H : Hp} {s : Shared} {a C dx : Addr} {ws : List (Str × V)} (I : Inv X pins σ H s) (h : H a = some (.ins C dx ws)) : ∃ od, PySem.W.InstAt s.heap a (PySem.W.instObj C dx) C (some od) := by
  have q := I.hok a _ h
  simp only [ObjOk] at q
  obtain ⟨_, _, _, q, mA, n1, _⟩ := q
  have : ∃ od, s.heap.get? dx = some od := by
    obtain ⟨o, _, _, e, _⟩ := n1
    exact ⟨o, e⟩
  obtain ⟨od, hd⟩ := this
  exact ⟨od, q, rfl, rfl, hd⟩
def opSp2 (C : Addr) (g : List D → R D) (x y : D) : R D := match x with
  | .ins C' fs => if C' = C then g [.ins C' fs, y] else .no
  | _ => .no
/-- x[i], x an instance -/
theorem de_getI {C : Addr} {k k' : Nat} {gf : List D → R D} (G : GSp X.prog X.w X.K X.mg X.base k "__getitem__" C 2 gf) (hr : Room k' X.A) (tk : Takes X W) (ha : DE F X W a fa) (hb : DE F X W b fb) (hkk : k + 1 ≤ k' := by decide)
    (hs : ∀ v u, subscripted b true v u = runValue (.builtin "lifetime.subscript" ⟨[v, u], []⟩) := by intro _ _; with_unfolding_all rfl) : DE F X W (.Subscript a b pos) (eBin (opSp2 C gf) fa fb) := by
  obtain ⟨f, fd, ps, G, hf, hfn, hfi, hb2⟩ := G
  refine ⟨⟨fun pins s σ H Q I ⟨sd, rel, p⟩ => ?_⟩⟩
  refine PyProof.Rows.Subscript_ (binT ha.pe hb.pe I (R := fun x y H2 => ∃ a dx ws, x = .ref a ∧ H2 a = some (.ins C dx ws) ∧ spD X.mg 2 gf [x, y] H2 Q (WE W σ)) (te2s (b' := false) rel p fun d e q1 q2 v w H2 dm h1 h2 p2 => ?_) fun v u s2 x y H2 I2 rx ry q => ?_)
  · have h1 : Holds H2 (Av F σ sd) d v := h1
    cases d with
    | ins C' fs =>
      unfold opSp2 at p2
      dsimp only at p2
      by_cases hC : C' = C
      · rw [if_pos hC] at p2
        subst hC
        obtain ⟨a1, dx, ws, rfl, na, r, l⟩ := h1
        exact ⟨a1, dx, ws, rfl, r, rfl, [.ins C' fs, e], Av F σ sd, ⟨_, _, rfl, ⟨a1, dx, ws, rfl, na, r, l⟩, _, _, rfl, h2, rfl⟩, dm, PostD.of p2⟩
      · rw [if_neg hC] at p2; exact p2.elim
    | _ => exact p2.elim
  · obtain ⟨a1, dx, ws, rfl, r, q⟩ := q
    cases (show v = Value.ref a1 from rx)
    obtain ⟨od, J⟩ := ins_inst I2 r
    obtain ⟨m, hF⟩ := I2.fr
    exact PySem.W.sub_K (f := f) hF I2.ok.mod.kin J hf hfi hfn (run_fn1 (E := WE W) (us := [.ref a1, u]) (vs := [.ref a1, y]) G (hr.mono hkk) hb2 (passAt tk σ) I2 (.cons rfl (.cons ry .nil)) q) (hs _ _)
/-- x op y, both instances of C -/
def opSp22 (C : Addr) (g : List D → R D) (x y : D) : R D := match x, y with
  | .ins C' fs, .ins C2 gs => if C' = C ∧ C2 = C then g [.ins C' fs, .ins C2 gs] else .no
  | _, _ => .no
theorem de_binI {o : Operator} {C : Addr} {k k' : Nat} {gf : List D → R D} (G : GSp X.prog X.w X.K X.mg X.base k (PySem.dunder o.info.2) C 2 gf) (hc : PySem.W.selfFirst X.K C = true) (hr : Room k' X.A) (tk : Takes X W) (ha : DE F X W a fa) (hb : DE F X W b fb) (hkk : k ≤ k' := by decide) :
    DE F X W (.BinOp a o b pos) (eBin (opSp22 C gf) fa fb) := by
  obtain ⟨f, fd, ps, G, hf, hfn, hfi, hb2⟩ := G
  refine ⟨⟨fun pins s σ H Q I ⟨sd, rel, p⟩ => ?_⟩⟩
  refine wpAny_BinOp (binT ha.pe hb.pe I (R := fun x y H2 => ∃ a dx ws b dy wt, x = .ref a ∧ y = .ref b ∧ H2 a = some (.ins C dx ws) ∧ H2 b = some (.ins C dy wt) ∧ spD X.mg 2 gf [x, y] H2 Q (WE W σ)) (te2s (b' := false) rel p fun d e q1 q2 v w H2 dm h1 h2 p2 => ?_) fun v u s2 x y H2 I2 rx ry q => ?_)
  · have h1 : Holds H2 (Av F σ sd) d v := h1
    have h2 : Holds H2 (Av F σ sd) e w := h2
    unfold opSp22 at p2
    split at p2
    · rename_i C' fs C2 gs
      split at p2
      · rename_i hC
        obtain ⟨hC1, hC2⟩ := hC
        subst hC1; subst hC2
        have h1c := h1
        have h2c := h2
        obtain ⟨a1, dx, ws, rfl, na, r, l⟩ := h1
        obtain ⟨a2, dy, wt, rfl, na2, r2, l2⟩ := h2
        exact ⟨a1, dx, ws, a2, dy, wt, rfl, rfl, r, r2, rfl, [_, _], Av F σ sd, ⟨_, _, rfl, h1c, _, _, rfl, h2c, rfl⟩, dm, PostD.of p2⟩
      · exact p2.elim
    · exact p2.elim
  · obtain ⟨a1, dx, ws, b1, dy, wt, rfl, rfl, r, r2, q⟩ := q
    cases (show v = Value.ref a1 from rx)
    cases (show u = Value.ref b1 from ry)
    obtain ⟨od, J⟩ := ins_inst I2 r
    obtain ⟨od2, J2⟩ := ins_inst I2 r2
    obtain ⟨m, hF⟩ := I2.fr
    refine PySem.W.binop_K (f := f) hF I2.ok.mod.kin J J2.type hc hf hfn ?_
    refine wpAny_mono (run_fnS (E := WE W) (us := [.ref a1, .ref b1]) (vs := [.ref a1, .ref b1]) G (hr.mono hkk) hb2 (passAt tk σ) I2 (.cons rfl (.cons rfl .nil)) q) (fun w s' z => ?_) fun _ _ x => x
    obtain ⟨z', H', I', rz, qz⟩ := z
    exact SlX.cmpback rz ⟨z', H', I', rz, qz⟩
/-- ~x -/
def opSp1 (C : Addr) (g : List D → R D) (x : D) : R D := match x with
  | .ins C' fs => if C' = C then g [.ins C' fs] else .no
  | _ => .no
theorem de_inv {C : Addr} {k k' : Nat} {gf : List D → R D} (G : GSp X.prog X.w X.K X.mg X.base k "__invert__" C 1 gf) (hr : Room k' X.A) (tk : Takes X W) (ha : DE F X W a fa) (hkk : k ≤ k' := by decide) :
    DE F X W (.UnaryOp .Invert a pos) (eUn (opSp1 C gf) fa) := by
  obtain ⟨f, fd, ps, G, hf, hfn, hfi, hb2⟩ := G
  refine ⟨⟨fun pins s σ H Q I ⟨sd, rel, p⟩ => ?_⟩⟩
  refine PyProof.Rows.UnaryOp_ (thn (ha.pe.run pins s σ H (fun x H2 => ∃ a dx ws, x = .ref a ∧ H2 a = some (.ins C dx ws) ∧ spD X.mg 1 gf [x] H2 Q (WE W σ)) I (te1S rel p fun d q v H1 s1 r1 hv p1 => ?_)) fun v s1 ⟨x, H1, I1, r1, q1⟩ => ?_)
  · have hv : Holds H1 (Av F σ sd) d v := hv
    cases d with
    | ins C' fs =>
      unfold opSp1 at p1
      dsimp only at p1
      by_cases hC : C' = C
      · rw [if_pos hC] at p1
        subst hC
        obtain ⟨a1, dx, ws, rfl, na, r, l⟩ := hv
        exact ⟨a1, dx, ws, rfl, r, rfl, [.ins C' fs], Av F σ sd, ⟨_, _, rfl, ⟨a1, dx, ws, rfl, na, r, l⟩, rfl⟩, fun a z => r1.dom z, PostD.of p1⟩
      · rw [if_neg hC] at p1; exact p1.elim
    | _ => exact p1.elim
  · obtain ⟨a1, dx, ws, rfl, r, q⟩ := q1
    cases (show v = Value.ref a1 from r1)
    obtain ⟨od, J⟩ := ins_inst I1 r
    obtain ⟨m, hF⟩ := I1.fr
    exact PySem.W.ksp_inv (f := f) hF I1.ok.mod.kin J hf hfn (run_fnS (E := WE W) (us := [.ref a1]) (vs := [.ref a1]) G (hr.mono hkk) hb2 (passAt tk σ) I1 (.cons rfl .nil) q)
/-- x op k, x an instance, k a whole number -/
structure BinT (K : PySem.W.Frag) (C : Addr) (o : Operator) (T : String) : Prop where
  sf : PySem.W.selfFirst K C = true
  r : PySem.W.findIn K (.ref C) (PySem.dunderR o.info.2) = some none
  h1 : ∃ fo, PySem.W.findIn K (.type T) (PySem.dunder o.info.2) = some fo
  h2 : ∃ ro, PySem.W.findIn K (.type T) (PySem.dunderR o.info.2) = some ro
  sub : PySem.W.subIn K (.type T) (.ref C) = some false
def opSp2i (C : Addr) (g : List D → R D) (x y : D) : R D := match x, y with
  | .ins C' fs, .int i => if C' = C then g [.ins C' fs, .int i] else .no
  | _, _ => .no
theorem de_binT {o : Operator} {C : Addr} {k k' : Nat} {gf : List D → R D} (G : GSp X.prog X.w X.K X.mg X.base k (PySem.dunder o.info.2) C 2 gf) (hc : BinT X.K C o "int") (hr : Room k' X.A) (tk : Takes X W) (ha : DE F X W a fa) (hb : DE F X W b fb) (hkk : k ≤ k' := by decide) :
    DE F X W (.BinOp a o b pos) (eBin (opSp2i C gf) fa fb) := by
  obtain ⟨f, fd, ps, G, hf, hfn, hfi, hb2⟩ := G
  refine ⟨⟨fun pins s σ H Q I ⟨sd, rel, p⟩ => ?_⟩⟩
  refine wpAny_BinOp (binT ha.pe hb.pe I (R := fun x y H2 => ∃ a dx ws i, x = .ref a ∧ y = .int i ∧ H2 a = some (.ins C dx ws) ∧ spD X.mg 2 gf [x, y] H2 Q (WE W σ)) (te2s (b' := false) rel p fun d e q1 q2 v w H2 dm h1 h2 p2 => ?_) fun v u s2 x y H2 I2 rx ry q => ?_)
  · have h1 : Holds H2 (Av F σ sd) d v := h1
    have h2 : Holds H2 (Av F σ sd) e w := h2
    unfold opSp2i at p2
    split at p2
    · rename_i C' fs i
      split at p2
      · rename_i hC
        subst hC
        have h1c := h1
        obtain ⟨a1, dx, ws, rfl, na, r, l⟩ := h1
        have h2c := h2
        cases h2
        exact ⟨a1, dx, ws, _, rfl, rfl, r, rfl, [_, _], Av F σ sd, ⟨_, _, rfl, h1c, _, _, rfl, h2c, rfl⟩, dm, PostD.of p2⟩
      · exact p2.elim
    · exact p2.elim
  · obtain ⟨a1, dx, ws, i, rfl, rfl, r, q⟩ := q
    cases (show v = Value.ref a1 from rx)
    obtain ⟨t, rfl⟩ := (show ∃ t, u = Value.int i t from ry)
    obtain ⟨od, J⟩ := ins_inst I2 r
    obtain ⟨m, hF⟩ := I2.fr
    obtain ⟨fo, h1⟩ := hc.h1
    obtain ⟨ro, h2⟩ := hc.h2
    refine PySem.W.ksp_binT (f := f) (T := "int") hF I2.ok.mod.kin J rfl hc.sf hf hfn hc.r (.inl rfl) h1 h2 hc.sub ?_
    refine wpAny_mono (run_fnS (E := WE W) (us := [.ref a1, .int i t]) (vs := [.ref a1, .int i]) G (hr.mono hkk) hb2 (passAt tk σ) I2 (.cons rfl (.cons ⟨t, rfl⟩ .nil)) q) (fun w s' z => ?_) fun _ _ x => x
    obtain ⟨z', H', I', rz, qz⟩ := z
    exact SlX.cmpback rz ⟨z', H', I', rz, qz⟩
end DS
set_option Elab.async false
set_option linter.all false
set_option maxRecDepth 100000
set_option maxHeartbeats 2000000
namespace DS
open PySem L2
variable {F : Fr} {X : Cx} {W : WX} {a b c e : Expr} {fa fb fc : EF} {pos : Pos} {st : Stmt} {sts : List Stmt} {f g : SF} {tt : TF} {es : List Expr} {fs : List EF}

/-! ### return [x.pop(e) for .. in ..], x one's own list -/
def offA (H : Hp) (a : Addr) : Hp := fun b => if b = a then none else H b
theorem offA_ne {H : Hp} {a b : Addr} (h : b ≠ a) : offA H a b = H b := if_neg h
theorem offA_same {H : Hp} {a b : Addr} {o : HO} (h : offA H a b = some o) : b ≠ a ∧ H b = some o := by
  unfold offA at h
  by_cases z : b = a
  · rw [if_pos z] at h; cases h
  · rw [if_neg z] at h; exact ⟨z, h⟩
theorem Rel.blockE {σ : L2.St} {H H' : Hp} {sd : SD} {D a : Addr} {i : Nat} {ds0 : List DS.D} (rel : Rel F σ H sd) (q : sd[i]? = some (.ol ds0)) (ea : σ[i]? = some (some (.ref a))) (hD : H D = none) (s : Same (offA H a) H') (hD' : H' D ≠ none) (ha' : H' a ≠ none) :
    Rel ⟨offA H a, fun b => Av F σ sd b ∨ b = D, 0⟩ σ H' ((blkS sd).set i .un) := by
  have own : OwnAt σ sd i a := ⟨_, q, rfl, ea⟩
  have ava : Av F σ sd a := .inr ⟨i, own⟩
  have h0 : F.H0 a = none := (rel.odom ⟨i, own⟩).2
  have noown : ∀ j b, ¬ OwnAt σ ((blkS sd).set i .un) j b := fun j b ⟨t, e, o, _⟩ => by
    by_cases hj : i = j
    · subst hj
      rw [List.getElem?_set] at e
      simp only [if_true] at e
      split at e
      · cases e; cases o
      · cases e
    · rw [List.getElem?_set_ne hj] at e
      unfold blkS at e
      rw [List.getElem?_map, Option.map_eq_some_iff] at e
      obtain ⟨t', _, rfl⟩ := e
      rw [bwS_own] at o
      cases o
  have av : ∀ b, Av ⟨offA H a, fun b => Av F σ sd b ∨ b = D, 0⟩ σ ((blkS sd).set i .un) b → Av F σ sd b ∨ b = D := fun b z => z.elim id fun ⟨i, z⟩ => absurd z (noown i b)
  have s' : ∀ b o, H b = some o → ¬ Av F σ sd b → H' b = some o := fun b o h n => s b o (by rw [offA_ne fun z => n (by rw [z]; exact ava)]; exact h)
  have nn : ∀ b, Av ⟨offA H a, fun b => Av F σ sd b ∨ b = D, 0⟩ σ ((blkS sd).set i .un) b → Av F σ sd b ∨ H b = none := fun b z => (av b z).imp_right fun z => by rw [z]; exact hD
  have u : Up H (Av F σ sd) H' (Av ⟨offA H a, fun b => Av F σ sd b ∨ b = D, 0⟩ σ ((blkS sd).set i .un)) := Up.ofOff s' nn
  have u0 : Up H (Av F σ sd) (offA H a) (Av ⟨offA H a, fun b => Av F σ sd b ∨ b = D, 0⟩ σ ((blkS sd).set i .un)) := Up.ofOff (fun b o h n => by rw [offA_ne fun z => n (by rw [z]; exact ava)]; exact h) nn
  have sF : Same F.H0 (offA H a) := fun b o h => by
    rw [offA_ne fun z => by rw [z, h0] at h; cases h]
    exact rel.same b o h
  have k : ∀ b, offA H a b ≠ none → ¬ Av F σ sd b → ¬ Av ⟨offA H a, fun b => Av F σ sd b ∨ b = D, 0⟩ σ ((blkS sd).set i .un) b := fun b h n => u0.off b (fun z => h (by
    unfold offA
    by_cases z2 : b = a
    · rw [if_pos z2]
    · rw [if_neg z2]; exact z)) n
  refine ⟨s, by simp [blkS, rel.len], fun j t e => ?_, fun i j b h1 _ => absurd h1 (noown i b), fun b ⟨i, z⟩ => absurd z (noown i b), fun b z => z.elim (fun z w => ?_) fun z => by rw [z]; exact hD'⟩
  · by_cases hj : i = j
    · subst hj
      rw [List.getElem?_set] at e
      simp only [if_true] at e
      split at e
      · cases e; exact ⟨_, ea, trivial⟩
      · cases e
    · rw [List.getElem?_set_ne hj] at e
      unfold blkS at e
      rw [List.getElem?_map, Option.map_eq_some_iff] at e
      obtain ⟨t', e, rfl⟩ := e
      obtain ⟨v, ev, h⟩ := rel.slot j t' e
      refine ⟨v, ev, ?_⟩
      cases t' with
      | un => trivial
      | xc => trivial
      | sh d => obtain ⟨x, e, h⟩ := h; exact ⟨x, e, Holds.up u d h⟩
      | bw d => obtain ⟨x, e, h⟩ := h; exact ⟨x, e, HoldsB.less k (HoldsB.same sF h)⟩
      | ol ds =>
        obtain ⟨a', vs, e2, n, r, l⟩ := h
        have ne : a' ≠ a := fun z => hj (rel.inj i j a own ⟨_, e, rfl, by rw [ev, e2, z]⟩)
        exact ⟨_, e2, (show HoldsB (offA H a) _ (.lst ds) _ from ⟨a', vs, rfl, by rw [offA_ne ne]; exact r, HoldsL.up u0 _ l⟩)⟩
      | od ds =>
        obtain ⟨a', vs, e2, n, r, l⟩ := h
        have ne : a' ≠ a := fun z => hj (rel.inj i j a own ⟨_, e, rfl, by rw [ev, e2, z]⟩)
        exact ⟨_, e2, (show HoldsB (offA H a) _ (.dk ds) _ from ⟨a', vs, rfl, .inl (by rw [offA_ne ne]; exact r), HoldsK.up u0 _ l⟩)⟩
      | oi C ds =>
        obtain ⟨a', dx, vs, e2, n, r, l⟩ := h
        have ne : a' ≠ a := fun z => hj (rel.inj i j a own ⟨_, e, rfl, by rw [ev, e2, z]⟩)
        exact ⟨_, e2, (show HoldsB (offA H a) _ (.ins C ds) _ from ⟨a', dx, vs, rfl, by rw [offA_ne ne]; exact r, HoldsF.up u0 _ l⟩)⟩
  · by_cases hz : b = a
    · rw [hz] at w; exact ha' w
    · cases qb : H b with
      | none => exact rel.dom z qb
      | some o => rw [s b o (by rw [offA_ne hz]; exact qb)] at w; cases w
def popI (ds : List D) (k : Int) : Option (D × List D) := if k.natAbs < 2 ^ 61 then match seqIndex? k ds.length with
  | some n => match ds[n]? with
    | some y => some (y, ds.eraseIdx n)
    | none => none
  | none => none
  else none
def popL (g : GF) (ei : EF) (s0 : SD) : List D → List D → R (List D)
  | cur, [] => .ok []
  | cur, d :: js => match g d s0 with
    | none => .no
    | some s1 => (noX (ei s1)).bind fun k => match k with
      | .int k => match popI cur k with
        | some (y, cur') => (popL g ei s0 cur' js).bind fun r => .ok (y :: r)
        | none => .no
      | _ => .no
def sRetPop (i : Nat) (it : IF) (g : GF) (ei : EF) (vs : List Nat) : SF := fun s => match s[i]? with
  | some (.ol ds) => match it s with
    | .ok js => match popL g ei (wipeS ((blkS s).set i .un) vs) ds js with
      | .ok r => if r.length ≤ sizeLine then .rt (.lst r) else .no
      | _ => .no
    | _ => .no
  | _ => .no
theorem wipeS_own' {sd : SD} (h : ∀ (b : Nat) (s' : Sl), sd[b]? = some s' → s'.own = false) : ∀ (vs : List Nat) (b : Nat) (s' : Sl), (wipeS sd vs)[b]? = some s' → s'.own = false
  | [], b, s', e => h b s' e
  | v :: vs, b, s', e => by
    unfold wipeS at e
    rw [List.getElem?_set] at e
    split at e
    · split at e
      · cases e; rfl
      · cases e
    · exact wipeS_own' h vs b s' e
theorem ds_retPop (i : Nat) {x : Str} {px apos cpos : Pos} {tg iter : Expr} {scope : Scope} (own : List (Str × Nat)) {fi : IF} {gg : GF} {tl : List Nat} {fe : EF} {lpos : Pos} (hc : X.calm = true) (hN : X.N.Nodup) (hi : DI F X W tg iter fi) (ok : BlkOk X.N X.env.scope scope own)
    (hg : ∀ (F : Fr) (s : Shared) (H : Hp) (C : Addr) (cl : List (Str × Addr)) (fp : List Addr), DG F (X.blk s H scope (compEnvC scope cl C X.env) fp) tg gg tl)
    (hx : ∀ (s : Shared) (H : Hp) (C : Addr) (cl : List (Str × Addr)) (fp : List Addr), PE (X.blk s H scope (compEnvC scope cl C X.env) fp) (.Name x px) (tVar i))
    (he : ∀ (F : Fr) (s : Shared) (H : Hp) (C : Addr) (cl : List (Str × Addr)) (fp : List Addr), DE F (X.blk s H scope (compEnvC scope cl C X.env) fp) W0 e fe)
    (hsub : ∀ j ∈ tl, j ∈ own.map (·.2)) (hni : i ∉ own.map (·.2)) (hnt : i ∉ tl)
    (hbase : ∀ (s : Shared) (H : Hp) (C : Addr) (cl : List (Str × Addr)) (fp : List Addr), attributeBase (.Name x px) "pop" (X.blk s H scope (compEnvC scope cl C X.env) fp).env (eval (.Name x px) (X.blk s H scope (compEnvC scope cl C X.env) fp).env) = eval (.Name x px) (X.blk s H scope (compEnvC scope cl C X.env) fp).env := by intros; rfl)
    (hfew : ∀ (s : Shared) (H : Hp) (C : Addr) (cl : List (Str × Addr)) (fp : List Addr), ((backTo cpos (starEach [e] (X.blk s H scope (compEnvC scope cl C X.env) fp).env)).all (fun x => !x.1) && (backToKw cpos (keywordEach [] (X.blk s H scope (compEnvC scope cl C X.env) fp).env)).all (fun x => x.1.isSome)
      && decide (([e] : List Expr).length + ([] : List Keyword).length + (if ([] : List Keyword).isEmpty then 0 else 1) < 30)) = true := by intros; rfl)
    (hline : (apos.endLine == cpos.line) = true := by rfl)
    (hs1 : ∀ (s : Shared) (H : Hp) (C : Addr) (cl : List (Str × Addr)) (fp : List Addr), starEach [e] (X.blk s H scope (compEnvC scope cl C X.env) fp).env = (false, eval e (X.blk s H scope (compEnvC scope cl C X.env) fp).env) :: starEach [] (X.blk s H scope (compEnvC scope cl C X.env) fp).env := by intros; rfl)
    (hpl : ∀ (s : Shared) (H : Hp) (C : Addr) (cl : List (Str × Addr)) (fp : List Addr), (backTo cpos (starEach [] (X.blk s H scope (compEnvC scope cl C X.env) fp).env)).any (·.1) = false := by intros; rfl)
    (hs : ∀ x, foldedSetIterable iter X.env x = pure x := by intro _; rfl) :
    DX1 F X W (.Return (some (.ListComp (.Call (.Attribute (.Name x px) "pop" apos) [e] [] cpos) [⟨tg, iter, [], 0⟩] scope lpos)) pos) (sRetPop i fi gg fe (own.map (·.2))) :=
  ⟨PS.weak (ps_ret (pe_lc (te := tBM X.K "list" rPopAt (tVar i) (tCons (fun σ H Q => ∃ F, TEx false F X.mg W0 fe σ H Q) tNil)) hc hN hi.pi ok (fun s H C cl fp => PG.exF (t := fun F => TGx F gg tl) fun F => (hg F s H C cl fp).pg) (fun s H C cl fp => pts_nil)
      (fun s H C cl fp => pe_bm PySem.F.plainAttrs_list PySem.F.slot_list_pop PySem.F.type_list_pop mt_popAt (hx s H C cl fp) (pa_cons (PE.exF (t := fun F => TEx false F X.mg W0 fe) fun F => (he F s H C cl fp).pe) pa_nil (hs1 s H C cl fp)) (hbase s H C cl fp) (hfew s H C cl fp) hline (hs1 s H C cl fp) (hpl s H C cl fp)) hs)) fun T σ H ⟨sd, rel, p⟩ => by
    unfold sRetPop at p
    split at p
    · rename_i ds0 qi
      split at p
      · rename_i js qj
        split at p
        · rename_i out qo
          split at p
          · rename_i hz
            refine ⟨sd, rel, ?_⟩
            rw [qj]
            intro J H1 s1 y D hD
            have rel1 := rel.mono s1
            generalize own.map (·.2) = vs at hsub hni qo ⊢
            obtain ⟨a, lv, ea, n0, ra, la, ava⟩ := own_slot rel1 qi
            have hDa : D ≠ a := fun z => by rw [z, ra] at hD; cases hD
            refine ⟨fun k m H' => m = js.length - k ∧ k ≤ js.length ∧ ∃ accD accV curD curV rest, H' D = some (.lst accV) ∧ H' a = some (.lst curV) ∧ HoldsL H' (fun a => Av F σ sd a ∨ a = D) accD accV ∧ HoldsL H' (fun a => Av F σ sd a ∨ a = D) curD curV ∧ Same (offA H1 a) H' ∧ popL gg fe (wipeS ((blkS sd).set i .un) vs) curD (js.drop k) = .ok rest ∧ out = accD ++ rest,
              ⟨js.length, rfl, Nat.zero_le _, [], [], ds0, lv, out, upd_same, by rw [upd_ne (Ne.symm hDa)]; exact ra, rfl, ?_, fun b o h => by rw [upd_ne (ne_of_none (offA_same h).2 hD)]; exact (offA_same h).2, qo, rfl⟩, ?_⟩
            · exact HoldsL.up (Up.ofOff (fun b o h _ => same_upd hD b o h) fun b z => z.imp_right fun z => by rw [z]; exact hD) _ la
            rintro k m H2 ⟨rfl, hk, accD, accV, curD, curV, rest, eD, ea2, hA, hC, s2, er, eo⟩
            have rb := (rel1.blockE qi ea hD s2 (by rw [eD]; simp) (by rw [ea2]; simp)).wipe vs
            generalize hF : (⟨offA H1 a, fun b => Av F σ sd b ∨ b = D, 0⟩ : Fr) = F' at rb
            have hun : (wipeS ((blkS sd).set i .un) vs)[i]? = (wipeS ((blkS sd).set i .un) vs)[i]? := rfl
            have noown : ∀ (b : Nat) (s' : Sl), (wipeS ((blkS sd).set i .un) vs)[b]? = some s' → s'.own = false := fun b s' e => wipeS_own' (fun b s' e => by
              rw [List.getElem?_set] at e
              split at e
              · split at e
                · cases e; rfl
                · cases e
              · unfold blkS at e
                rw [List.getElem?_map, Option.map_eq_some_iff] at e
                obtain ⟨t', _, rfl⟩ := e
                exact bwS_own t') vs b s' e
            generalize hs0 : wipeS ((blkS sd).set i .un) vs = s0 at rb er noown ⊢
            have avB : ∀ {σ' : L2.St} {sd' : SD} (b : Addr), (Av F σ sd b ∨ b = D) → Av F' σ' sd' b := fun a z => .inl (by rw [← hF]; exact z)
            have noAv : ∀ b, Av F' (L2.wipe σ vs) s0 b → Av F σ sd b ∨ b = D := fun a z => by
              rcases z with z | z
              · rw [← hF] at z; exact z
              · obtain ⟨j, s', e, o, _⟩ := z
                rw [noown j s' e] at o
                cases o
            have off2 : ∀ b o, H1 b = some o → ¬ Av F σ sd b → H2 b = some o := fun b o h n => s2 b o (by rw [offA_ne fun z => n (by rw [z]; exact ava)]; exact h)
            have u2 : Up H1 (Av F σ sd) H2 (Av F' (L2.wipe σ vs) s0) := Up.ofOff off2 fun b z => (noAv b z).imp_right fun z => by rw [z]; exact hD
            have yy := y k H2 (Av F' (L2.wipe σ vs) s0) u2 off2 (fun a z => rb.dom z)
            by_cases hlt : k < js.length
            · refine .inr ⟨(yy.1 hlt).1, fun H' => ∃ accD accV curD curV rest, H' D = some (.lst accV) ∧ H' a = some (.lst curV) ∧ HoldsL H' (fun a => Av F σ sd a ∨ a = D) accD accV ∧ HoldsL H' (fun a => Av F σ sd a ∨ a = D) curD curV ∧ Same (offA H1 a) H' ∧ popL gg fe s0 curD (js.drop (k + 1)) = .ok rest ∧ out = accD ++ rest, fun H' h => ⟨js.length - (k + 1), by omega, rfl, hlt, h⟩, fun x H3 yx => ?_⟩
              obtain ⟨s3, d, ed, hd⟩ := (yy.1 hlt).2 x H3 yx
              have edrop : js.drop k = d :: js.drop (k + 1) := by
                rw [List.drop_eq_getElem_cons hlt]
                congr 1
                rw [List.getElem?_eq_getElem hlt] at ed
                exact Option.some.inj ed
              rw [edrop] at er
              unfold popL at er
              have r3 := rb.mono s3
              refine ⟨F', s0, d, r3, hd, ?_⟩
              cases q3 : gg d s0 with
              | none => rw [q3] at er; cases er
              | some s4 =>
                rw [q3] at er
                dsimp only at er
                intro σ4 r4 own4 off4
                refine ⟨wipe_wipe_off off4 hsub, ?_⟩
                show tBM X.K "list" rPopAt (tVar i) (tCons (fun σ H Q => ∃ F, TEx false F X.mg W0 fe σ H Q) tNil) σ4 H3 _
                have e4 : σ4[i]? = some (some (.ref a)) := by
                  rw [off4.2 i hnt, wipe_get, if_neg (fun z => hni z.1)]
                  exact ea
                refine ⟨_, e4, .inl ⟨rfl, curV, SqL.of (s3 _ _ ea2)⟩, F', s4, r4, ?_⟩
                cases q5 : fe s4 with
                | no => rw [q5] at er; cases er
                | ex c fs => rw [q5] at er; cases er
                | ok yv =>
                  rw [q5] at er
                  simp only [noX, R.bind_ok] at er
                  intro v H6 s6 hv
                  have s26 : Same H2 H6 := s3.trans s6
                  cases yv with
                  | int kk =>
                    dsimp only at er
                    cases hv
                    unfold popI at er
                    by_cases hb : kk.natAbs < 2 ^ 61
                    · rw [if_pos hb] at er
                      cases qs : seqIndex? kk curD.length with
                      | none => rw [qs] at er; cases er
                      | some nn =>
                        rw [qs] at er
                        dsimp only at er
                        cases qn : curD[nn]? with
                        | none => rw [qn] at er; cases er
                        | some yd =>
                          rw [qn] at er
                          dsimp only at er
                          have hC6 := hC.same s26
                          obtain ⟨yw, ew, hw⟩ := hC6.get qn
                          cases q6 : popL gg fe s0 (curD.eraseIdx nn) (js.drop (k + 1)) with
                          | no => rw [q6] at er; cases er
                          | ex c fs => rw [q6] at er; cases er
                          | ok r =>
                            rw [q6] at er
                            cases er
                            refine ⟨a, curV, kk, nn, yw, rfl, rfl, s26 _ _ ea2, by omega, by omega, by rw [hC.length]; exact qs, ew, ?_⟩
                            have hl := hA.length
                            have hlen : accD.length < out.length := by rw [eo]; simp
                            refine ⟨accV, by rw [upd_ne hDa]; exact s26 _ _ eD, by omega, accD ++ [yd], accV ++ [yw], curD.eraseIdx nn, curV.eraseIdx nn, r, upd_same, ?_, ?_, ?_, fun b o h => ?_, q6, by rw [eo]; simp⟩
                            · rw [upd_ne (Ne.symm hDa), upd_same]
                            · have uD : Up H6 (fun a => Av F σ sd a ∨ a = D) (upd (upd H6 a (.lst (curV.eraseIdx nn))) D (.lst (accV ++ [yw]))) (fun a => Av F σ sd a ∨ a = D) := Up.ofOff (fun b q e n => by rw [upd_ne (fun z => n (.inr z)), upd_ne (fun z => n (.inl (by rw [z]; exact ava)))]; exact e) fun b z => .inl z
                              exact HoldsL.up uD _ ((hA.same s26).snoc hw)
                            · have uD : Up H6 (fun a => Av F σ sd a ∨ a = D) (upd (upd H6 a (.lst (curV.eraseIdx nn))) D (.lst (accV ++ [yw]))) (fun a => Av F σ sd a ∨ a = D) := Up.ofOff (fun b q e n => by rw [upd_ne (fun z => n (.inr z)), upd_ne (fun z => n (.inl (by rw [z]; exact ava)))]; exact e) fun b z => .inl z
                              exact HoldsL.up uD _ (hC6.eraseIdx nn)
                            · rw [upd_ne (ne_of_none (offA_same h).2 hD), upd_ne (offA_same h).1]
                              exact (s2.trans s26) _ _ h
                    · rw [if_neg hb] at er; cases er
                  | _ => cases er
            · have ei : k = js.length := by omega
              subst ei
              rw [List.drop_length] at er
              unfold popL at er
              cases er
              rw [List.append_nil] at eo
              subst eo
              have sF : Same F.H0 H2 := fun b o h => s2 b o (by rw [offA_ne fun z => by rw [z, n0] at h; cases h]; exact rel1.same b o h)
              refine .inl ⟨yy.2 (Nat.le_refl _), p (.ref D) H2 sF ⟨D, accV, rfl, fun z => rel1.bdom D z hD, eD, hA.less fun b z => .inl (.inl z)⟩⟩
          · exact p.elim
        · exact p.elim
      · exact p.elim
    · exact p.elim⟩
end DS
set_option Elab.async false
set_option linter.all false
set_option maxRecDepth 100000
set_option maxHeartbeats 2000000
namespace DS
open PySem L2 PyProof.Rows
/-! ### the top: facts as tests of the written part -/
abbrev Ts := List (PySem.W.Frag → Bool)
def tell (ts : Ts) (fn : List He.DefD) (K : PySem.W.Frag) : Bool × List He.FnW := ((ts.all fun t => t K) && (fn.all fun d => d.ok K), fn.map fun d => He.fnW K d.at_)
def told (fn : List He.DefD) : Bool × List He.FnW := (true, fn.map He.DefD.val)
def look (n : Nat) (ts : Ts) (fn : List He.DefD) (g : Addr → Option Obj) : Bool × List He.FnW := tell ts fn (He.frG g (He.asD g n))
def hookT (n : Nat) (ts : Ts) (fn : List He.DefD) : PySem.W.Hook where
  α := Bool × List He.FnW
  obs := fun s => look n ts fn s.heap.get?
  val := fun _ => told fn
  says := fun _ h => ∃ K : PySem.W.Frag, K.In h ∧ tell ts fn K = told fn
  of := fun _ _ e => ⟨_, He.frG_in, e⟩
  keeps := fun _ _ _ h k => h.elim fun K h => ⟨K, PySem.W.Frag.In.keeps h.1 k, h.2⟩
theorem look_eq {n : Nat} {ts : Ts} {fn : List He.DefD} {g : Addr → Option Obj} {s : Shared} (h : ∀ a, g a = s.heap.get? a) : look n ts fn g = (hookT n ts fn).obs s :=
  (congrArg (look n ts fn) (funext h)).trans rfl
section
variable {ts : Ts} {fn : List He.DefD} {K : PySem.W.Frag}
theorem fact_of (c : tell ts fn K = told fn) (i : Nat) {t : PySem.W.Frag → Bool} (h : ts[i]? = some t) : t K = true := by
  have c1 : ((ts.all fun t => t K) && (fn.all fun d => d.ok K)) = true := congrArg (fun z => z.1) c
  rw [Bool.and_eq_true] at c1
  exact List.all_eq_true.mp c1.1 t (List.mem_of_getElem? h)
theorem def_of (c : tell ts fn K = told fn) (i : Nat) {d : He.DefD} (h : fn[i]? = some d) : ∃ fd, FunD K d.name d.qual d.params d.body d.scope (d.dvs K) (d.kws K) (He.fAd K d.at_) fd := by
  have c1 : ((ts.all fun t => t K) && (fn.all fun d => d.ok K)) = true := congrArg (fun z => z.1) c
  rw [Bool.and_eq_true] at c1
  have e : fn.map (fun d => He.fnW K d.at_) = fn.map He.DefD.val := congrArg (fun z => z.2) c
  have e2 : (fn.map fun d => He.fnW K d.at_)[i]? = (fn.map He.DefD.val)[i]? := congrArg (fun l => l[i]?) e
  rw [List.getElem?_map, List.getElem?_map, h] at e2
  exact He.DefD.funD (Option.some.inj e2) (List.all_eq_true.mp c1.2 d (List.mem_of_getElem? h))
end
/-! more facts -/
def tSp (x m : Str) (K : PySem.W.Frag) : Bool := He.eqO (PySem.W.findIn K (.ref (He.ga K x)) m) (some (some (.ref (He.ma K (He.ga K x) m)))) && (PySem.W.isFn K (.ref (He.ma K (He.ga K x) m)) && PySem.W.fnIn K (He.ma K (He.ga K x) m))
theorem tSp_ok {x m : Str} {K : PySem.W.Frag} (h : tSp x m K = true) : PySem.W.findIn K (.ref (He.ga K x)) m = some (some (.ref (He.ma K (He.ga K x) m))) ∧ PySem.W.isFn K (.ref (He.ma K (He.ga K x) m)) = true ∧ PySem.W.fnIn K (He.ma K (He.ga K x) m) = true := by
  unfold tSp at h
  rw [Bool.and_eq_true, Bool.and_eq_true] at h
  exact ⟨He.eqO_ok h.1, h.2⟩
def tTyC (x : Str) (K : PySem.W.Frag) : Bool := He.eqO (PySem.W.findIn K (.ref (He.ga K x)) "__class__") (some (some (.builtin "object.__class__"))) && (He.eqO (PySem.W.specialIn K (.builtin "object.__class__") "__get__") (some (some (.builtin "getset_descriptor.__get__"))) &&
  (decide (PySem.W.takesIn K (.builtin "object.__class__") = some true) && decide (PySem.W.mroIn K (He.ga K x) (.type "object") = some true)))
theorem tTyC_ok {x : Str} {K : PySem.W.Frag} (c : Cls K (He.ga K x)) (h : tTyC x K = true) : TyC K (He.ga K x) := by
  unfold tTyC at h
  rw [Bool.and_eq_true, Bool.and_eq_true, Bool.and_eq_true] at h
  exact ⟨c, He.eqO_ok h.1, He.eqO_ok h.2.1, of_decide_eq_true h.2.2.1, of_decide_eq_true h.2.2.2⟩
/-- a tag by a class's name -/
inductive TagN where
  | non | bl | int | str | lst | tup | dk | i (x : Str)
def TagN.t (K : PySem.W.Frag) : TagN → Tag
  | .non => .non
  | .bl => .bl
  | .int => .int
  | .str => .str
  | .lst => .lst
  | .tup => .tup
  | .dk => .dk
  | .i x => .ins (He.ga K x)
inductive ClN where
  | ty (n : String) | own (x : Str)
def ClN.v (K : PySem.W.Frag) : ClN → V
  | .ty n => .ty n
  | .own x => .ref (He.ga K x)
def ClN.u (K : PySem.W.Frag) : ClN → Value
  | .ty n => .type n
  | .own x => .ref (He.ga K x)
theorem ClN.ok {K : PySem.W.Frag} (c : ClN) : ClsV (c.v K) (c.u K) := by cases c <;> constructor
def tIsi (c : ClN) (tb : List (TagN × Bool)) (K : PySem.W.Frag) : Bool := tb.all fun q => decide (PySem.W.kitOne K (q.1.t K).ty (c.u K) = some q.2)
def isiT (K : PySem.W.Frag) (tb : List (TagN × Bool)) : List (Tag × Bool) := tb.map fun q => (q.1.t K, q.2)
def tyAll (K : PySem.W.Frag) : List (TagN × Bool) → Prop
  | [] => True
  | (.i x, _) :: r => TyC K (He.ga K x) ∧ tyAll K r
  | _ :: r => tyAll K r
theorem tyAll_mem {K : PySem.W.Frag} : ∀ {tb : List (TagN × Bool)}, tyAll K tb → ∀ x b, (TagN.i x, b) ∈ tb → TyC K (He.ga K x)
  | (t, b0) :: r, h, x, b, m => by
    cases m with
    | head =>
      have h' : TyC K (He.ga K x) ∧ tyAll K r := h
      exact h'.1
    | tail _ m =>
      cases t with
      | i y =>
        have h' : TyC K (He.ga K y) ∧ tyAll K r := h
        exact tyAll_mem h'.2 x b m
      | _ =>
        have h' : tyAll K r := h
        exact tyAll_mem h' x b m
theorem tIsi_ok {c : ClN} {tb : List (TagN × Bool)} {K : PySem.W.Frag} (h : tIsi c tb K = true) (hc : tyAll K tb) : ∀ q ∈ isiT K tb, TagOk K (c.u K) q := by
  intro q hq
  obtain ⟨p, hp, rfl⟩ := List.mem_map.mp hq
  refine ⟨of_decide_eq_true (List.all_eq_true.mp h p hp), ?_⟩
  obtain ⟨t, b⟩ := p
  cases t <;> first | trivial | exact tyAll_mem hc _ b hp
theorem one_mem {α : Type} {P : α → Prop} {a : α} (h : P a) : ∀ b ∈ [a], P b := fun b hb => by
  cases hb with
  | head => exact h
  | tail _ z => cases z
theorem takes0 {X : Cx} : Takes X W0 := fun _ _ ⟨_, _, _, _, _, _, _, _, _, _, _, _, _, _, _, _, w⟩ => w.elim
/-- no list stands in the written part -/
def tNoList (K : PySem.W.Frag) : Bool := K.all fun p => decide (p.2.cls ≠ .type "list")
theorem lookup_mem' {β : Type} {k : Addr} {v : β} : ∀ {l : List (Addr × β)}, l.lookup k = some v → ∃ k', (k', v) ∈ l
  | (k', v') :: l, h => by
    rw [List.lookup_cons] at h
    split at h
    · cases h; exact ⟨k', .head _⟩
    · obtain ⟨q, z⟩ := lookup_mem' h
      exact ⟨q, .tail _ z⟩
theorem noList {K : PySem.W.Frag} (h : tNoList K = true) {H : Hp} {a : Addr} {xs : List V} (s : SqL K H a xs) : Rd H a (.lst xs) := by
  rcases s with s | ⟨o, its, n, hl, hc, _⟩
  · exact s
  · obtain ⟨k', hm⟩ := lookup_mem' hl
    have := List.all_eq_true.mp h _ hm
    exact absurd hc (of_decide_eq_true this)
/-- the law's end: its plain reading is True at every script -/
theorem end_of {l : PySem.W.OpenLaw} {n k : Nat} {q : Program} {loose : List Str} {XP : (Str → Option Value) → Heap → Prop} {d : DefRec} {x : Str} {m : Nat} {ts : Ts} {fn : List He.DefD}
    (hn : l.most = some n) (hn2 : n ≤ sizeLine) (hdf : d.params.defaults = []) (hr : Room k callerA)
    (Fl : ∀ (w : World) (mg : Str → Option Value) (fa : Addr) (K : PySem.W.Frag) (h : Heap), K.In h → tell ts fn K = told fn → h.Ns mainGlobals mg → mg d.name = some (.ref fa) →
      tNoList K = true ∧ ∃ (fd : FuncData) (g : List D → R D), (∀ (s : Shared) (u : Value), BindsTo s fd ⟨[u], []⟩ [(x, u)]) ∧
        (∀ ns : List Int, ns.length ≤ n → (∀ z ∈ ns, Builtin.Int.intBits z ≤ 1048576) → g [.scr ns] = .ok (.bl true)) ∧
        ∀ base : Heap, K.In base → base.Ns mainGlobals mg → FnOk l.prog w K mg base (L2.CX l.prog w) k fa fd [x] (spD mg 1 g)) :
    PySem.W.WalkO q loose XP (hookT m ts fn).says l.row.toRowW d [] (fun f vs => PySem.call f vs) :=
  Att.attach_callB hn hdf fun w s0 s1 mg mb fa o pm cd doc a vs ns G Y ho hd hcd hmg hobj hints hlen hbits hg => by
    obtain ⟨K, hK, hT⟩ := Y
    obtain ⟨hL, fd, g, hb, hv, hF⟩ := Fl w mg fa K _ hK hT G.T.g hmg
    refine law_call hK G.T.g G.T.b G.T.builtins G.T.nolimit hg hobj hints (Nat.le_trans hlen hn2) hr hF hb (fun H _ hS => ?_) fun H e s' z => ?_
    · have hp : PostD mg (fun _ => False) (g [.scr ns]) H (fun v _ => v = .bl true) fun _ _ _ => False := by
        rw [hv ns hlen hbits]
        exact fun v H' _ h => h
      exact ⟨rfl, [.scr ns], fun _ => False, ⟨_, _, rfl, ⟨a, rfl, fun z => z, noList hL hS⟩, rfl⟩, fun a z => z.elim, hp⟩
    · obtain ⟨_, _, _, _, _, _, _, _, _, _, _, _, z⟩ := z
      exact z.elim
end DS
set_option Elab.async false
set_option linter.all false
set_option maxRecDepth 100000
set_option maxHeartbeats 2000000
/-! The __init__ of an own exception class that begins with super().__init__(text), then keeps its one argument (or nothing). -/
namespace DS
open PySem L2 PyProof.Rows PySem.Calls

abbrev veTl : List Value := [.type "ValueError", .type "Exception", .type "BaseException", .type "object"]
/-- what the written part says of such a class and its __init__ -/
structure ExC (P : Program) (K : PySem.W.Frag) (mg : Str → Option Value) (C f : Addr) (fd : FuncData) (nm qual : Str) (params : Arguments) (body : List Stmt) (scope : Scope) : Prop where
  ex : ∃ (oc ct : Value) (od an : Option Addr) (dV kV doc pm : Value) (cda cc : Addr) (osl : Array (Option Value)) (ccl cl : Value) (cdd cld : Option Addr) (vs : Array Value) (ccs csl : Array (Option Value)) (file : Str) (tf : Tok) (cdD : ClassData),
    fd = PySem.W.ksFn nm qual params body scope dV kV doc pm an (.ref cda) ct cc ∧ K.lookup f = some ⟨oc, od, .func fd, osl⟩ ∧ PySem.W.codeIn K (.ref cda) qual = true ∧
    K.lookup cda = some ⟨ccl, cdd, .fields vs, ccs⟩ ∧ vs[2]? = some (.str file tf) ∧ (P.main.file == file) = true ∧
    K.lookup cc = some ⟨cl, cld, .cell (some (.ref C)), csl⟩ ∧ PySem.W.clsIn K C = some cdD
  top : (P.main.scope.names.lookup ("super" : Str)).isSome = false
  sub : PySem.W.mroIn K C (.ref C) = some true
  mgs : mg "super" = none
  ini : PySem.W.ks_superIn K C C "__init__" = some (some (.builtin "ValueError.__init__"))
  opq : PySem.W.nsIn K cStatics "thirdparty.any" = some none
  sve : PySem.W.subIn K (.ref C) (.type "ValueError") = some true
  exi : PySem.W.excInitIn K C veTl "ValueError.__new__" = true
  oex : OexC K C
/-- its promise: the argument is kept under the name -/
def spEx (C : Addr) (fld : Str) : Sp := fun vs H Q _ => ∃ a v, vs = [.ref a, v] ∧ H a = some (exo a C none) ∧ ∀ d, H d = none → d ≠ a → Q .non (upd (upd H d (exd d [(fld, v)])) a (exo a C (some d)))
def spEx0 (C : Addr) : Sp := fun vs H Q _ => ∃ a, vs = [.ref a] ∧ H a = some (exo a C none) ∧ Q .non H
theorem ks_to {name qual : Str} {params : Arguments} {body : List Stmt} {scope : Scope} {dV kV doc pm cdv ct : Value} {an : Option Addr} {cc L f : Addr} :
    callEnv (PySem.W.ksFn name qual params body scope dV kV doc pm an cdv ct cc) L f = PySem.W.ksEnv qual scope L f cdv cc := rfl

section
variable {P : Program} {w : World} {K : PySem.W.Frag} {mg : Str → Option Value} {base : Heap} {C f : Addr} {fd : FuncData} {nm qual : Str} {params : Arguments} {body : List Stmt} {scope : Scope}
/-- super().__init__(text): the exception's args are laid anew, nothing else is seen -/
theorem super_init {A : Around} {E : Value → Shared → Prop} {Q : Flow → Shared → Prop} {hG : Heap} {L x cda cc : Addr} {t1 : Addr} {m : Str → Option Value} {s : Shared} {txt : Str} {p0 p1 p2 p3 p4 p5 : Pos} {jk : Nat}
    {vs : Array Value} {ccl cl : Value} {cdd cld : Option Addr} {ccs csl : Array (Option Value)} {file : Str} {tf : Tok} {cdD : ClassData} {ar : Arg} {oc : Value} {od : Option Addr} {osl : Array (Option Value)} {body0 : List Stmt}
    (M0 : Mod K mg base) (hb : ∀ b o, base.get? b = some o → hG.get? b = some o) (F : PyProof.Rows.Fr hG L s.heap m) (N : News hG L s.heap [(x, PySem.W.excObj C t1 none .none)])
    (hf : K.lookup f = some ⟨oc, od, .func fd, osl⟩) (hp : (fd.params.posonlyargs ++ fd.params.args).head? = some ar) (hv : m ar.arg = some (.ref x))
    (hcode : K.lookup cda = some ⟨ccl, cdd, .fields vs, ccs⟩) (hvs : vs[2]? = some (.str file tf)) (hfile : (P.main.file == file) = true)
    (hcell : K.lookup cc = some ⟨cl, cld, .cell (some (.ref C)), csl⟩) (hD : PySem.W.clsIn K C = some cdD) (hsub : PySem.W.mroIn K C (.ref C) = some true) (hsuper : mg "super" = none)
    (hks : scope.names.lookup ("super" : Str) = some .globalImplicit) (hkc : scope.names.lookup ("__class__" : Str) = some .free) (hka : scope.names.lookup ar.arg = some .local) (hk : scope.kind = .function)
    (htop : (P.main.scope.names.lookup ("super" : Str)).isSome = false)
    (hini : PySem.W.ks_superIn K C C "__init__" = some (some (.builtin "ValueError.__init__"))) (hopq : PySem.W.nsIn K cStatics "thirdparty.any" = some none) (hsve : PySem.W.subIn K (.ref C) (.type "ValueError") = some true)
    (hexi : PySem.W.excInitIn K C veTl "ValueError.__new__" = true)
    {pl : Env → Sem Bool} (he : ∀ env : Env, eval (.Call (.Attribute (.Call (.Name "super" p0) [] [] p1) "__init__" p2) [.Constant (.str txt) jk p3] [] p4) env = (do
      let ov ← attributeBase (.Call (.Name "super" p0) [] [] p1) "__init__" env (eval (.Call (.Name "super" p0) [] [] p1) env)
      standAt p2.atName
      let (f, first) ← holding [ov] (getMethod ov "__init__" (pl env))
      callWith p4 f first (backTo p4 (starEach [.Constant (.str txt) jk p3] env)) []))
    (h : ∀ h' t' tk, PyProof.Rows.Fr hG L h' m → h'.get? x = some (PySem.W.excObj C t' none .none) → Q .next { s with heap := h', toks := tk }) :
    _root_.PySem.wpAt (model P w) A (.func body0 (PySem.W.ksEnv qual scope L f (.ref cda) cc)) (exec (.Expr (.Call (.Attribute (.Call (.Name "super" p0) [] [] p1) "__init__" p2) [.Constant (.str txt) jk p3] [] p4) p5) (PySem.W.ksEnv qual scope L f (.ref cda) cc)) Q E s := by
  have KG : K.In hG := M0.kin.keeps hb
  have X0 : K.In s.heap := KG.keeps F.keep
  obtain ⟨hh, g, d, t, os⟩ := s
  obtain ⟨mb, hmb, hmb2⟩ := M0.blt
  have kb : ∀ b o, base.get? b = some o → hh.get? b = some o := fun b o e => F.keep b o (hb b o e)
  have hxx : hh.get? x = some (PySem.W.excObj C t1 none .none) := (N _ (.head _)).1
  have IA : PySem.W.InstAt hh x (PySem.W.excObj C t1 none .none) C none := ⟨hxx, rfl, rfl, trivial⟩
  obtain ⟨oD, hD1, hD2⟩ : ∃ oD, hh.get? C = some oD ∧ oD.data = .cls cdD := by
    unfold PySem.W.clsIn at hD
    split at hD
    · rename_i ho
      cases hD
      exact ⟨_, X0 _ _ ho, rfl⟩
    · cases hD
  have hi0 : interactive (PySem.W.ksEnv qual scope L f (.ref cda) cc) = false := by
    unfold interactive
    rw [show (PySem.W.ksEnv qual scope L f (.ref cda) cc).scope.kind = .function from hk]
    rfl
  refine ks_wpAt_Expr_any (hi := hi0) (ks_wpAt_MethodCall (pl := pl _) ?_ (he _))
  refine ks_wpAt_super_base (env := PySem.W.ksEnv qual scope L f (.ref cda) cc) hks hkc (by decide) rfl (X0 _ _ hf) rfl hp rfl (X0 _ _ hcode) rfl hvs hfile htop ?_
  refine PySem.W.ks_loadName_global hk hks (loadGlobal_builtin (env := PySem.W.ksEnv qual scope L f (.ref cda) cc) (M0.glob.keeps kb) hsuper (hmb.keeps kb) ((hmb2 _ (by decide)).trans (by decide +kernel : bootBuiltins ("super" : Str) = some (.type "super"))) ⟨rfl, ?_⟩)
  refine wpAny_loadName_free hk hkc rfl ⟨_, X0 _ _ hcell, rfl⟩ ?_
  refine wpAny_loadName_local hk hka F.ns hv ?_
  refine ks_wpAny_isType_cls hD1 hD2 ⟨rfl, ?_⟩
  refine ks_wpAny_call_super hD1 hD2 IA.at_ IA.cls (fun c e => by cases e) (PySem.W.looks_mroIn X0 hsub) (fun h1 e1 k1 => ?_)
  obtain ⟨F1, N1, _⟩ := PySem.W.ks_newsPush (s := ⟨hh, g, d, t, os⟩) F N rfl e1 k1
  have IA1 : PySem.W.InstAt h1 x (PySem.W.excObj C t1 none .none) C none := ⟨k1 _ _ hxx, rfl, rfl, trivial⟩
  refine PySem.W.kxs_method (s := ⟨h1, g, d, t, os⟩) PySem.W.kxs_ValueError F1 KG N1 (.head _) IA1 hopq hini hsve (by decide) fun q h2 F2 N2 _ => ?_
  refine PySem.W.kxs_callWith1 (s := ⟨h2, g, d, t + 1, os⟩) N2 (.head _) ?_
  refine spliced_cons ?_
  show wpAny _ _ (eval (Expr.Constant (Const.str txt) jk p3) _) _ _ _
  refine Constant_str ?_
  refine spliced_nil ⟨(N2 _ (.head _)).1, ?_⟩
  have hxe : ∀ p ∈ [(q, PySem.W.kxs_mw "ValueError.__init__" x), (hh.objs.size, PySem.W.ks_superObj C x C)], p.1 ≠ x := fun p hp e => by
    rcases List.mem_cons.mp hp with rfl | hp
    · have z1 := (N2 _ (.head _)).1
      have z2 := (N2 _ (.tail _ (.tail _ (.head _)))).1
      dsimp only at e z1 z2
      rw [e, z2] at z1
      cases z1
    · rw [List.mem_singleton.mp hp] at e
      have z1 := (N2 _ (.tail _ (.head _))).1
      have z2 := (N2 _ (.tail _ (.tail _ (.head _)))).1
      dsimp only at e z1 z2
      rw [e, z2] at z1
      cases z1
  refine PySem.W.kxs_call (s := ⟨h2, g, d, t + 1 + 1, os⟩) (news := (q, PySem.W.kxs_mw "ValueError.__init__" x) :: (hh.objs.size, PySem.W.ks_superObj C x C) :: [(x, PySem.W.excObj C t1 none .none)]) (t := t1) (dv := none) (c2 := .none)
    F2 KG N2 PySem.F.excBase_ValueError hexi (.head _) (.tail (hxe _ (.head _)) (.tail (hxe _ (.tail _ (.head _))) (.head (fun p hp => nomatch hp)))) (by simp [sizeLine_eq]) fun t' h3 F3 N3 _ => ?_
  exact h h3 t' _ F3 (N3 _ (.tail _ (.tail _ (.tail _ (.head _))))).1
/-- THE RULE for an __init__ of two rows: super().__init__(text); self.fld = prm -/
theorem exI_ok {txt slf prm fld : Str} {p0 p1 p2 p3 p4 p5 p6 p7 p8 p9 : Pos} {jk : Nat} {ar : Arg} {pl : Env → Sem Bool}
    (T : ExC P K mg C f fd nm qual params [.Expr (.Call (.Attribute (.Call (.Name "super" p0) [] [] p1) "__init__" p2) [.Constant (.str txt) jk p3] [] p4) p5, .Assign [.Attribute (.Name slf p6) fld p7] (.Name prm p8) p9] scope)
    (hno : PySem.W.findIn K (.ref C) fld = some none) (hp : (params.posonlyargs ++ params.args).head? = some ar) (har : ar.arg = slf) (hne : slf ≠ prm)
    (hks : scope.names.lookup ("super" : Str) = some .globalImplicit) (hkc : scope.names.lookup ("__class__" : Str) = some .free) (hsl : scope.names.lookup slf = some .local) (hpr : scope.names.lookup prm = some .local) (hk : scope.kind = .function)
    (hcell : ∀ x ∈ scope.names, x.2 ≠ .cell) (hco : scope.isCoroutine = false) (hgen : scope.isGenerator = false) (hd1 : (slf == ("__debug__" : Str)) = false) (hd2 : (prm == ("__debug__" : Str)) = false)
    (hs : ∀ env, swapsWith (.Name prm p8) (some (.Attribute (.Name slf p6) fld p7)) p9.line env = pure false)
    (he : ∀ env : Env, eval (.Call (.Attribute (.Call (.Name "super" p0) [] [] p1) "__init__" p2) [.Constant (.str txt) jk p3] [] p4) env = (do
      let ov ← attributeBase (.Call (.Name "super" p0) [] [] p1) "__init__" env (eval (.Call (.Name "super" p0) [] [] p1) env)
      standAt p2.atName
      let (f, first) ← holding [ov] (getMethod ov "__init__" (pl env))
      callWith p4 f first (backTo p4 (starEach [.Constant (.str txt) jk p3] env)) [])) : FnOk P w K mg base (L2.CX P w) 1 f fd [slf, prm] (spEx C fld) := by
  refine ⟨fun vs H Q E h => by obtain ⟨a, v, rfl, _⟩ := h; rfl, fun A outer s H args us vs Q E hr e0 hb r hsp => ?_⟩
  obtain ⟨a, v, rfl, ea, q⟩ := hsp
  obtain ⟨oc, ct, od, an, dV, kV, doc, pm, cda, cc, osl, ccl, cl, cdd, cld, vs, ccs, csl, file, tf, cdD, rfl, lk, hcd, hcode, hvs, hfile, hcel, hD⟩ := T.ex
  cases r with
  | @cons _ u0 _ ur ra rw' =>
  cases rw' with
  | @cons _ u _ ur2 rv rn =>
  cases rn
  obtain rfl : u0 = Value.ref a := ra
  obtain ⟨hp0, g, d, t, os⟩ := s
  have KX : K.In hp0 := e0.mod.kin.keeps fun b o e => (e0.bs b o e).1
  have lim : hp0.NoLimit := e0.mod.nolimit.keeps fun b o e => (e0.bs b o e).1
  obtain ⟨t1, ho⟩ := exo_at e0.hok ea
  have gG : ∀ b o, hp0.get? b = some o → b ≠ a → (PySem.W.hideAll hp0 [a]).get? b = some o := fun b o e n => PySem.W.hideAll_get _ e fun z => n (List.mem_singleton.mp z)
  have bG : ∀ b o, base.get? b = some o → (PySem.W.hideAll hp0 [a]).get? b = some o := fun b o e => gG b o (e0.bs b o e).1 fun z => by
    have := (e0.bs b o e).2
    rw [z, ea] at this
    cases this
  refine ks_codeAny_call_defAt (hr.depth) (KX _ _ lk) rfl lim (PySem.W.codeRec_of KX hcd) rfl hb hcell (fun x hx => ?_) (fun h0 hns hk0 => ?_) hco hgen hk
  · rcases List.mem_cons.mp hx with e | hx
    · rw [e]; exact hsl
    · rw [List.mem_singleton.mp hx]; exact hpr
  have F0 : PyProof.Rows.Fr (PySem.W.hideAll hp0 [a]) hp0.objs.size h0 (fun x => ([slf, prm].zip [Value.ref a, u]).reverse.lookup x) := ⟨hns, fun b o e => hk0 b o (PySem.W.of_hideAll _ e), Nat.le_of_eq (PySem.W.hideAll_size _ _)⟩
  have N0 : News (PySem.W.hideAll hp0 [a]) hp0.objs.size h0 [(a, PySem.W.excObj C t1 none .none)] := fun p hp => by
    rw [List.mem_singleton.mp hp]
    exact ⟨hk0 _ _ ho, Nat.ne_of_lt (Heap.lt_size ho), PySem.W.hideAll_none _ (.head _)⟩
  have m1 : ([slf, prm].zip [Value.ref a, u]).reverse.lookup slf = some (Value.ref a) := by
    show List.lookup slf [(prm, u), (slf, Value.ref a)] = _
    rw [List.lookup_cons, show (slf == prm) = false from beq_eq_false_iff_ne.mpr hne, List.lookup_cons, beq_self_eq_true]
  have m2 : ([slf, prm].zip [Value.ref a, u]).reverse.lookup prm = some u := by
    show List.lookup prm [(prm, u), (slf, Value.ref a)] = _
    rw [List.lookup_cons, beq_self_eq_true]
  refine ks_wpAt_execs_cons (super_init (s := ⟨h0, g, d, t + _, os⟩) e0.mod bG F0 N0 lk hp (by rw [har]; exact m1) hcode hvs hfile hcel hD T.sub T.mgs hks hkc (by rw [har]; exact hsl) hk T.top T.ini T.opq T.sve T.exi he fun h1 t2 tk F1 hx1 => ?_)
  refine ks_wpAt_execs_cons (ks_wpAt_Assign_Attr (hs := hs _) (wpAt_of_wpAny (wpAny_Name (wpAny_loadName_local hk hpr F1.ns m2 (wpAny_Name (wpAny_loadName_local hk hsl F1.ns m1 ?_) hd1)) hd2)))
  obtain ⟨nm', q', N', bs, bm, sn, sub, ab, col, dd, k0, k1, k2, k3, k5, hC, hbm⟩ := T.oex.cls
  have hcl : PySem.W.clsIn K C = some { name := nm', bases := bs, mro := .ref C :: bm, ns := N', qualname := q', hasDict := true, slotNames := sn, subclasses := sub, abstract := ab, collection := col, hasDel := false } := by unfold PySem.W.clsIn; rw [hC] <;> rfl
  have K1 : K.In h1 := e0.mod.kin.keeps fun b o e => F1.keep b o (bG b o e)
  refine PySem.W.set_plain K1 (ox := PySem.W.excObj C t2 none .none) (od := none) ⟨hx1, rfl, rfl, trivial⟩ T.oex.sa ?_
  refine PySem.HandSPX.exc_osa K1 hx1 hcl (show PySem.HandSPX.refsVE (.ref C :: bm) = true from hbm) rfl hno (fun h2 tk2 dx k2' dxn dxa hx2 hn2 => ?_)
  refine wpAt_of_wpAny (wpAny_execs_nil ?_)
  have up : ∀ b o, hp0.get? b = some o → b ≠ a → h1.get? b = some o ∧ h2.get? b = some o := fun b o e n => by
    have z := F1.keep b o (gG b o e n)
    exact ⟨z, k2' b o n z⟩
  have szL : hp0.objs.size ≤ dx := by
    obtain ⟨_, _, _, hL, _⟩ := F1.ns
    exact Nat.le_trans (Nat.le_of_lt (Heap.lt_size hL)) dxn
  have hnd : H dx = none := e0.hok.fresh szL
  have na : ∀ {b : Addr}, H b = none → b ≠ a := fun {b} n z => by
    rw [z, ea] at n
    cases n
  have nd : ∀ {b : Addr} {o : Obj}, hp0.get? b = some o → b ≠ dx := fun {b o} e => Nat.ne_of_lt (Nat.lt_of_lt_of_le (Heap.lt_size e) szL)
  refine ⟨.non, _, rfl, e0.bare, ⟨fun b o e n _ _ => (up b o e (na n)).2, fun b o e n _ _ => ⟨o.slots, (up b o e (na n)).2⟩, fun b o e n _ => ?_, fun b o e _ => ?_, fun b xs e => ?_, fun b o x e => ?_, fun b ps e => ⟨#[], ?_⟩⟩, fun b o e => ?_, rfl, q dx hnd dxa⟩
  · rw [upd_ne (na n), upd_ne (nd e)]; exact n
  · by_cases z : b = a
    · rw [z]; exact ⟨_, hx2⟩
    · exact ⟨o, (up b o e z).2⟩
  · rw [upd_ne (at_ne ea e exo_tup), upd_ne (ne_of_none e hnd)]; exact e
  · rw [upd_ne (at_ne ea e exo_frz), upd_ne (ne_of_none e hnd)]; exact e
  · rw [upd_ne (at_ne ea e exo_tbl), upd_ne (ne_of_none e hnd), e]; simp
  · by_cases z : b = a
    · subst z
      rw [upd_same] at e
      cases e
      exact exo_ok hx2
    · rw [upd_ne z] at e
      by_cases z2 : b = dx
      · subst z2
        rw [upd_same] at e
        cases e
        exact exd_ok hn2 (relO_put (fs := []) rv fun g => True.intro)
      · rw [upd_ne z2] at e
        exact (e0.hok b o e).stay (fun c x hc y => (up c x y (by
            rcases hc with hc | hc
            · rw [hc]; exact z
            · exact at_ne ea hc exo_own)).2)
          (fun c hc => by rw [upd_ne (at_ne ea hc exo_own), upd_ne (ne_of_none hc hnd)]; exact hc) (fun c xs hc => by rw [upd_ne (at_ne ea hc exo_tup), upd_ne (ne_of_none hc hnd)]; exact hc)
end
end DS
set_option Elab.async false
set_option linter.all false
set_option maxRecDepth 100000
set_option maxHeartbeats 2000000
/-! Several except clauses, each with a name or without. -/
namespace DS
open PySem L2 PyProof.Rows PySem.Spec
abbrev SuT := Addr → Value → Option Addr → TS
abbrev Clau := Value × Option Nat × SuT
/-- behind a suite its name's slot is empty -/
def behindN (i : Nat) (T : Ends) : Ends := { nx := fun σ H => T.nx (σ.set i none) H, rt := T.rt, bk := fun σ H => T.bk (σ.set i none) H, ct := fun σ H => T.ct (σ.set i none) H }
def wCls (K : PySem.W.Frag) (Wo : WX) (T : Ends) : List Clau → WX
  | [] => Wo
  | (c, none, ts) :: r => fun k d σ H => ∃ b, PySem.W.exmOne K k c = some b ∧ (b = true → ∀ x, H x = none → ts x k d T σ H) ∧ (b = false → wCls K Wo T r k d σ H)
  | (c, some i, ts) :: r => fun k d σ H => ∃ b, PySem.W.exmOne K k c = some b ∧ (b = true → ∀ x, H x = none → ts x k d (behindN i T) (σ.set i (some (.ref x))) H) ∧ (b = false → wCls K Wo T r k d σ H)
inductive Clauses (X : Cx) : List ExceptHandler → List Clau → Prop
  | nil : Clauses X [] []
  | one {y : Str} {c : Value} {ts : SuT} {s0 : Stmt} {su : List Stmt} {p1 p2 : Pos} {hs : List ExceptHandler} {l : List Clau} (hc : Names X y c)
      (hsu : ∀ (x : Addr) (o : Obj) (k : Value) (d : Option Addr) (pn : List (Addr × Obj)), Zc k d o → (∃ vs, o.data = .fields vs) → PSs (X.suite x ((x, o) :: pn)) (s0 :: su) (ts x k d)) (r : Clauses X hs l) :
      Clauses X (.ExceptHandler (some (.Name y p1)) none (s0 :: su) p2 :: hs) ((c, none, ts) :: l)
  | as {y n : Str} {i : Nat} {c : Value} {ts : SuT} {s0 : Stmt} {su : List Stmt} {p1 p2 : Pos} {hs : List ExceptHandler} {l : List Clau} (hc : Names X y c) (hi : X.N[i]? = some n) (hn : X.env.kindOf n = some .local)
      (hsu : ∀ (x : Addr) (o : Obj) (k : Value) (d : Option Addr) (pn : List (Addr × Obj)), Zc k d o → (∃ vs, o.data = .fields vs) → PSs (X.suite x ((x, o) :: pn)) (s0 :: su) (ts x k d)) (r : Clauses X hs l) :
      Clauses X (.ExceptHandler (some (.Name y p1)) (some n) (s0 :: su) p2 :: hs) ((c, some i, ts) :: l)
section
variable {X : Cx} {bd : List Stmt} {h0 : ExceptHandler} {hs : List ExceptHandler} {l : List Clau} {pos : Pos} {tb : WX → TS} {Wo : WX}
theorem ps_try_cls (hst : X.stack = X.env :: X.outer) (hfr0 : X.env.frame = some X.env.locals) (hN : X.N.Nodup) (tk : Takes X Wo)
    (hb : ∀ (W : WX) (pn : List (Addr × Obj)) (xe : Value → Shared → Prop), Takes (X.tr pn xe) W → PassesOwn (model X.prog X.w) X.A X.env xe → PSs (X.tr pn xe) bd (tb W))
    (hh : Clauses X (h0 :: hs) l) : PS X (.Try bd (h0 :: hs) [] [] pos) (fun T σ H => tb (wCls X.K Wo T l) T σ H) := by
  refine ⟨fun pins s σ H T I h => ?_⟩
  have ok := I.ok
  have frE : X.A.frames = some (X.env :: X.outer) := by rw [ok.frames, hst]
  refine wpAny_Try_except (wpAny_mono ((hb (wCls X.K Wo T l) (X.pn ++ pins) (fun e s1 => wpAny (model X.prog X.w) X.A (noteFrame e X.env) (fun _ s2 => wpAny (model X.prog X.w) X.A (setFlight e none) (fun _ s3 =>
    wpAny (model X.prog X.w) X.A (handleBy e X.env (h0 :: hs)) (SP X pins T) X.xe s3) X.xe s2) X.xe s1) (fun u s' xx => ?_) PassesOwn.looking).run [] s σ H T (I.toTry _) h) (fun fl s1 hsp => ?_) fun e s1 he => he)
  · obtain ⟨x, B, sI, pins', σ1, H1, k, d, rfl, Jt, nb, up, sky, nx, os, ag, w⟩ := xx
    have J : Inv X pins σ1 H1 sI := Jt.ofTry ok
    have sky2 : Sky B (X.env :: X.outer) x (Zc k d) X.env.locals s'.heap := by rw [← hst]; exact sky
    refine Sky.land Zc.steady frE hfr0 sky2 fun h3 fl3 up3 => ?_
    have J3 : Inv X pins σ1 H1 { s' with heap := h3 } := J.landed nb fl3.1 (up.trans up3) os ag
    obtain ⟨o3, v3, e3, z3, d3⟩ := fl3.there
    have outF : ∀ {hp : Heap} {o : Obj} {vs : Array Value}, hp.FunFrames B (X.env :: X.outer) → hp.get? x = some o → o.data = .fields vs → x ∉ frs (X.env :: X.outer) := fun {hp o vs} ff e dd hm => by
      obtain ⟨_, o', e', hnf⟩ := ff.mem hm
      rw [e] at e'
      cases e'
      exact hnf _ dd
    have nfr := outF fl3.2.2.1 e3 d3
    have nL : x ≠ X.env.locals := fun z => nfr (List.mem_filterMap.mpr ⟨X.env, .head _, by rw [hfr0, z]⟩)
    have nF : x ∉ X.fs := fun hm => by
      obtain ⟨e, he, q⟩ := List.mem_filterMap.mp hm
      exact nfr (List.mem_filterMap.mpr ⟨e, .tail _ he, q⟩)
    have S3 := J3.suite e3 d3 nx nL nF
    have LT : PySem.W.Looks (model X.prog X.w) h3 (typeOf (.ref x)) k := fun A Q E s kk q => wpAny_typeOf_ref (kk _ _ e3) (by rw [z3.1]; exact q)
    have asks : ∀ {y : Str} {c : Value} {np : Pos} {Q : Value → Shared → Prop} {E : Value → Shared → Prop}, Names X y c → Q c { s' with heap := h3 } → wpAny (model X.prog X.w) (X.A.mark (some (.ref x))) (eval (.Name y np) X.env) Q E { s' with heap := h3 } := fun {y c np Q E} hc q => by
      obtain ⟨hg, hdb, hm | ⟨hm, hv, hnn⟩⟩ := hc
      · exact ld_glob (X := X.suite x ((x, o3) :: (X.pn ++ pins))) S3 hg hm q hdb
      · exact ld_blt (X := X.suite x ((x, o3) :: (X.pn ++ pins))) S3 hg hm hv q hnn hdb
    have walk : ∀ {hs2 : List ExceptHandler} {l2 : List Clau}, Clauses X hs2 l2 → wCls X.K Wo T l2 k d σ1 H1 → wpAny (model X.prog X.w) X.A (handleBy (.ref x) X.env hs2) (SP X pins T) X.xe { s' with heap := h3 } := by
      intro hs2 l2 hk
      induction hk with
      | nil =>
        intro w
        refine wpAny_handleBy_nil ?_
        obtain ⟨_, _, _, oe, vs, t0, _, _, he, _, hd, h1, _⟩ := id fl3
        unfold PySem.passOn
        refine wpAny_bind (wpAny_field he hd h1 ?_)
        rw [if_neg (show ¬ ((Value.ref t0 == Value.none) = true) by simp)]
        have out : wpAny (model X.prog X.w) X.A (setFlight (.ref x) X.env.frame) (fun _ s4 => wpAny (model X.prog X.w) X.A (throw (.ref x) : Sem Flow) (SP X pins T) X.xe s4) X.xe { s' with heap := h3 } := by
          rw [hfr0]
          exact HandSPX.setFlight_upZ fl3 fun h4 hh4 up4 => wpAny_throw (tk _ _ ⟨x, B, sI, pins, σ1, H1, k, d, rfl, J, nb, (up.trans up3).trans up4, .inr (.inr (by rw [hst]; exact hh4)), nx, os, ag, w⟩)
        first
          | exact wpAny_bind (wpAny_pure (wpAny_bind out))
          | exact wpAny_bind out
      | @one y c ts s0 su p1 p2 hs3 l3 hc hsu r ih =>
        intro w
        obtain ⟨b, hb1, yes, no⟩ := w
        refine wpAny_handleBy_cons (codeAny_handlers_test (asks hc ((PySem.W.exm_one (M := model X.prog X.w) J3.kIn LT hb1).here ?_))) (by intro q; cases q)
        cases b with
        | false => exact ih (no rfl)
        | true =>
          refine codeAny_handlers_suite (HandSPX.lands_againZ fl3 fun h4 fl4 up4 => ?_)
          obtain ⟨o4, _, e4, z4, d4⟩ := fl4.there
          have S4 := (J.landed (s' := { s' with heap := h4 }) nb fl4.1 ((up.trans up3).trans up4) os ag).suite e4 d4 nx nL nF
          refine wpAny_mono ((hsu x o4 k d (X.pn ++ pins) z4 ⟨_, d4⟩).run [] _ _ H1 _ S4 (yes rfl x nx)) (fun fl s6 hsp => ?_) fun _ _ z => z.elim
          cases fl with
          | ret u =>
            obtain ⟨v6, σ6, H6, S6, r6, q6⟩ := hsp
            exact ⟨_, _, _, S6.unsuite ok, r6, q6⟩
          | _ =>
            obtain ⟨σ6, H6, S6, q6⟩ := hsp
            exact ⟨_, _, S6.unsuite ok, q6⟩
      | @as y n i c ts s0 su p1 p2 hs3 l3 hc hi hn hsu r ih =>
        intro w
        obtain ⟨b, hb1, yes, no⟩ := w
        refine wpAny_handleBy_cons (codeAny_handlers_test (asks hc ((PySem.W.exm_one (M := model X.prog X.w) J3.kIn LT hb1).here ?_))) (by intro q; cases q)
        cases b with
        | false => exact ih (no rfl)
        | true =>
          refine codeAny_handlers_suite_as (HandSPX.lands_againZ fl3 fun h4 fl4 up4 => ?_)
          obtain ⟨o4, _, e4, z4, d4⟩ := fl4.there
          have S4 := (J.landed (s' := { s' with heap := h4 }) nb fl4.1 ((up.trans up3).trans up4) os ag).suite e4 d4 nx nL nF
          refine store_ok (X := X.suite x ((x, o4) :: (X.pn ++ pins))) (v := .ref x) S4 hN hi (.inl hn) rfl (fun s5 S5 => ?_) (.inr hn)
          refine wpAny_mono ((hsu x o4 k d (X.pn ++ pins) z4 ⟨_, d4⟩).run [] s5 _ H1 _ S5 (yes rfl x nx)) (fun fl s6 hsp => ?_) fun _ _ z => z.elim
          have fin : ∀ {σ6 : L2.St} {H6 : Hp} {Q : Shared → Prop}, Inv (X.suite x ((x, o4) :: (X.pn ++ pins))) [] σ6 H6 s6 → (∀ s7, Inv X pins (σ6.set i none) H6 s7 → Q s7) →
              wpAny (model X.prog X.w) X.A (do bindName X.env n .none; unbindBehindTheSuite X.env n p2) (fun _ s7 => Q s7) X.xe s6 := fun S6 hq => gone_ok (S6.unsuite ok) hN hi hn hq
          cases fl with
          | ret u =>
            obtain ⟨v6, σ6, H6, S6, r6, q6⟩ := hsp
            exact fin S6 fun s7 J7 => ⟨_, _, _, J7, r6, q6⟩
          | _ =>
            obtain ⟨σ6, H6, S6, q6⟩ := hsp
            exact fin S6 fun s7 J7 => ⟨_, _, J7, q6⟩
    exact walk hh w
  · cases fl with
    | next =>
      obtain ⟨σ1, H1, J1, q⟩ := hsp
      exact wpAny_execs_nil ⟨σ1, H1, J1.ofTry ok, q⟩
    | ret u =>
      obtain ⟨v, σ1, H1, J1, r, q⟩ := hsp
      exact ⟨v, σ1, H1, J1.ofTry ok, r, q⟩
    | _ =>
      obtain ⟨σ1, H1, J1, q⟩ := hsp
      exact ⟨σ1, H1, J1.ofTry ok, q⟩
end
end DS
set_option Elab.async false
set_option linter.all false
set_option maxRecDepth 100000
set_option maxHeartbeats 2000000
namespace DS
open PySem L2 PyProof.Rows
variable {F : Fr} {X : Cx} {W : WX} {a b c e : Expr} {fa fb fc : EF} {pos : Pos} {st : Stmt} {sts : List Stmt} {f g : SF} {tt : TF} {es : List Expr} {fs : List EF}

/-! ### raise C(e) -/
structure GEx (P : Program) (w : World) (K : PySem.W.Frag) (mg : Str → Option Value) (base : Heap) (x : Str) (C : Addr) (fld : Str) : Prop where
  ex : ∃ f fd ps, FnOk P w K mg base (L2.CX P w) 1 f fd ps (spEx C fld) ∧ PySem.W.findIn K (.ref C) "__init__" = some (some (.ref f)) ∧ PySem.W.typeIn K (.ref f) = some (.type "function") ∧ Binds K fd ps [] ∧ OexC K C ∧ mg x = some (.ref C)
def sRaise (x fld : Str) (f : EF) : SF := fun s => match f s with
  | .ok d => .ex x [(fld, d)] s
  | .ex c fs => .ex c fs s
  | .no => .no
theorem passes_none {X : Cx} (tk : Takes X W) : Passes (L2.CX X.prog X.w) X (fun _ _ _ => False) := fun pins σ H s e s' I c => passes_call tk (fun _ _ _ _ h => h.elim) pins σ H s e s' I c
theorem ds_raise {x fld : Str} {C : Addr} {k : Nat} {p : Pos} (G : GEx X.prog X.w X.K X.mg X.base x C fld) (hr : Room k X.A) (hc : X.calm = true) (hg : Gl X x) (tk : Takes X W) (h : DE F X W e fa) (hkk : 2 ≤ k := by decide)
    (hdb : (x == ("__debug__" : Str)) = false := by decide) (he : starEach (e :: []) X.env = (false, eval e X.env) :: starEach [] X.env := by rfl) (hpl : (backTo p (starEach [] X.env)).any (·.1) = false := by rfl) {p' : Pos} :
    DX1 F X W (.Raise (some (.Call (.Name x p') [e] [] p)) none pos) (sRaise x fld fa) := by
  obtain ⟨f, fd, ps, G, iC, tI, hb, T, hm⟩ := G
  refine ⟨PS.weak (ps_raise hc tk (pmk_oex (dvs := []) T iC tI G (hr.mono hkk) hb .nil (passes_none tk) hg hm (da_cons h da_nil he).pa hdb he hpl)) fun D σ H ⟨sd, rel, p⟩ => ⟨sd, rel, ?_⟩⟩
  unfold sRaise at p
  simp only [evalL]
  cases q : fa sd with
  | no => rw [q] at p; exact p
  | ex c fs => rw [q] at p; exact fun cls da H' s h => post_ex (bb := false) (Q := fun _ _ => True) rel p cls da H' s h
  | ok d =>
    rw [q] at p
    intro vs H1 s1 hv
    obtain ⟨v, r, rfl, h1, rfl⟩ := hv
    refine ⟨by simp, fun a na => ⟨a, v, rfl, upd_same, fun dx nd ne => ⟨rfl, dx, [(fld, v)], upd_same, ?_, ?_, ?_⟩⟩⟩
    · rw [upd_ne ne, upd_same]
    · rw [upd_ne ne] at nd; exact nd
    · have nd1 : H1 dx = none := by rw [upd_ne ne] at nd; exact nd
      have sf : Same H1 (upd (del (upd (upd (upd H1 a (exo a C none)) dx (exd dx [(fld, v)])) a (exo a C (some dx))) a) dx (.xd [(fld, v)])) := fun b o hb => by
        have nb : b ≠ a := ne_of_none hb na
        rw [upd_ne (ne_of_none hb nd1), del_ne nb, upd_ne nb, upd_ne (ne_of_none hb nd1), upd_ne nb]
        exact hb
      have h1 : Holds H1 (Av F σ sd) d v := h1
      exact p _ _ σ _ (rel.mono (s1.trans sf)) (ExtS.same (s1.trans sf) fun _ z => z) (.inl ⟨C, hm, rfl, .inr ⟨dx, _, rfl, upd_same, v, [], rfl, (h1.same sf).less fun _ z => .inl z, rfl⟩⟩)

/-! ### try -/
def frzA (s : SD) : SD := s.map frz
def okIn (s : SD) : Bool := s.all fun t => match t with
  | .bw _ => false
  | .xc => false
  | _ => true
def okOut (s : SD) : Bool := s.all fun t => match t with
  | .bw _ => false
  | .oi _ _ => false
  | .xc => false
  | _ => true
section
variable {σ : L2.St} {H : Hp} {sd : SD}
theorem frz_own (s : Sl) : (frz s).own = false := by cases s <;> rfl
theorem frzA_noown (i : Nat) (a : Addr) : ¬ OwnAt σ (frzA sd) i a := fun ⟨t, e, o, _⟩ => by
  unfold frzA at e
  rw [List.getElem?_map, Option.map_eq_some_iff] at e
  obtain ⟨t', _, rfl⟩ := e
  rw [frz_own] at o
  cases o
theorem Rel.suite (rel : Rel F σ H sd) (h : okIn sd = true) (x : Addr) : Rel ⟨H, F.B, x⟩ σ H (frzA sd) := by
  have av : ∀ a, Av ⟨H, F.B, x⟩ σ (frzA sd) a → F.B a := fun a z => z.elim id fun ⟨i, z⟩ => absurd z (frzA_noown i a)
  have u : Up H (Av F σ sd) H (Av ⟨H, F.B, x⟩ σ (frzA sd)) := Up.ofOff (fun _ _ h _ => h) fun b z => .inl (.inl (av b z))
  refine ⟨Same.refl H, by simp [frzA, rel.len], fun i t e => ?_, fun i j a h1 _ => absurd h1 (frzA_noown i a), fun a ⟨i, z⟩ => absurd z (frzA_noown i a), rel.bdom⟩
  unfold frzA at e
  rw [List.getElem?_map, Option.map_eq_some_iff] at e
  obtain ⟨t', e, rfl⟩ := e
  obtain ⟨v, ev, hh⟩ := rel.slot i t' e
  have ht := List.all_eq_true.mp h t' (List.mem_of_getElem? e)
  refine ⟨v, ev, ?_⟩
  have nb : ∀ a, v = some (.ref a) → t'.own = true → ¬ Av ⟨H, F.B, x⟩ σ (frzA sd) a := fun a ea o z => by
    subst ea
    exact rel.nb a ⟨i, t', e, o, ev⟩ (av a z)
  cases t' with
  | un => trivial
  | xc => cases ht
  | bw d => cases ht
  | sh d => obtain ⟨x, e, h⟩ := hh; exact ⟨x, e, Holds.up u d h⟩
  | ol ds => obtain ⟨a, vs, e, n, r, l⟩ := hh; exact ⟨_, e, a, vs, rfl, nb a e rfl, r, HoldsL.up u _ l⟩
  | od ds => obtain ⟨a, vs, e, n, r, l⟩ := hh; exact ⟨_, e, a, vs, rfl, nb a e rfl, .inl r, HoldsK.up u _ l⟩
  | oi C ds => obtain ⟨a, dx, vs, e, n, r, l⟩ := hh; exact ⟨_, e, a, dx, vs, rfl, nb a e rfl, r, HoldsF.up u _ l⟩
theorem Rel.frzA (rel : Rel F σ H sd) (h : okIn sd = true) : Rel F σ H (frzA sd) := by
  have z := rel.suite h F.S
  have av : ∀ a, Av F σ (DS.frzA sd) a → F.B a := fun a z => z.elim id fun ⟨i, z⟩ => absurd z (frzA_noown i a)
  refine ⟨rel.same, z.len, fun i t e => ?_, z.inj, z.nb, rel.bdom⟩
  obtain ⟨v, ev, hh⟩ := z.slot i t e
  refine ⟨v, ev, ?_⟩
  have hown : t.own = false := by
    unfold DS.frzA at e
    rw [List.getElem?_map, Option.map_eq_some_iff] at e
    obtain ⟨t', e, rfl⟩ := e
    exact frz_own t'
  cases t with
  | un => trivial
  | xc => exact hh
  | sh d => exact hh
  | bw d =>
    unfold DS.frzA at e
    rw [List.getElem?_map, Option.map_eq_some_iff] at e
    obtain ⟨t', e, e2⟩ := e
    have ht := List.all_eq_true.mp h t' (List.mem_of_getElem? e)
    cases t' <;> first | (cases ht; done) | (simp [frz] at e2; done)
  | ol ds => cases hown
  | od ds => cases hown
  | oi C ds => cases hown
theorem Rel.setX (rel : Rel F σ H sd) (i : Nat) : Rel F (σ.set i (some (.ref F.S))) H (sd.set i .xc) := by
  have hown : ∀ a, Own (σ.set i (some (.ref F.S))) (sd.set i .xc) a → Own σ sd a := fun a z => own_set rfl rel.len z
  have hav : ∀ a, Av F (σ.set i (some (.ref F.S))) (sd.set i .xc) a → Av F σ sd a := fun a z => z.elim .inl fun z => .inr (hown a z)
  refine ⟨rel.same, by simp [rel.len], fun j s e => ?_, fun j k a h1 h2 => rel.inj j k a (ownAt_set rfl h1 rel.len).1 (ownAt_set rfl h2 rel.len).1, fun a z => rel.nb a (hown a z), rel.bdom⟩
  by_cases hj : i = j
  · subst hj
    by_cases hi : i < sd.length
    · rw [List.getElem?_set_self hi] at e
      cases e
      exact ⟨_, List.getElem?_set_self (by rw [rel.len]; exact hi), rfl⟩
    · rw [List.getElem?_eq_none (by simpa using hi)] at e
      cases e
  · rw [List.getElem?_set_ne hj] at e
    obtain ⟨w, e2, q⟩ := rel.slot j s e
    exact ⟨w, by rw [List.getElem?_set_ne hj]; exact e2, q.up rel.same (up_own hav) fun a o _ _ q => q⟩
theorem Rel.back {H1 : Hp} {x : Addr} (rel : Rel ⟨H1, F.B, x⟩ σ H sd) (s : Same F.H0 H1) (h : okOut sd = true) : Rel F σ H sd := by
  refine ⟨s.trans rel.same, rel.len, fun i t e => ?_, rel.inj, rel.nb, rel.bdom⟩
  obtain ⟨v, ev, hh⟩ := rel.slot i t e
  have ht := List.all_eq_true.mp h t (List.mem_of_getElem? e)
  refine ⟨v, ev, ?_⟩
  cases t with
  | un => trivial
  | xc => cases ht
  | bw d => cases ht
  | oi C ds => cases ht
  | sh d => exact hh
  | ol ds => obtain ⟨a, vs, e, n, r, l⟩ := hh; exact ⟨a, vs, e, s.free n, r, l⟩
  | od ds => obtain ⟨a, vs, e, n, r, l⟩ := hh; exact ⟨a, vs, e, s.free n, r, l⟩
end
def inX (i : Option Nat) (s : SD) : SD := match i with
  | some i => s.set i .xc
  | none => s
def unX (i : Option Nat) (s : SD) : SD := match i with
  | some i => s.set i .un
  | none => s
def behX (i : Option Nat) : SO → SO
  | .nx s => if okOut (unX i s) = true then .nx (unX i s) else .no
  | .rt d => .rt d
  | .rn n => .rn n
  | .bk s => if okOut (unX i s) = true then .bk (unX i s) else .no
  | .ct s => if okOut (unX i s) = true then .ct (unX i s) else .no
  | _ => .no
abbrev XCl := Str × Option Nat × (List (Str × D) → SF)
def clGo (tb : List (Str × Str)) (s : SD) (c : Str) (fs : List (Str × D)) : List XCl → SO
  | [] => .ex c fs s
  | (k, i, h) :: r => if (c, k) ∈ tb then (if c = k then behX i (h fs (inX i s)) else clGo tb s c fs r) else .no
def sTry (tb : List (Str × Str)) (body : SF) (cl : List XCl) : SF := fun s => match body s with
  | .ex c fs s' => if okIn s' = true then clGo tb (frzA s') c fs cl else .no
  | o => o
def XcAt (F' : Fr) (k : Value) (d : Option Addr) (C : Addr) (fs : List (Str × D)) : Prop := k = .ref C ∧ (fs = [] ∨ ∃ dd ws, d = some dd ∧ F'.H0 dd = some (.xd ws) ∧ HoldsF F'.H0 F'.B fs ws)
def suT (mg : Str → Option Value) (y : Str) (h : List (Str × D) → SF) : SuT := fun x k d T σ H => ∃ F' C fs, x = F'.S ∧ XcAt F' k d C fs ∧ mg y = some (.ref C) ∧ TSx F' mg W0 (h fs) T σ H
inductive DCl (X : Cx) : List ExceptHandler → List XCl → List Clau → Prop
  | nil : DCl X [] [] []
  | one {y : Str} {C : Addr} {h : List (Str × D) → SF} {s0 : Stmt} {su : List Stmt} {p1 p2 : Pos} {hs : List ExceptHandler} {cl : List XCl} {l : List Clau} (hg : Gl X y) (hd : (y == ("__debug__" : Str)) = false) (hm : X.mg y = some (.ref C))
      (hsu : ∀ (F' : Fr) (fs : List (Str × D)) (x : Addr) (o : Obj) (k : Value) (d : Option Addr) (pn : List (Addr × Obj)), Zc k d o → (∃ vs, o.data = .fields vs) → x = F'.S → XcAt F' k d C fs → DXs F' (X.suite x ((x, o) :: pn)) W0 (s0 :: su) (h fs)) (r : DCl X hs cl l) :
      DCl X (.ExceptHandler (some (.Name y p1)) none (s0 :: su) p2 :: hs) ((y, none, h) :: cl) ((.ref C, none, suT X.mg y h) :: l)
  | as {y n : Str} {i : Nat} {C : Addr} {h : List (Str × D) → SF} {s0 : Stmt} {su : List Stmt} {p1 p2 : Pos} {hs : List ExceptHandler} {cl : List XCl} {l : List Clau} (hg : Gl X y) (hd : (y == ("__debug__" : Str)) = false) (hm : X.mg y = some (.ref C)) (hi : X.N[i]? = some n) (hn : X.env.kindOf n = some .local)
      (hsu : ∀ (F' : Fr) (fs : List (Str × D)) (x : Addr) (o : Obj) (k : Value) (d : Option Addr) (pn : List (Addr × Obj)), Zc k d o → (∃ vs, o.data = .fields vs) → x = F'.S → XcAt F' k d C fs → DXs F' (X.suite x ((x, o) :: pn)) W0 (s0 :: su) (h fs)) (r : DCl X hs cl l) :
      DCl X (.ExceptHandler (some (.Name y p1)) (some n) (s0 :: su) p2 :: hs) ((y, some i, h) :: cl) ((.ref C, some i, suT X.mg y h) :: l)
theorem DCl.cls {X : Cx} {hs : List ExceptHandler} {cl : List XCl} {l : List Clau} (h : DCl X hs cl l) : Clauses X hs l := by
  induction h with
  | nil => exact .nil
  | @one y C h s0 su p1 p2 hs cl l hg hd hm hsu r ih =>
    refine .one ⟨hg, hd, .inl hm⟩ (fun x o k d pn hz hf => ⟨fun pins s σ H D I q => ?_⟩) ih
    obtain ⟨F', C', fs, ex, xa, hm', q⟩ := q
    have e := hm.symm.trans hm'
    cases e
    exact (hsu F' fs x o k d pn hz hf ex xa).ps.run pins s σ H D I q
  | @as y n i C h s0 su p1 p2 hs cl l hg hd hm hi hn hsu r ih =>
    refine .as ⟨hg, hd, .inl hm⟩ hi hn (fun x o k d pn hz hf => ⟨fun pins s σ H D I q => ?_⟩) ih
    obtain ⟨F', C', fs, ex, xa, hm', q⟩ := q
    have e := hm.symm.trans hm'
    cases e
    exact (hsu F' fs x o k d pn hz hf ex xa).ps.run pins s σ H D I q
def TbOk (K : PySem.W.Frag) (mg : Str → Option Value) (tb : List (Str × Str)) : Prop := ∀ c k, (c, k) ∈ tb → ∃ C C', mg c = some (.ref C) ∧ mg k = some (.ref C') ∧ PySem.W.exmOne K (.ref C) (.ref C') = some (decide (c = k))
theorem exts_un {σ σ2 : L2.St} {sd s2 : SD} {H H2 : Hp} {i : Nat} (hl : σ2.length = s2.length) (e : ExtS σ sd H σ2 s2 H2) : ExtS σ sd H (σ2.set i none) (s2.set i .un) H2 := e.trans (ExtS.same (Same.refl _) fun a z => own_set rfl hl z)
theorem cls_go {tb : List (Str × Str)} {T : Ends} {σ σ1 : L2.St} {sd s1 : SD} {H H1 : Hp} {c : Str} {fs : List (Str × D)} {cls : Value} {da : Option Addr} (htb : TbOk X.K X.mg tb) (rel : Rel F σ1 H1 s1) (hin : okIn s1 = true) (e1 : ExtS σ sd H σ1 s1 H1) (xr : ExRep X.mg H1 F.B c fs cls da) :
    ∀ {hs : List ExceptHandler} {cl : List XCl} {l : List Clau}, DCl X hs cl l → PostS X.mg W F σ sd T (clGo tb (frzA s1) c fs cl) H → wCls X.K W T l cls da σ1 H1 := by
  have noO : ∀ {P : Addr → Prop} a, Own σ1 (frzA s1) a → P a := fun a ⟨i, z⟩ => absurd z (frzA_noown i a)
  have ef : ExtS σ sd H σ1 (frzA s1) H1 := e1.trans (ExtS.same (Same.refl _) fun a z => noO a z)
  have body : ∀ {k : Str} {r : List XCl} {i : Option Nat} {h : List (Str × D) → SF} {C' : Addr}, X.mg k = some (.ref C') → PostS X.mg W F σ sd T (clGo tb (frzA s1) c fs ((k, i, h) :: r)) H →
      ∃ b, PySem.W.exmOne X.K cls (.ref C') = some b ∧ (b = true → XcAt ⟨H1, F.B, 0⟩ cls da C' fs ∧ PostS X.mg W F σ sd T (behX i (h fs (inX i (frzA s1)))) H) ∧ (b = false → PostS X.mg W F σ sd T (clGo tb (frzA s1) c fs r) H) := by
    intro k r i h C' hk p
    unfold clGo at p
    split at p
    · rename_i hm
      obtain ⟨C1, C2, m1, m2, ex⟩ := htb c k hm
      have e2 := m2.symm.trans hk
      cases e2
      rcases xr with ⟨C3, m3, rfl, hf⟩ | ⟨_, m3, _⟩
      · have e3 := m3.symm.trans m1
        cases e3
        refine ⟨_, ex, fun hb => ?_, fun hb => ?_⟩
        · have ec := of_decide_eq_true hb
          subst ec
          have e4 := m1.symm.trans m2
          cases e4
          rw [if_pos rfl] at p
          refine ⟨⟨rfl, hf.imp_right fun ⟨d, ws, a1, a2, a3⟩ => ⟨d, ws, a1, a2, a3⟩⟩, p⟩
        · rw [if_neg (of_decide_eq_false hb)] at p
          exact p
      · rw [m3] at m1; cases m1
    · exact p.elim
  intro hs cl l hk
  induction hk with
  | nil => exact fun p => p _ _ _ _ (rel.frzA hin) ef xr
  | @one y C h s0 su p1 p2 hs cl l hg hd hm hsu r ih =>
    intro p
    obtain ⟨b, hb, yes, no⟩ := body hm p
    refine ⟨b, hb, fun z x nx => ?_, fun z => ih (no z)⟩
    obtain ⟨xa, p⟩ := yes z
    refine ⟨⟨H1, F.B, x⟩, C, fs, rfl, xa, hm, frzA s1, rel.suite hin x, ?_⟩
    unfold inX at p
    dsimp only at p
    cases q : h fs (frzA s1) with
    | no => rw [q] at p; exact p
    | ex c fs s' => rw [q] at p; exact p.elim
    | rt d => rw [q] at p; exact fun v H2 s hv => p v H2 (rel.same.trans s) hv
    | rn n => rw [q] at p; exact fun p0 H2 s n0 nb h => p p0 H2 (rel.same.trans s) (rel.same.free n0) nb h
    | nx s2 =>
      rw [q] at p
      unfold behX unX at p
      dsimp only at p
      split at p
      · rename_i ho
        exact fun σ2 H2 r2 e2 => p σ2 H2 (r2.back rel.same ho) (ef.trans e2)
      · exact p.elim
    | bk s2 =>
      rw [q] at p
      unfold behX unX at p
      dsimp only at p
      split at p
      · rename_i ho
        exact fun σ2 H2 r2 e2 => p σ2 H2 (r2.back rel.same ho) (ef.trans e2)
      · exact p.elim
    | ct s2 =>
      rw [q] at p
      unfold behX unX at p
      dsimp only at p
      split at p
      · rename_i ho
        exact fun σ2 H2 r2 e2 => p σ2 H2 (r2.back rel.same ho) (ef.trans e2)
      · exact p.elim
  | @as y n i C h s0 su p1 p2 hs cl l hg hd hm hi hn hsu r ih =>
    intro p
    obtain ⟨b, hb, yes, no⟩ := body hm p
    refine ⟨b, hb, fun z x nx => ?_, fun z => ih (no z)⟩
    obtain ⟨xa, p⟩ := yes z
    have rs := rel.suite hin x
    have es : ExtS σ sd H (σ1.set i (some (.ref x))) ((frzA s1).set i .xc) H1 := ef.trans (ExtS.same (Same.refl _) fun a z => own_set rfl rs.len z)
    refine ⟨⟨H1, F.B, x⟩, C, fs, rfl, xa, hm, (frzA s1).set i .xc, rs.setX i, ?_⟩
    unfold inX at p
    dsimp only at p
    cases q : h fs ((frzA s1).set i .xc) with
    | no => rw [q] at p; exact p
    | ex c fs s' => rw [q] at p; exact p.elim
    | rt d => rw [q] at p; exact fun v H2 s hv => p v H2 (rel.same.trans s) hv
    | rn n => rw [q] at p; exact fun p0 H2 s n0 nb h => p p0 H2 (rel.same.trans s) (rel.same.free n0) nb h
    | nx s2 =>
      rw [q] at p
      unfold behX unX at p
      dsimp only at p
      split at p
      · rename_i ho
        exact fun σ2 H2 r2 e2 => p _ H2 ((r2.unset i none).back rel.same ho) (exts_un r2.len (es.trans e2))
      · exact p.elim
    | bk s2 =>
      rw [q] at p
      unfold behX unX at p
      dsimp only at p
      split at p
      · rename_i ho
        exact fun σ2 H2 r2 e2 => p _ H2 ((r2.unset i none).back rel.same ho) (exts_un r2.len (es.trans e2))
      · exact p.elim
    | ct s2 =>
      rw [q] at p
      unfold behX unX at p
      dsimp only at p
      split at p
      · rename_i ho
        exact fun σ2 H2 r2 e2 => p _ H2 ((r2.unset i none).back rel.same ho) (exts_un r2.len (es.trans e2))
      · exact p.elim
theorem ds_try {tb : List (Str × Str)} {bd : List Stmt} {h0 : ExceptHandler} {hs : List ExceptHandler} {cl : List XCl} {l : List Clau} {f : SF} (hst : X.stack = X.env :: X.outer) (hfr : X.env.frame = some X.env.locals) (hN : X.N.Nodup) (tk : Takes X W) (htb : TbOk X.K X.mg tb)
    (hb : ∀ (W : WX) (pn : List (Addr × Obj)) (xe : Value → Shared → Prop), Takes (X.tr pn xe) W → PassesOwn (model X.prog X.w) X.A X.env xe → DXs F (X.tr pn xe) W bd f) (hh : DCl X (h0 :: hs) cl l) :
    DX1 F X W (.Try bd (h0 :: hs) [] [] pos) (sTry tb f cl) :=
  ⟨PS.weak (ps_try_cls hst hfr hN tk (tb := fun W => TSx F X.mg W f) (fun W pn xe t p => (hb W pn xe t p).ps) hh.cls) fun T σ H ⟨sd, rel, p⟩ => ⟨sd, rel, by
    unfold sTry at p
    cases q : f sd with
    | nx s' => rw [q] at p; exact p
    | rt d => rw [q] at p; exact p
    | rn n => rw [q] at p; exact p
    | bk s' => rw [q] at p; exact p
    | ct s' => rw [q] at p; exact p
    | no => rw [q] at p; exact p
    | ex c fs s' =>
      rw [q] at p
      dsimp only at p
      split at p
      · rename_i hi
        exact fun cls da σ' H' r e x => cls_go htb r hi e x hh p
      · exact p.elim⟩⟩
/-- n.f in a suite, n its exception -/
def eXf (i : Nat) (fs : List (Str × D)) (f : Str) : EF := fun s => match s[i]? with
  | some .xc => (match fs.lookup f with
    | some d => .ok d
    | none => .no)
  | _ => .no
theorem de_xf {F' : Fr} {x C : Addr} {o : Obj} {k : Value} {d : Option Addr} {pn : List (Addr × Obj)} {fs : List (Str × D)} (i : Nat) {n f : Str} {pos' : Pos} (hz : Zc k d o) (hf : ∃ vs, o.data = .fields vs) (hx : x = F'.S) (xa : XcAt F' k d C fs) (T : XfC X.K C) (hno : PySem.W.findIn X.K (.ref C) f = some none)
    (hN : X.N[i]? = some n := by rfl) (hv : Vis X.env.scope n := by first | exact Or.inl rfl | exact Or.inr (Or.inl rfl) | exact Or.inr (Or.inr rfl)) (hd : (n == ("__debug__" : Str)) = false := by decide)
    (hcd : (n == ("__classdict__" : Str)) = false := by decide) (hb : attributeBase (.Name n pos') f X.env (eval (.Name n pos') X.env) = eval (.Name n pos') X.env := by rfl) :
    DE F' (X.suite x ((x, o) :: pn)) W0 (.Attribute (.Name n pos') f pos) (eXf i fs f) :=
  ⟨PE.weak (pe_xf T hno hz hf (pe_var (X := X.suite x ((x, o) :: pn)) hN hv hd hcd) hb) fun σ H Q ⟨sd, rel, p⟩ => by
    unfold eXf at p
    cases q : sd[i]? with
    | none => rw [q] at p; exact p.elim
    | some s =>
      rw [q] at p
      obtain ⟨v, e, h⟩ := rel.slot i s q
      cases s with
      | xc =>
        dsimp only at p
        obtain ⟨rfl, xa⟩ := xa
        rcases xa with rfl | ⟨dd, ws, rfl, e0, hl⟩
        · exact p.elim
        · cases q2 : fs.lookup f with
          | none => rw [q2] at p; exact p.elim
          | some d2 =>
            rw [q2] at p
            have hh : v = some (.ref F'.S) := h
            subst hh
            have u : Up F'.H0 F'.B H (Av F' σ sd) := ⟨fun a xs h n => ⟨rel.same _ _ h, fun z => z.elim n fun z => by have := (rel.odom z).2; rw [h] at this; cases this⟩, fun a xs h n => ⟨rel.same _ _ h, fun z => z.elim n fun z => by have := (rel.odom z).2; rw [h] at this; cases this⟩,
              fun a xs h n => ⟨rd_same rel.same h, fun z => z.elim n fun z => rd_some h (rel.odom z).2⟩, fun a xs h n => ⟨rd_same rel.same h, fun z => z.elim n fun z => rd_some h (rel.odom z).2⟩, fun a C dx ws h n => ⟨rel.same _ _ h, fun z => z.elim n fun z => by have := (rel.odom z).2; rw [h] at this; cases this⟩, fun a h n z => z.elim n fun z => h (rel.odom z).2, fun a φ h n => ⟨rel.same _ _ h, fun z => z.elim n fun z => by have := (rel.odom z).2; rw [h] at this; cases this⟩⟩
            obtain ⟨v2, e2, h2⟩ := (HoldsF.up u fs hl).look q2
            exact ⟨_, e, by rw [hx], rfl, dd, ws, v2, rfl, rel.same _ _ e0, e2, p v2 H (Same.refl H) h2⟩
      | _ => exact p.elim⟩
end DS
set_option Elab.async false
set_option linter.all false
set_option maxRecDepth 100000
set_option maxHeartbeats 2000000
namespace DS
open PySem L2 PyProof.Rows
/-! ### the top with own exception classes -/
structure XD where
  cls : Str
  fld : Option Str
  file : Str
  name : Str
  qual : Str
  params : Arguments
  body : List Stmt
  scope : Scope
def XD.C (K : PySem.W.Frag) (d : XD) : Addr := He.ga K d.cls
def XD.f (K : PySem.W.Frag) (d : XD) : Addr := He.ma K (He.ga K d.cls) "__init__"
def fnX (K : PySem.W.Frag) (d : XD) : He.FnW := match K.lookup (d.f K) with
  | some ⟨_, _, .func fd, _⟩ => some (fd.name, fd.qualname, fd.params, fd.body, fd.scope, fd.globals, fd.closure.map fun q => (q.1, 0), fd.builtins)
  | _ => none
def XD.val (d : XD) : He.FnW := some (d.name, d.qual, d.params, .stmts d.body, d.scope, mainGlobals, [("__class__", 0)], builtinsNs)
def isNonV : Value → Bool
  | .none => true
  | _ => false
def oexB (K : PySem.W.Frag) (C : Addr) : Bool := (match K.lookup C with
  | some ⟨.type "type", _, .cls cd, sl⟩ => (match cd.mro, sl.toList with
    | .ref C' :: bm, [_, _, _, _, some (.builtin n), _] => C' == C && (n == "ValueError.__new__" && (!cd.hasDel && (cd.hasDict && PySem.HandSPX.refsVE bm)))
    | _, _ => false)
  | _ => false) && (He.eqO (PySem.W.findIn K (.ref C) "__setattr__") (some (some (.builtin "object.__setattr__"))) &&
  (decide (PySem.W.subIn K (.ref C) (.type "BaseException") = some true) && (decide (PySem.W.typeIn K (.ref C) = some (.type "type")) && PySem.W.keepIn K (.ref C))))
theorem oexB_ok {K : PySem.W.Frag} {C : Addr} (h : oexB K C = true) : OexC K C := by
  unfold oexB at h
  simp only [Bool.and_eq_true] at h
  obtain ⟨h1, h2, h3, h4, h5⟩ := h
  refine ⟨?_, He.eqO_ok h2, of_decide_eq_true h3, of_decide_eq_true h4, h5⟩
  split at h1
  · rename_i dc cl ss ho
    split at h1
    · rename_i A1 b1 r0 r1 r2 r3 nw r5 em es
      simp only [Bool.and_eq_true, beq_iff_eq, Bool.not_eq_true'] at h1
      obtain ⟨rfl, rfl, hdel, hdct, hbm⟩ := h1
      obtain ⟨z1, z2, z3, z4, z5, z6, z7, z8, z9, z10, z11⟩ := cl
      simp only at em hdel hdct
      subst em hdel hdct
      obtain ⟨l⟩ := ss
      simp only at es
      subst es
      exact ⟨z1, z5, z4, z2, b1, z7, z8, z9, z10, _, r0, r1, r2, r3, r5, ho, hbm⟩
    · cases h1
  · cases h1
def XD.ok (K : PySem.W.Frag) (d : XD) : Bool := (match K.lookup (d.f K) with
  | some ⟨_, _, .func fd, _⟩ => isNonV fd.defaults && (match fd.code, fd.closure with
    | .ref cda, [(_, cc)] => PySem.W.codeIn K (.ref cda) d.qual && ((match K.lookup cda with
      | some ⟨_, _, .fields vs, _⟩ => (match (vs[2]? : Option Value) with
        | some (.str fl _) => d.file == fl
        | _ => false)
      | _ => false) && (match K.lookup cc with
      | some ⟨_, _, .cell (some (.ref C')), _⟩ => C' == d.C K
      | _ => false))
    | _, _ => false)
  | _ => false) && ((PySem.W.clsIn K (d.C K)).isSome && (decide (PySem.W.mroIn K (d.C K) (.ref (d.C K)) = some true) && (He.eqO (PySem.W.nsIn K mainGlobals "super") (some none) &&
  (He.eqO (PySem.W.ks_superIn K (d.C K) (d.C K) "__init__") (some (some (.builtin "ValueError.__init__"))) && (He.eqO (PySem.W.nsIn K cStatics "thirdparty.any") (some none) &&
  (decide (PySem.W.subIn K (.ref (d.C K)) (.type "ValueError") = some true) && (PySem.W.excInitIn K (d.C K) veTl "ValueError.__new__" && (oexB K (d.C K) &&
  ((match d.fld with
    | some f => He.eqO (PySem.W.findIn K (.ref (d.C K)) f) (some none)
    | none => true) && (He.eqO (PySem.W.findIn K (.ref (d.C K)) "__init__") (some (some (.ref (d.f K)))) && (decide (PySem.W.typeIn K (.ref (d.f K)) = some (.type "function")) &&
  (He.eqO (PySem.W.nsIn K mainGlobals d.cls) (some (some (.ref (d.C K)))) && xfB K (d.C K)))))))))))))
section
variable {P : Program} {w : World} {K : PySem.W.Frag} {mg : Str → Option Value} {base : Heap}
structure XOk (P : Program) (K : PySem.W.Frag) (mg : Str → Option Value) (d : XD) (fd : FuncData) : Prop where
  ec : ExC P K mg (d.C K) (d.f K) fd d.name d.qual d.params d.body d.scope
  ini : PySem.W.findIn K (.ref (d.C K)) "__init__" = some (some (.ref (d.f K)))
  typ : PySem.W.typeIn K (.ref (d.f K)) = some (.type "function")
  glo : mg d.cls = some (.ref (d.C K))
  fld : ∀ f, d.fld = some f → PySem.W.findIn K (.ref (d.C K)) f = some none
  dfl : ∃ (kV doc pm cdv ct : Value) (an : Option Addr) (cc : Addr), fd = PySem.W.ksFn d.name d.qual d.params d.body d.scope .none kV doc pm an cdv ct cc
  xf : XfC K (d.C K)
theorem xok_of {d : XD} (X : K.In base) (G : base.Ns mainGlobals mg) (hfile : (P.main.file == d.file) = true) (htop : (P.main.scope.names.lookup ("super" : Str)).isSome = false) (e : fnX K d = d.val) (h : d.ok K = true) : ∃ fd, XOk P K mg d fd := by
  unfold XD.ok at h
  simp only [Bool.and_eq_true] at h
  obtain ⟨h1, h2, h3, h4, h5, h6, h7, h8, h9, h10, h11, h12, h13, h14⟩ := h
  unfold fnX at e
  split at h1
  · rename_i oc od fd osl lk
    rw [lk] at e
    simp only [Bool.and_eq_true] at h1
    obtain ⟨hdf, h1⟩ := h1
    split at h1
    · rename_i cda nmc cc hcode hclo
      simp only [Bool.and_eq_true] at h1
      obtain ⟨c1, c2, c3⟩ := h1
      split at c2
      · rename_i ccl cdd vs ccs lk2
        split at c2
        · rename_i fl tf hv
          split at c3
          · rename_i cl cld C' csl lk3
            obtain ⟨n1, n2, n3, n4, n5, n6, n7, n8, n9, n10, n11, n12, n13, n14, n15⟩ := fd
            simp only at hcode hclo hdf
            subst hclo hcode
            simp only [XD.val, Option.some.injEq, Prod.mk.injEq, List.map_cons, List.map_nil, List.cons.injEq, and_true] at e
            obtain ⟨rfl, rfl, rfl, rfl, rfl, rfl, rfl, rfl⟩ := e
            obtain ⟨cdD, hD⟩ := Option.isSome_iff_exists.mp h2
            have eC : C' = d.C K := beq_iff_eq.mp c3
            subst eC
            have ef : d.file = fl := beq_iff_eq.mp c2
            have en : n8 = .none := by cases n8 <;> first | rfl | cases hdf
            subst en
            refine ⟨_, ⟨⟨oc, n14, od, n12, .none, n9, n10, n11, cda, cc, osl, ccl, cl, cdd, cld, vs, ccs, csl, fl, tf, cdD, rfl, lk, c1, lk2, hv, by rw [← ef]; exact hfile, lk3, hD⟩, htop, of_decide_eq_true h3, PySem.W.mg_none_of X G (He.eqO_ok h4), He.eqO_ok h5, He.eqO_ok h6, of_decide_eq_true h7, h8, oexB_ok h9⟩,
              He.eqO_ok h11, of_decide_eq_true h12, PySem.W.mg_of X G (He.eqO_ok h13), fun f hf => ?_, ⟨n9, n10, n11, _, n14, n12, cc, rfl⟩, xfB_ok h14⟩
            rw [hf] at h10
            exact He.eqO_ok h10
          · cases c3
        · cases c2
      · cases c2
    · cases h1
  · cases h1
theorem gex_of {d : XD} {fd : FuncData} {fld txt slf prm : Str} {p0 p1 p2 p3 p4 p5 p6 p7 p8 p9 : Pos} {jk : Nat} {ar : Arg} {pl : Env → Sem Bool} (x : XOk P K mg d fd) (hf : d.fld = some fld)
    (hbody : d.body = [.Expr (.Call (.Attribute (.Call (.Name "super" p0) [] [] p1) "__init__" p2) [.Constant (.str txt) jk p3] [] p4) p5, .Assign [.Attribute (.Name slf p6) fld p7] (.Name prm p8) p9])
    (hp : (d.params.posonlyargs ++ d.params.args).head? = some ar) (har : ar.arg = slf) (hne : slf ≠ prm)
    (hks : d.scope.names.lookup ("super" : Str) = some .globalImplicit) (hkc : d.scope.names.lookup ("__class__" : Str) = some .free) (hsl : d.scope.names.lookup slf = some .local) (hpr : d.scope.names.lookup prm = some .local) (hk : d.scope.kind = .function)
    (hcell : ∀ x ∈ d.scope.names, x.2 ≠ .cell) (hco : d.scope.isCoroutine = false) (hgen : d.scope.isGenerator = false) (hd1 : (slf == ("__debug__" : Str)) = false) (hd2 : (prm == ("__debug__" : Str)) = false)
    (hs : ∀ env, swapsWith (.Name prm p8) (some (.Attribute (.Name slf p6) fld p7)) p9.line env = pure false)
    (he : ∀ env : Env, eval (.Call (.Attribute (.Call (.Name "super" p0) [] [] p1) "__init__" p2) [.Constant (.str txt) jk p3] [] p4) env = (do
      let ov ← attributeBase (.Call (.Name "super" p0) [] [] p1) "__init__" env (eval (.Call (.Name "super" p0) [] [] p1) env)
      standAt p2.atName
      let (f, first) ← holding [ov] (getMethod ov "__init__" (pl env))
      callWith p4 f first (backTo p4 (starEach [.Constant (.str txt) jk p3] env)) []))
    (hbi : ∀ (kV doc pm cdv ct : Value) (an : Option Addr) (cc : Addr) (us : List Value), us.length = 2 → bindArgs (PySem.W.ksFn d.name d.qual d.params d.body d.scope .none kV doc pm an cdv ct cc) ⟨us, []⟩ = pure ([slf, prm].zip us)) :
    GEx P w K mg base d.cls (d.C K) fld := by
  have ec := x.ec
  obtain ⟨kV, doc, pm, cdv, ct, an, cc, efd⟩ := x.dfl
  subst efd
  rw [hbody] at ec
  have ok := exI_ok (w := w) (base := base) ec (x.fld _ hf) hp har hne hks hkc hsl hpr hk hcell hco hgen hd1 hd2 hs he
  rw [← hbody] at ok
  exact ⟨_, _, _, ok, x.ini, x.typ, .all (hbi kV doc pm cdv ct an cc), ec.oex, x.glo⟩
end
/-! the Hook -/
def tellX (ts : Ts) (fn : List He.DefD) (xs : List XD) (K : PySem.W.Frag) : Bool × List He.FnW := ((ts.all fun t => t K) && ((fn.all fun d => d.ok K) && xs.all fun d => d.ok K), (fn.map fun d => He.fnW K d.at_) ++ xs.map fun d => fnX K d)
def toldX (fn : List He.DefD) (xs : List XD) : Bool × List He.FnW := (true, fn.map He.DefD.val ++ xs.map XD.val)
def lookX (n : Nat) (ts : Ts) (fn : List He.DefD) (xs : List XD) (g : Addr → Option Obj) : Bool × List He.FnW := tellX ts fn xs (He.frG g (cStatics :: He.asD g n))
def hookX (n : Nat) (ts : Ts) (fn : List He.DefD) (xs : List XD) : PySem.W.Hook where
  α := Bool × List He.FnW
  obs := fun s => lookX n ts fn xs s.heap.get?
  val := fun _ => toldX fn xs
  says := fun _ h => ∃ K : PySem.W.Frag, K.In h ∧ tellX ts fn xs K = toldX fn xs
  of := fun _ _ e => ⟨_, He.frG_in, e⟩
  keeps := fun _ _ _ h k => h.elim fun K h => ⟨K, PySem.W.Frag.In.keeps h.1 k, h.2⟩
theorem lookX_eq {n : Nat} {ts : Ts} {fn : List He.DefD} {xs : List XD} {g : Addr → Option Obj} {s : Shared} (h : ∀ a, g a = s.heap.get? a) : lookX n ts fn xs g = (hookX n ts fn xs).obs s :=
  (congrArg (lookX n ts fn xs) (funext h)).trans rfl
section
variable {ts : Ts} {fn : List He.DefD} {xs : List XD} {K : PySem.W.Frag}
theorem toldX_1 (c : tellX ts fn xs K = toldX fn xs) : (ts.all fun t => t K) = true ∧ (fn.all fun d => d.ok K) = true ∧ (xs.all fun d => d.ok K) = true := by
  have c1 : ((ts.all fun t => t K) && ((fn.all fun d => d.ok K) && xs.all fun d => d.ok K)) = true := congrArg (fun z => z.1) c
  rw [Bool.and_eq_true, Bool.and_eq_true] at c1
  exact c1
theorem toldX_2 (c : tellX ts fn xs K = toldX fn xs) : (fn.map fun d => He.fnW K d.at_) = fn.map He.DefD.val ∧ (xs.map fun d => fnX K d) = xs.map XD.val := by
  have e : (fn.map fun d => He.fnW K d.at_) ++ (xs.map fun d => fnX K d) = fn.map He.DefD.val ++ xs.map XD.val := congrArg (fun z => z.2) c
  exact List.append_inj e (by simp)
theorem factX (c : tellX ts fn xs K = toldX fn xs) (i : Nat) {t : PySem.W.Frag → Bool} (h : ts[i]? = some t) : t K = true :=
  List.all_eq_true.mp (toldX_1 c).1 t (List.mem_of_getElem? h)
theorem defX (c : tellX ts fn xs K = toldX fn xs) (i : Nat) {d : He.DefD} (h : fn[i]? = some d) : ∃ fd, FunD K d.name d.qual d.params d.body d.scope (d.dvs K) (d.kws K) (He.fAd K d.at_) fd := by
  have e2 : (fn.map fun d => He.fnW K d.at_)[i]? = (fn.map He.DefD.val)[i]? := congrArg (fun l => l[i]?) (toldX_2 c).1
  rw [List.getElem?_map, List.getElem?_map, h] at e2
  exact He.DefD.funD (Option.some.inj e2) (List.all_eq_true.mp (toldX_1 c).2.1 d (List.mem_of_getElem? h))
theorem excX {P : Program} {mg : Str → Option Value} {base : Heap} (c : tellX ts fn xs K = toldX fn xs) (i : Nat) {d : XD} (h : xs[i]? = some d) (X : K.In base) (G : base.Ns mainGlobals mg) (hfile : (P.main.file == d.file) = true) (htop : (P.main.scope.names.lookup ("super" : Str)).isSome = false) : ∃ fd, XOk P K mg d fd := by
  have e2 : (xs.map fun d => fnX K d)[i]? = (xs.map XD.val)[i]? := congrArg (fun l => l[i]?) (toldX_2 c).2
  rw [List.getElem?_map, List.getElem?_map, h] at e2
  exact xok_of X G hfile htop (Option.some.inj e2) (List.all_eq_true.mp (toldX_1 c).2.2 d (List.mem_of_getElem? h))
end
/-- which raised class which clause takes -/
def tExm (tb : List (Str × Str)) (K : PySem.W.Frag) : Bool := tb.all fun q => He.eqO (PySem.W.nsIn K mainGlobals q.1) (some (some (.ref (He.ga K q.1)))) && (He.eqO (PySem.W.nsIn K mainGlobals q.2) (some (some (.ref (He.ga K q.2)))) && decide (PySem.W.exmOne K (.ref (He.ga K q.1)) (.ref (He.ga K q.2)) = some (decide (q.1 = q.2))))
theorem tExm_ok {tb : List (Str × Str)} {K : PySem.W.Frag} {mg : Str → Option Value} {h : Heap} (X : K.In h) (G : h.Ns mainGlobals mg) (c : tExm tb K = true) : TbOk K mg tb := fun x k hm => by
  have z := List.all_eq_true.mp c (x, k) hm
  rw [Bool.and_eq_true, Bool.and_eq_true] at z
  exact ⟨_, _, PySem.W.mg_of X G (He.eqO_ok z.1), PySem.W.mg_of X G (He.eqO_ok z.2.1), of_decide_eq_true z.2.2⟩
/-- the law's end -/
theorem end_ofX {l : PySem.W.OpenLaw} {n k : Nat} {q : Program} {loose : List Str} {XP : (Str → Option Value) → Heap → Prop} {d : DefRec} {x : Str} {m : Nat} {ts : Ts} {fn : List He.DefD} {xs : List XD}
    (hn : l.most = some n) (hn2 : n ≤ sizeLine) (hdf : d.params.defaults = []) (hr : Room k callerA)
    (Fl : ∀ (w : World) (mg : Str → Option Value) (fa : Addr) (K : PySem.W.Frag) (h : Heap), K.In h → tellX ts fn xs K = toldX fn xs → h.Ns mainGlobals mg → mg d.name = some (.ref fa) →
      tNoList K = true ∧ ∃ (fd : FuncData) (g : List D → R D), (∀ (s : Shared) (u : Value), BindsTo s fd ⟨[u], []⟩ [(x, u)]) ∧
        (∀ ns : List Int, ns.length ≤ n → (∀ z ∈ ns, Builtin.Int.intBits z ≤ 1048576) → g [.scr ns] = .ok (.bl true)) ∧
        ∀ base : Heap, K.In base → base.Ns mainGlobals mg → FnOk l.prog w K mg base (L2.CX l.prog w) k fa fd [x] (spD mg 1 g)) :
    PySem.W.WalkO q loose XP (hookX m ts fn xs).says l.row.toRowW d [] (fun f vs => PySem.call f vs) :=
  Att.attach_callB hn hdf fun w s0 s1 mg mb fa o pm cd doc a vs ns G Y ho hd hcd hmg hobj hints hlen hbits hg => by
    obtain ⟨K, hK, hT⟩ := Y
    obtain ⟨hL, fd, g, hb, hv, hF⟩ := Fl w mg fa K _ hK hT G.T.g hmg
    refine law_call hK G.T.g G.T.b G.T.builtins G.T.nolimit hg hobj hints (Nat.le_trans hlen hn2) hr hF hb (fun H _ hS => ?_) fun H e s' z => ?_
    · have hp : PostD mg (fun _ => False) (g [.scr ns]) H (fun v _ => v = .bl true) fun _ _ _ => False := by
        rw [hv ns hlen hbits]
        exact fun v H' _ h => h
      exact ⟨rfl, [.scr ns], fun _ => False, ⟨_, _, rfl, ⟨a, rfl, fun z => z, noList hL hS⟩, rfl⟩, fun a z => z.elim, hp⟩
    · obtain ⟨_, _, _, _, _, _, _, _, _, _, _, _, z⟩ := z
      exact z.elim
end DS
set_option Elab.async false
set_option linter.all false
set_option maxRecDepth 100000
set_option maxHeartbeats 2000000
namespace DS
open PySem L2 PyProof.Rows
variable {F : Fr} {X : Cx} {W : WX} {a b c e : Expr} {fa fb fc : EF} {pos : Pos} {st : Stmt} {sts : List Stmt} {f g : SF} {tt : TF} {es : List Expr} {fs : List EF}
/-! ### x op= y, both instances of one class without the in-place method -/
def tInp (x : Str) (nm : String) (K : PySem.W.Frag) : Bool := (match PySem.W.clsIn K (He.ga K x) with
  | some cd => cd.mro == [.ref (He.ga K x), .type "object"]
  | none => false) && (He.eqO (PySem.W.findIn K (.ref (He.ga K x)) (PySem.dunderI nm)) (some none) && He.eqO (PySem.W.findIn K (.type "object") (PySem.dunderI nm)) (some none))
structure Inp (K : PySem.W.Frag) (C : Addr) (nm : String) : Prop where
  cls : ∃ cd, PySem.W.clsIn K C = some cd ∧ cd.mro = [.ref C, .type "object"]
  c : PySem.W.findIn K (.ref C) (PySem.dunderI nm) = some none
  o : PySem.W.findIn K (.type "object") (PySem.dunderI nm) = some none
theorem tInp_ok {x : Str} {nm : String} {K : PySem.W.Frag} (h : tInp x nm K = true) : Inp K (He.ga K x) nm := by
  unfold tInp at h
  rw [Bool.and_eq_true, Bool.and_eq_true] at h
  obtain ⟨h1, h2, h3⟩ := h
  refine ⟨?_, He.eqO_ok h2, He.eqO_ok h3⟩
  split at h1
  · rename_i cd hc
    exact ⟨cd, hc, beq_iff_eq.mp h1⟩
  · cases h1
theorem fills_no {K : PySem.W.Frag} {M : Model} {h : Heap} {C : Addr} {nm : String} {add : Bool} (X : K.In h) (J : Inp K C nm) : PySem.W.Looks M h (fillsInplaceSlot (.ref C) nm add) false := by
  intro A Q E s k q
  obtain ⟨cd, hc, hm⟩ := J.cls
  unfold fillsInplaceSlot
  refine wpAny_bind ((PySem.W.looks_clsIn X hc).andThen (f := fun cd => pure cd.mro) .now A _ E s k ?_)
  rw [hm, List.anyM_cons]
  refine wpAny_bind (wpAny_bind (PySem.W.looks_findIn X J.c A _ E s k ?_))
  refine wpAny_pure ?_
  rw [if_neg Bool.false_ne_true, List.anyM_cons]
  refine wpAny_bind (wpAny_bind (PySem.W.looks_findIn X J.o A _ E s k ?_))
  refine wpAny_pure ?_
  rw [if_neg Bool.false_ne_true, List.anyM_nil]
  exact wpAny_pure q
theorem inplace_own {prog : Program} {w : World} {A : Around} {E : Value → Shared → Prop} {s : Shared} {K : PySem.W.Frag} {x C L f : Addr} {h0 : Heap} {m : Str → Option Value} {ox : Obj} {od : Option Obj} {op : Operator} {b : Value} {Q : Value → Shared → Prop}
    (F : PyProof.Rows.Fr h0 L s.heap m) (X0 : K.In h0) (I : PySem.W.InstAt s.heap x ox C od) (hb : PySem.W.Looks (model prog w) s.heap (typeOf b) (.ref C)) (hc : PySem.W.selfFirst K C = true) (J : Inp K C op.info.2)
    (hs : PySem.W.findIn K (.ref C) (PySem.dunder op.info.2) = some (some (.ref f))) (hf : PySem.W.isFn K (.ref f) = true)
    (h : wpAny (model prog w) A (call (.ref f) [.ref x, b]) (PySem.W.CmpBack Q) E s) : wpAny (model prog w) A (inplaceOp op (.ref x) b) Q E s := by
  have X := X0.keeps F.keep
  obtain ⟨cd, hcd, hm⟩ := J.cls
  unfold inplaceOp
  refine wpAny_holding (wpAny_bind (I.type.here (wpAny_bind ((fills_no X J).here ?_))))
  rw [if_neg Bool.false_ne_true]
  refine wpAny_bind ?_
  unfold binaryOp1
  refine wpAny_bind (I.type.here (wpAny_bind (hb.here (wpAny_bind ((PySem.W.fills_K X hcd hm hs).here ?_)))))
  simp only [beq_self_eq_true, if_true]
  refine wpAny_bind (wpAny_pure ?_)
  simp only [Bool.and_false, Bool.false_eq_true, if_false, Bool.false_and]
  refine wpAny_bind (wpAny_pure ?_)
  simp only [Bool.false_eq_true, if_false]
  refine wpAny_bind (m := tryMethod (.ref x) _ b) ?_
  unfold tryMethod
  refine wpAny_bind (PySem.W.special_fn X I hs (beq_iff_eq.mp hf) (wpAny_mono h (fun v s' hv => ?_) fun _ _ e => e))
  cases v <;> first | exact hv.elim | exact wpAny_pure (wpAny_pure (wpAny_pure hv))
/-- i op= e -/
def sAugI (C : Addr) (g : List D → R D) (i : Nat) (f : EF) : SF := fun s => match s[i]? with
  | some (.sh d) => (match f s with
    | .ok e => (match opSp22 C g d e with
      | .ok r => .nx (s.set i (.sh r))
      | .ex c fs => .ex c fs s
      | .no => .no)
    | .ex c fs => .ex c fs s
    | .no => .no)
  | _ => .no
theorem ds_augI {o : Operator} {C : Addr} {k k' : Nat} {gf : List D → R D} (i : Nat) {x : Str} {pos' : Pos} (G : GSp X.prog X.w X.K X.mg X.base k (PySem.dunder o.info.2) C 2 gf) (hc : PySem.W.selfFirst X.K C = true) (J : Inp X.K C o.info.2) (hr : Room k' X.A) (tk : Takes X W) (h : DE F X W e fa) (hN : X.N.Nodup) (hi : X.N[i]? = some x) (hx : Loc X.env.scope x) (hkk : k ≤ k' := by decide)
    (hf : X.fn x = true ∨ X.env.scope.names.lookup x = some .local := by first | exact .inl rfl | exact .inr rfl | assumption) : DX1 F X W (.AugAssign (.Name x pos') o e pos) (sAugI C gf i fa) := by
  obtain ⟨f, fd, ps, G, hfi, hfn, hfi2, hb2⟩ := G
  refine ⟨⟨fun pins s σ H T I ⟨sd, rel, p⟩ => ?_⟩⟩
  unfold sAugI at p
  cases qi : sd[i]? with
  | none => rw [qi] at p; exact p.elim
  | some t =>
    rw [qi] at p
    obtain ⟨v0, ev, hh⟩ := rel.slot i t qi
    cases t with
    | sh d =>
      dsimp only at p
      obtain ⟨x0, rfl, hd⟩ := hh
      obtain ⟨m, hn, hl⟩ := I.loc
      have vis : Vis X.env.scope x := hx.elim .inl fun k => .inr (.inl k)
      obtain ⟨u, r, l⟩ := hl i x x0 hi ev vis
      refine wpAny_AugAssign_Name ?_
      have go : wpAny (model X.prog X.w) X.A (eval e X.env) (fun w s2 => wpAny (model X.prog X.w) X.A (inplaceOp o u w) (fun r s3 => wpAny (model X.prog X.w) X.A (storeName X.env x r) (fun _ => SP X pins T .next) X.xe s3) X.xe s2) X.xe s := by
        refine thn (h.pe.run pins s σ H (fun y H1 => ∃ a dx ws b dy wt, x0 = .ref a ∧ y = .ref b ∧ H1 a = some (.ins C dx ws) ∧ H1 b = some (.ins C dy wt) ∧ spD X.mg 2 gf [x0, y] H1 (fun z H2 => T.nx (σ.set i (some z)) H2) (WE W σ)) I ⟨sd, rel, ?_⟩) fun w s1 ⟨y, H1, I1, r1, q1⟩ => ?_
        · cases q : fa sd with
          | no => rw [q] at p; exact p
          | ex c fs => rw [q] at p; exact post_ex (bb := false) rel p
          | ok e2 =>
            rw [q] at p
            dsimp only at p
            intro y H1 s1 hy
            have hy : Holds H1 (Av F σ sd) e2 y := hy
            have hd1 := hd.same s1
            have r1 := rel.mono s1
            unfold opSp22 at p
            split at p
            · rename_i zz hz
              cases d with
              | ins C1 fs1 =>
                cases e2 with
                | ins C2 fs2 =>
                  dsimp only at hz
                  by_cases hC : C1 = C ∧ C2 = C
                  · rw [if_pos hC] at hz
                    obtain ⟨rfl, rfl⟩ := hC
                    have h1c := hd1
                    have h2c := hy
                    obtain ⟨a1, dx, ws, rfl, na, ra, la⟩ := hd1
                    obtain ⟨a2, dy, wt, rfl, na2, ra2, la2⟩ := hy
                    refine ⟨a1, dx, ws, a2, dy, wt, rfl, rfl, ra, ra2, rfl, [_, _], Av F σ sd, ⟨_, _, rfl, h1c, _, _, rfl, h2c, rfl⟩, fun a z => r1.dom z, ?_⟩
                    rw [hz]
                    exact fun z H2 s2 hz => p _ H2 ((r1.mono s2).set i hz) (ExtS.same (s1.trans s2) fun a z => own_set rfl rel.len z)
                  · rw [if_neg hC] at hz; cases hz
                | _ => cases hz
              | _ => cases hz
            · rename_i c fs hz
              cases d with
              | ins C1 fs1 =>
                cases e2 with
                | ins C2 fs2 =>
                  dsimp only at hz
                  by_cases hC : C1 = C ∧ C2 = C
                  · rw [if_pos hC] at hz
                    obtain ⟨rfl, rfl⟩ := hC
                    have h1c := hd1
                    have h2c := hy
                    obtain ⟨a1, dx, ws, rfl, na, ra, la⟩ := hd1
                    obtain ⟨a2, dy, wt, rfl, na2, ra2, la2⟩ := hy
                    refine ⟨a1, dx, ws, a2, dy, wt, rfl, rfl, ra, ra2, rfl, [_, _], Av F σ sd, ⟨_, _, rfl, h1c, _, _, rfl, h2c, rfl⟩, fun a z => r1.dom z, ?_⟩
                    rw [hz]
                    exact fun cls da H2 s2 xr => post_ex (bb := false) (Q := fun _ _ => True) rel p cls da H2 (s1.trans s2) xr
                  · rw [if_neg hC] at hz; cases hz
                | _ => cases hz
              | _ => cases hz
            · exact p.elim
        · obtain ⟨a1, dx, ws, b1, dy, wt, rfl, rfl, ra, ra2, q⟩ := q1
          cases (show u = Value.ref a1 from r)
          cases (show w = Value.ref b1 from r1)
          obtain ⟨od, J1⟩ := ins_inst I1 ra
          obtain ⟨od2, J2⟩ := ins_inst I1 ra2
          obtain ⟨m1, hF⟩ := I1.fr
          refine wpAny_mono (inplace_own (f := f) (Q := EP X pins σ fun z H2 => T.nx (σ.set i (some z)) H2) hF I1.ok.mod.kin J1 J2.type hc J hfi hfn ?_) (fun z s2 ⟨zv, H2, I2, r2, q2⟩ => store_ok I2 hN hi hx r2 (fun s3 I3 => ⟨_, H2, I3, q2⟩) hf) fun _ _ x => x
          refine wpAny_mono (run_fnS (E := WE W) (us := [.ref a1, .ref b1]) (vs := [.ref a1, .ref b1]) G (hr.mono hkk) hb2 (passAt tk σ) I1 (.cons rfl (.cons rfl .nil)) q) (fun w s' z => ?_) fun _ _ x => x
          obtain ⟨z', H', I', rz, qz⟩ := z
          exact SlX.cmpback rz ⟨z', H', I', rz, qz⟩
      rcases l with ⟨hk, hm⟩ | ⟨hk, c, hc2, hcell⟩
      · exact wpAny_loadName_local I.ok.kind hk hn hm go
      · rcases hk with hk | hk
        · exact wpAny_loadName_cell I.ok.kind hk hc2 hcell go
        · rcases hx with k | k
          · have z : X.env.scope.names.lookup x = some .free := hk
            rw [k] at z; cases z
          · have z : X.env.scope.names.lookup x = some .free := hk
            rw [k] at z; cases z
    | _ => exact p.elim
end DS
set_option Elab.async false
set_option linter.all false
set_option maxRecDepth 100000
set_option maxHeartbeats 2000000
namespace DS
open PySem L2 PyProof.Rows
/-- x op k, x an instance, k a whole number -/
def tBinT (x : Str) (o : Operator) (K : PySem.W.Frag) : Bool := PySem.W.selfFirst K (He.ga K x) && (He.eqO (PySem.W.findIn K (.ref (He.ga K x)) (PySem.dunderR o.info.2)) (some none) && ((PySem.W.findIn K (.type "int") (PySem.dunder o.info.2)).isSome && ((PySem.W.findIn K (.type "int") (PySem.dunderR o.info.2)).isSome &&
  decide (PySem.W.subIn K (.type "int") (.ref (He.ga K x)) = some false))))
theorem tBinT_ok {x : Str} {o : Operator} {K : PySem.W.Frag} (h : tBinT x o K = true) : BinT K (He.ga K x) o "int" := by
  unfold tBinT at h
  simp only [Bool.and_eq_true] at h
  obtain ⟨h1, h2, h3, h4, h5⟩ := h
  exact ⟨h1, He.eqO_ok h2, Option.isSome_iff_exists.mp h3, Option.isSome_iff_exists.mp h4, of_decide_eq_true h5⟩

/-! ### new lists by operators -/
variable {F : Fr} {X : Cx} {W : WX} {a b c e : Expr} {fa fb fc : EF} {pos : Pos}
theorem tn2 {b1 b2 : Bool} {op : D → D → R ND} {mg : Str → Option Value} {σ : L2.St} {H : Hp} {Q : VK} {r : V → V → Hp → Prop} {sd : SD} (rel : Rel F σ H sd)
    (p : PostN mg W F σ sd ((fa sd).bind fun x => (fb sd).bind fun y => op x y) H Q)
    (hr : ∀ (d e : D), fa sd = .ok d → fb sd = .ok e → ∀ (v w : V) (H2 : Hp), Rel F σ H2 sd → (if b1 = true then HoldsB H2 (Av F σ sd) d v else Holds H2 (Av F σ sd) d v) → (if b2 = true then HoldsB H2 (Av F σ sd) e w else Holds H2 (Av F σ sd) e w) → PostN mg W F σ sd (op d e) H2 Q → r v w H2) :
    TEx b1 F mg W fa σ H fun v H1 => TEx b2 F mg W fb σ H1 (r v) := by
  refine ⟨sd, rel, ?_⟩
  cases q : fa sd with
  | ok d =>
    rw [q] at p
    intro v H2 s h
    refine ⟨sd, rel.mono s, ?_⟩
    cases q2 : fb sd with
    | ok e =>
      rw [R.bind_ok, q2] at p
      intro w H3 s3 h3
      refine hr d e q q2 v w H3 ((rel.mono s).mono s3) ?_ h3 (PostN.mono (s.trans s3) p)
      by_cases hb : b1 = true
      · rw [if_pos hb] at h ⊢; exact h.same s3
      · rw [if_neg hb] at h ⊢; exact h.same s3
    | ex c fs => rw [R.bind_ok, q2] at p; exact PostN.mono (r := .ex c fs) s p
    | no => rw [R.bind_ok, q2] at p; exact p
  | ex c fs => rw [q] at p; exact p
  | no => rw [q] at p; exact p
def opRepN : D → D → R ND
  | .lst xs, .int k => if k.natAbs < 2 ^ 61 ∧ xs.length * k.toNat ≤ sizeLine then .ok (.nl (List.replicate k.toNat xs).flatten) else .no
  | _, _ => .no
def opCatN : D → D → R ND
  | .lst i, .lst j => if i.length + j.length ≤ sizeLine then .ok (.nl (i ++ j)) else .no
  | _, _ => .no
def nBin (op : D → D → R ND) (fa fb : EF) : NF := fun s => (fa s).bind fun x => (fb s).bind fun y => op x y
theorem dn_rep (ha : DB F X W a fa) (hb : DB F X W b fb) : DN F X W (.BinOp a .Mult b pos) (nBin opRepN fa fb) :=
  ⟨PE.weak (pe_op op_rep ha.pe hb.pe) fun σ H Q ⟨sd, rel, p⟩ => tn2 (b1 := true) (b2 := true) rel p fun d e q1 q2 v w H2 r2 h1 h2 p2 => by
    unfold opRepN at p2
    split at p2
    · obtain ⟨l, vs, rfl, hl, hh⟩ := h1
      cases h2
      split at p2
      · rename_i hc
        exact ⟨l, _, vs, rfl, rfl, hl, by omega, by omega, by rw [hh.length]; exact hc.2, fun q hq => new_nl r2 p2 (holdsL_rep hh _) q hq⟩
      · exact p2.elim
    · exact p2.elim⟩
theorem dn_cat (ha : DB F X W a fa) (hb : DB F X W b fb) : DN F X W (.BinOp a .Add b pos) (nBin opCatN fa fb) :=
  ⟨PE.weak (pe_op op_cat ha.pe hb.pe) fun σ H Q ⟨sd, rel, p⟩ => tn2 (b1 := true) (b2 := true) rel p fun d e q1 q2 v w H2 r2 h1 h2 p2 => by
    unfold opCatN at p2
    split at p2
    · obtain ⟨l, vs, rfl, hl, hh⟩ := h1
      obtain ⟨m, ws, rfl, hm, hk⟩ := h2
      split at p2
      · rename_i hc
        exact ⟨l, m, vs, ws, rfl, rfl, hl, hm, by rw [hh.length, hk.length]; exact hc, fun q hq => new_nl r2 p2 (hh.append hk) q hq⟩
      · exact p2.elim
    · exact p2.elim⟩
end DS
set_option Elab.async false
set_option linter.all false
set_option maxRecDepth 100000
set_option maxHeartbeats 2000000
/-! Defs that return a new list or dict: the caller may change it. -/
namespace DS
open PySem L2 PyProof.Rows
variable {F : Fr} {X : Cx} {W : WX} {a b c e : Expr} {fa fb fc : EF} {pos : Pos} {st : Stmt} {sts : List Stmt} {f g : SF} {tt : TF} {es : List Expr} {fs : List EF}
def sRetN (f : NF) : SF := fun s => match f s with
  | .ok n => .rn n
  | .ex c fs => .ex c fs s
  | .no => .no
theorem slok_less {F' : Fr} {H : Hp} {A A' : Addr → Prop} {v : Option V} : ∀ {n : ND}, (∀ a, A' a → A a) → SlOk F' H A v n.sl → SlOk F' H A' v n.sl
  | .nl ds, k, ⟨a, vs, e, n, r, l⟩ => ⟨a, vs, e, n, r, l.less k⟩
  | .nd ds, k, ⟨a, vs, e, n, r, l⟩ => ⟨a, vs, e, n, r, HoldsK.up (up_own k) _ l⟩
theorem ds_retL {fn : NF} (h : DN F X W e fn) : DX1 F X W (.Return (some e) pos) (sRetN fn) :=
  ⟨PS.weak (ps_ret h.pe) fun T σ H ⟨sd, rel, p⟩ => ⟨sd, rel, by
    unfold sRetN at p
    cases q : fn sd with
    | no => rw [q] at p; exact p
    | ex c fs => rw [q] at p; exact fun cls da H' s h => post_ex (bb := false) (Q := fun _ _ => True) rel p cls da H' s h
    | ok n =>
      rw [q] at p
      intro pa H' s hn hp h
      exact p pa H' (rel.same.trans s) (rel.same.free hn) (fun z => rel.bdom _ z hn) fun F' h0 => slok_less (fun a z => z.imp_left .inl) (h F' h0)⟩⟩
def PostDN (mg : Str → Option Value) (B : Addr → Prop) (r : R ND) (H : Hp) (Q : VK) (E : XK) : Prop := match r with
  | .ok n => ∀ p H', Same H H' → H p = none → ¬ B p → (∀ F' : Fr, F'.H0 p = none → SlOk F' H' (fun a => B a ∨ a = p) (some (.ref p)) n.sl) → Q (.ref p) H'
  | .ex c fs => ∀ cls da H', Same H H' → ExRep mg H' B c fs cls da → E cls da H'
  | .no => False
def spN (mg : Str → Option Value) (n : Nat) (g : List D → R ND) : Sp := fun vs H Q E => vs.length = n ∧ ∃ ds B, HoldsL H B ds vs ∧ (∀ a, B a → H a ≠ none) ∧ PostDN mg B (g ds) H Q E
def retN : SO → R ND
  | .rn n => .ok n
  | .ex c fs _ => .ex c fs
  | _ => .no
def runN (k : Nat) (f : SF) (ds : List D) : R ND := retN (f (ds.map .sh ++ List.replicate k .un))
section
variable {P : Program} {w : World} {K : PySem.W.Frag} {mg : Str → Option Value} {base : Heap}
structure GFnN (P : Program) (w : World) (K : PySem.W.Frag) (mg : Str → Option Value) (base : Heap) (k : Nat) (x : Str) (n : Nat) (g : List D → R ND) : Prop where
  ex : ∃ f fd ps, FnOk P w K mg base (L2.CX P w) k f fd ps (spN mg n g) ∧ mg x = some (.ref f) ∧ PySem.W.keepIn K (.ref f) = true ∧ Binds K fd ps []
structure GMtN (P : Program) (w : World) (K : PySem.W.Frag) (mg : Str → Option Value) (base : Heap) (k : Nat) (m : Str) (C : Addr) (n : Nat) (g : List D → R ND) : Prop where
  ex : ∃ f fd ps, FnOk P w K mg base (L2.CX P w) k f fd ps (spN mg n g) ∧ Cls K C ∧ Meth K C m f ∧ Binds K fd ps []
theorem body_endN {X : Cx} {k : Nat} {f : SF} {ds : List D} {vs : List V} {N : List Str} {H : Hp} {B : Addr → Prop} {Q : VK} {E : XK} (h : HoldsL H B ds vs) (hB : ∀ a, B a → H a ≠ none) (hk : N.length - vs.length = k)
    (p : PostDN mg B (runN k f ds) H Q E) : TSx ⟨H, B, 0⟩ mg (fun cls d _ H' => E cls d H') f { nx := fun _ H' => Q .non H', rt := Q } (L2.start N vs) H := by
  refine ⟨_, start_rel h hB hk, ?_⟩
  unfold runN retN at p
  cases q : f (ds.map .sh ++ List.replicate k .un) with
  | rn n => rw [q] at p; exact p
  | ex c fs s' => rw [q] at p; exact fun cls da σ' H' r _ x => p cls da H' r.same x
  | nx s' => rw [q] at p; exact p.elim
  | rt d => rw [q] at p; exact p.elim
  | bk s' => rw [q] at p; exact p.elim
  | ct s' => rw [q] at p; exact p.elim
  | no => rw [q] at p; exact p
theorem fn_okN {x qual : Str} {st : Stmt} {f : Addr} {fd : FuncData} {N ps : List Str} {k kk n : Nat} {body : SF} (Fn : Fun K x qual st f fd) (S : FnScope N ps (defScope st)) (hn : ps.length = n) (hk : N.length - n = kk)
    (hb : ∀ (F : Fr) (W : WX) (cdv : Value) (A : Around) (outer : List Env) (s : Shared) (H : Hp) (E : XK), Room k (A.deeper (envOfC qual (defScope st) s.heap.objs.size f cdv)) →
      Takes (cxOf (L2.CX P w) P w K mg base N qual (defScope st) f cdv A outer s H E) W → PassesOwn (model P w) (A.deeper (envOfC qual (defScope st) s.heap.objs.size f cdv)) (envOfC qual (defScope st) s.heap.objs.size f cdv) (cxOf (L2.CX P w) P w K mg base N qual (defScope st) f cdv A outer s H E).xe →
      DXs F (cxOf (L2.CX P w) P w K mg base N qual (defScope st) f cdv A outer s H E) W (defBody st) body) :
    FnOk P w K mg base (L2.CX P w) (k + 1) f fd ps (spN mg n (runN kk body)) := by
  subst hn
  refine Fn.okX S (fun vs H Q E h => h.1) fun cdv A outer s H vs Q E hr h => ?_
  obtain ⟨hl, ds, B, hh, hB, p⟩ := h
  refine ⟨_, (hb ⟨H, B, 0⟩ (fun cls d _ H' => E cls d H') cdv A outer s H E hr (takes_of rfl rfl rfl rfl) (passes_of rfl)).ps, ?_⟩
  exact body_endN (X := cxOf (L2.CX P w) P w K mg base N qual (defScope st) f cdv A outer s H E) hh hB (by rw [hl]; exact hk) p
end
/-- f(..), its result new -/
theorem dn_call {x : Str} {k k' n : Nat} {gf : List D → R ND} {p : Pos} (G : GFnN X.prog X.w X.K X.mg X.base k x n gf) (hr : Room k' X.A) (hg : Gl X x) (tk : Takes X W) (ha : DA false F X W (e :: es) fs) (hfs : fs.length = n := by rfl) (hkk : k ≤ k' := by decide)
    (hdb : (x == ("__debug__" : Str)) = false := by decide) (he : starEach (e :: es) X.env = (false, eval e X.env) :: starEach es X.env := by rfl) (hpl : (backTo pos (starEach es X.env)).any (·.1) = false := by rfl) :
    DN F X W (.Call (.Name x p) (e :: es) [] pos) (nAll gf fs) := by
  obtain ⟨f, fd, ps, G, hm, hk, hb⟩ := G
  refine ⟨PE.weak (pe_callS G (hr.mono hkk) hg hm hk hb (fun σ => passAt tk σ) ha.pa hdb he hpl) fun σ H Q ⟨sd, rel, p⟩ => ?_⟩
  refine ⟨sd, rel, ?_⟩
  unfold nAll at p
  cases q : evalL fs sd with
  | no => rw [q] at p; exact p
  | ex c fs => rw [q] at p; exact p
  | ok ds =>
    rw [q, R.bind_ok] at p
    intro vs H2 s2 hv
    have r2 := rel.mono s2
    refine ⟨by rw [hv.l.length, evalL_length q]; exact hfs, ds, Av F σ sd, hv.l, fun a z => r2.dom z, ?_⟩
    cases q2 : gf ds with
    | no => rw [q2] at p; exact p
    | ex c fs => rw [q2] at p; exact fun cls da H' s x => p cls da H' (s2.trans s) x
    | ok n =>
      rw [q2] at p
      intro pa H' s hn nb h
      refine p pa H' (s2.trans s) (s2.free hn) (fun z => ?_) h
      have h := h ⟨fun _ => none, fun _ => False, 0⟩ rfl
      cases n with
      | nl ds => obtain ⟨a, vs, e, _, r, l⟩ := h; cases e; rw [r] at z; cases z
      | nd ds => obtain ⟨a, vs, e, _, r, l⟩ := h; cases e; rw [r] at z; cases z
end DS
set_option Elab.async false
set_option linter.all false
set_option maxRecDepth 100000
set_option maxHeartbeats 2000000
/-! Exceptions of own classes as values. -/
namespace DS
open PySem L2 PyProof.Rows PySem.Calls
variable {F : Fr} {X : Cx} {W : WX} {a b c e : Expr} {fa fb fc : EF} {pos : Pos} {st : Stmt} {sts : List Stmt} {f g : SF} {tt : TF} {es : List Expr} {fs : List EF}
/-- C(..), C's own __init__ keeping sp: the exception stays -/
def tMkV (C : Addr) (sp : Sp) (ta : TA) : TE := fun σ H Q => ta σ H fun vs H1 => vs.length ≤ 1000 ∧ ∀ a, H1 a = none → sp (.ref a :: vs) (upd H1 a (exo a C none)) (fun v H2 => v = .non ∧ Q (.ref a) H2) (fun _ _ _ => False)
theorem run_mkV {CX : CXT} {C fI : Addr} {k : Nat} {fd : FuncData} {ps : List Str} {sp : Sp} {pins : List (Addr × Obj)} {σ : L2.St} {H1 : Hp} {s1 : Shared} {Q : VK} {us : List Value} {vs : List V} (T : OexC X.K C) (iC : PySem.W.findIn X.K (.ref C) "__init__" = some (some (.ref fI))) (tI : PySem.W.typeIn X.K (.ref fI) = some (.type "function"))
    (F1 : FnOk X.prog X.w X.K X.mg X.base CX k fI fd ps sp) (hr : Room (k + 1) X.A) (hb : Binds X.K fd ps []) (hx : Passes CX X (fun _ _ _ => False)) (I1 : Inv X pins σ H1 s1) (r1 : Vals vs us) (hz : vs.length ≤ 1000)
    (q1 : ∀ a, H1 a = none → sp (.ref a :: vs) (upd H1 a (exo a C none)) (fun v H2 => v = .non ∧ Q (.ref a) H2) (fun _ _ _ => False)) : wpAny (model X.prog X.w) X.A (call (.ref C) us) (EP X pins σ Q) X.xe s1 := by
  obtain ⟨nm, q, N, bs, bm, sn, sub, ab, col, dd, k0, k1, k2, k3, k5, hC, hbm⟩ := T.cls
  obtain ⟨hp, g, dr, tk, os⟩ := s1
  have hsz : hp.objs.size ≤ hp.objs.size + 1 := Nat.le_succ _
  have hn : H1 (hp.objs.size + 1) = none := I1.hok.fresh hsz
  have hq := q1 (hp.objs.size + 1) hn
  have kk : ∀ b o, hp.get? b = some o → ((hp.push (PySem.W.kdv_tup us)).push (PySem.HandSPX.excO C hp.objs.size)).get? b = some o := fun b o e => Heap.get?_push_of_some _ (Heap.get?_push_of_some _ e)
  have hget : ((hp.push (PySem.W.kdv_tup us)).push (PySem.HandSPX.excO C hp.objs.size)).get? (hp.objs.size + 1) = some (PySem.HandSPX.excO C hp.objs.size) := by heap_get
  have I2 : Inv X pins σ (upd H1 (hp.objs.size + 1) (exo (hp.objs.size + 1) C none)) ⟨(hp.push (PySem.W.kdv_tup us)).push (PySem.HandSPX.excO C hp.objs.size), g, dr, tk, os⟩ :=
    I1.laid (t' := tk) (a := hp.objs.size + 1) (o := exo (hp.objs.size + 1) C none) (h' := (hp.push (PySem.W.kdv_tup us)).push (PySem.HandSPX.excO C hp.objs.size)) kk hsz (exo_ok hget)
  have r2 : Vals (V.ref (hp.objs.size + 1) :: vs) (Value.ref (hp.objs.size + 1) :: us) := .cons rfl r1
  have hl : (Value.ref (hp.objs.size + 1) :: us).length = ps.length := by
    have e := r2.length
    rw [F1.len _ _ _ _ hq] at e
    exact e.symm
  have hus : us.length ≤ sizeLine := by
    rw [← Paired.length r1, sizeLine_eq]
    omega
  have b := hb { heap := (hp.push (PySem.W.kdv_tup us)).push (PySem.HandSPX.excO C hp.objs.size), gens := g, drawn := dr, toks := tk, os := os } (Value.ref (hp.objs.size + 1) :: us) I2.kIn (by rw [List.append_nil]; exact hl)
  rw [List.append_nil] at b
  refine wpAny_call (PySem.HandSPX.call_own PySem.F.excBase_ValueError (fun Y => PySem.HandSPX.refsVE_contains Y bm hbm) (I1.kIn _ _ hC) (PySem.W.looks_findIn I1.kIn iC) (fun self => PySem.W.bind_fn I1.kIn self tI) hus
    (codeAny_mono (F1.run _ X.stack _ _ ⟨Value.ref (hp.objs.size + 1) :: us, []⟩ (Value.ref (hp.objs.size + 1) :: us) _ _ (fun _ _ _ => False) (hr.make C us []) (I2.env0.make C us []) b r2 hq) fun r s' hq' => ?_))
  cases r with
  | error er => exact hx pins σ _ _ er s' I2 hq'
  | ok fl =>
    cases fl with
    | ret u =>
      obtain ⟨v, H2, I3, rv, ev, q2⟩ := I2.after hq'
      subst ev
      exact ⟨rv, V.ref (hp.objs.size + 1), H2, I3, rfl, q2⟩
    | next => exact False.elim hq'
    | brk => exact False.elim hq'
    | cont => exact False.elim hq'
theorem pe_mkV {CX : CXT} {x : Str} {C fI : Addr} {k : Nat} {fd : FuncData} {ps : List Str} {sp : Sp} {p : Pos} {ta : TA} (T : OexC X.K C) (iC : PySem.W.findIn X.K (.ref C) "__init__" = some (some (.ref fI))) (tI : PySem.W.typeIn X.K (.ref fI) = some (.type "function"))
    (F1 : FnOk X.prog X.w X.K X.mg X.base CX k fI fd ps sp) (hr : Room (k + 1) X.A) (hb : Binds X.K fd ps []) (hx : Passes CX X (fun _ _ _ => False)) (hg : Gl X x) (hm : X.mg x = some (.ref C)) (ha : PA X (e :: es) ta)
    (hdb : (x == ("__debug__" : Str)) = false := by decide) (he : starEach (e :: es) X.env = (false, eval e X.env) :: starEach es X.env := by rfl) (hpl : (backTo pos (starEach es X.env)).any (·.1) = false := by rfl) :
    PE X (.Call (.Name x p) (e :: es) [] pos) (tMkV C sp ta) := by
  refine ⟨fun pins s σ H Q I h => ?_⟩
  refine wpAny_Call_Name_kw (ld_glob I hg hm ?_ hdb)
  refine PySem.W.callWith_K (h₀ := X.base) I.ok.mod.kin T.kC (thn (ha.run pos pins s σ H _ I h) fun us s1 ⟨vs, H1, I1, r1, hz, q1⟩ => ⟨I1.kIn, ?_⟩) he hpl
  exact run_mkV T iC tI F1 hr hb hx I1 r1 hz q1
theorem pe_mkV0 {CX : CXT} {x : Str} {C fI : Addr} {k : Nat} {fd : FuncData} {ps : List Str} {sp : Sp} {p : Pos} (T : OexC X.K C) (iC : PySem.W.findIn X.K (.ref C) "__init__" = some (some (.ref fI))) (tI : PySem.W.typeIn X.K (.ref fI) = some (.type "function"))
    (F1 : FnOk X.prog X.w X.K X.mg X.base CX k fI fd ps sp) (hr : Room (k + 1) X.A) (hb : Binds X.K fd ps []) (hx : Passes CX X (fun _ _ _ => False)) (hg : Gl X x) (hm : X.mg x = some (.ref C))
    (hdb : (x == ("__debug__" : Str)) = false := by decide) : PE X (.Call (.Name x p) [] [] pos) (tMkV C sp tNil) := by
  refine ⟨fun pins s σ H Q I h => ?_⟩
  refine wpAny_Call_Name_kw (ld_glob I hg hm ?_ hdb)
  exact PySem.W.callWith_K0 I.kIn T.kC (run_mkV (us := []) (vs := []) T iC tI F1 hr hb hx I .nil h.1 h.2)
def eMkX (x fld : Str) (C : Addr) (f : EF) : EF := fun s => (f s).bind fun d => .ok (.exc x C [(fld, d)])
theorem de_mkX {x fld : Str} {C : Addr} {k : Nat} {p : Pos} (G : GEx X.prog X.w X.K X.mg X.base x C fld) (hr : Room k X.A) (hg : Gl X x) (tk : Takes X W) (h : DE F X W e fa) (hkk : 2 ≤ k := by decide)
    (hdb : (x == ("__debug__" : Str)) = false := by decide) (he : starEach (e :: []) X.env = (false, eval e X.env) :: starEach [] X.env := by rfl) (hpl : (backTo pos (starEach [] X.env)).any (·.1) = false := by rfl) :
    DE F X W (.Call (.Name x p) [e] [] pos) (eMkX x fld C fa) := by
  obtain ⟨f, fd, ps, G, iC, tI, hb, T, hm⟩ := G
  refine ⟨PE.weak (pe_mkV T iC tI G (hr.mono hkk) hb (passes_none tk) hg hm (da_cons h da_nil he).pa hdb he hpl) fun σ H Q ⟨sd, rel, p⟩ => ⟨sd, rel, ?_⟩⟩
  unfold eMkX at p
  simp only [evalL]
  cases q : fa sd with
  | no => rw [q] at p; exact p
  | ex c fs => rw [q] at p; exact p
  | ok d =>
    rw [q] at p
    intro vs H1 s1 hv
    obtain ⟨v, r, rfl, h1, rfl⟩ := hv
    have r1 := rel.mono s1
    refine ⟨by simp, fun a na => ⟨a, v, rfl, upd_same, fun dx nd ne => ⟨rfl, ?_⟩⟩⟩
    have nd1 : H1 dx = none := by rw [upd_ne ne] at nd; exact nd
    have sf : Same H1 (upd (upd (upd H1 a (exo a C none)) dx (exd dx [(fld, v)])) a (exo a C (some dx))) := fun b o hb => by
      have nb : b ≠ a := ne_of_none hb na
      rw [upd_ne nb, upd_ne (ne_of_none hb nd1), upd_ne nb]
      exact hb
    have h1 : Holds H1 (Av F σ sd) d v := h1
    exact p _ _ (s1.trans sf) ⟨a, some dx, [(fld, v)], rfl, fun z => r1.dom z na, upd_same, .inr ⟨dx, rfl, fun z => r1.dom z nd1, by rw [upd_ne ne, upd_same]⟩, v, [], rfl, h1.same sf, rfl⟩
structure GEx0 (P : Program) (w : World) (K : PySem.W.Frag) (mg : Str → Option Value) (base : Heap) (x : Str) (C : Addr) : Prop where
  ex : ∃ f fd ps, FnOk P w K mg base (L2.CX P w) 1 f fd ps (spEx0 C) ∧ PySem.W.findIn K (.ref C) "__init__" = some (some (.ref f)) ∧ PySem.W.typeIn K (.ref f) = some (.type "function") ∧ Binds K fd ps [] ∧ OexC K C ∧ mg x = some (.ref C)
theorem de_mkX0 {x : Str} {C : Addr} {k : Nat} {p : Pos} (G : GEx0 X.prog X.w X.K X.mg X.base x C) (hr : Room k X.A) (hg : Gl X x) (tk : Takes X W) (hkk : 2 ≤ k := by decide) (hdb : (x == ("__debug__" : Str)) = false := by decide) :
    DE F X W (.Call (.Name x p) [] [] pos) (eC (.exc x C [])) := by
  obtain ⟨f, fd, ps, G, iC, tI, hb, T, hm⟩ := G
  refine ⟨PE.weak (pe_mkV0 T iC tI G (hr.mono hkk) hb (passes_none tk) hg hm hdb) fun σ H Q ⟨sd, rel, p⟩ => ?_⟩
  refine ⟨by simp, fun a na => ⟨a, rfl, upd_same, rfl, ?_⟩⟩
  have sf : Same H (upd H a (exo a C none)) := fun b o hb => by rw [upd_ne (ne_of_none hb na)]; exact hb
  exact p _ _ sf ⟨a, none, [], rfl, fun z => rel.dom z na, upd_same, .inl ⟨rfl, rfl⟩, rfl⟩
/-- e.f, e such an exception -/
def opXFld (C : Addr) (f : Str) : D → R D
  | .exc _ C' fs => if C' = C then (match fs.lookup f with
    | some d => .ok d
    | none => .no) else .no
  | _ => .no
theorem pe_xfv {C : Addr} {n : Str} {te : TE} (T : XfC X.K C) (hno : PySem.W.findIn X.K (.ref C) n = some none) (he : PE X e te) (hb : attributeBase e n X.env (eval e X.env) = eval e X.env := by rfl) :
    PE X (.Attribute e n pos) (fun σ H Q => te σ H fun x H1 => ∃ (a dx : Addr) (fs : List (Str × V)) (v : V), x = .ref a ∧ H1 a = some (exo a C (some dx)) ∧ H1 dx = some (exd dx fs) ∧ fs.lookup n = some v ∧ Q v H1) := by
  refine ⟨fun pins s σ H Q I h => ?_⟩
  refine attr_of hb (thn (he.run pins s σ H _ I h) fun u s1 hh => ?_)
  obtain ⟨x, H1, I1, rx, a, dx, fs, v, ex, ea, ed, l, q⟩ := hh
  subst ex
  obtain rfl : u = Value.ref a := rx
  obtain ⟨t1, ho⟩ := exo_at I1.hok ea
  obtain ⟨mA, hns, hr⟩ := exd_at I1.hok ed
  obtain ⟨od, hod, hl⟩ := lookIn_ns hns
  obtain ⟨u, hu, ru⟩ := RelO.some_of (v := v) (o := mA n) (by rw [← l]; exact hr n)
  have J : PySem.W.InstAt s1.heap a _ C (some od) := ⟨ho, rfl, rfl, hod⟩
  exact HandSPX.exc_get I1.kIn J T.ga T.gg T.exC (PySem.W.findObj_own T.hdC hno rfl (by rw [hl, hu])) (handed_of ru) ⟨v, H1, I1.tok _, ru, q⟩
theorem de_xfv {C : Addr} {n : Str} (T : XfC X.K C) (hno : PySem.W.findIn X.K (.ref C) n = some none) (ha : DB F X W e fa) (hb : attributeBase e n X.env (eval e X.env) = eval e X.env := by rfl) : DE F X W (.Attribute e n pos) (eUn (opXFld C n) fa) :=
  ⟨PE.weak (pe_xfv T hno ha.pe hb) fun σ H Q ⟨sd, rel, p⟩ => te1s rel p fun d q v H2 r2 hv p2 => by
    unfold opXFld at p2
    split at p2
    · split at p2
      · rename_i hc
        subst hc
        split at p2
        · rename_i d2 hd2
          obtain ⟨a, od, ws, rfl, na, r, qd, l⟩ := hv
          obtain ⟨v, e2, h2⟩ := l.look hd2
          rcases qd with ⟨rfl, rfl⟩ | ⟨dx, rfl, nd, hd⟩
          · cases e2
          · exact ⟨a, dx, ws, v, rfl, r, hd, e2, ok_p p2 h2⟩
        · exact p2.elim
      · exact p2.elim
    · exact p2.elim⟩
/-- isinstance(e, c), e such an exception -/
def rIsX (K : PySem.W.Frag) : List V → Hp → VK → Prop := fun xs H Q => ∃ (a C : Addr) (od : Option Addr) (c : V) (u : Value) (b : Bool), xs = [.ref a, c] ∧ ClsV c u ∧ H a = some (exo a C od) ∧ (od = none ∨ ∃ dx ws, od = some dx ∧ H dx = some (exd dx ws)) ∧ ExcC K C ∧ PySem.W.kitOne K (.ref C) u = some b ∧ Q (.bl b) H
theorem call_isX : CallR X (.builtin "isinstance") (rIsX X.K) := by
  intro pins s σ H xs us Q I r h
  obtain ⟨a, C, od, c, u, b, rfl, k, ha, hd, T, e, q⟩ := h
  cases r with
  | cons rx rr =>
    cases rr with
    | cons rt rr =>
      cases rr
      cases rx
      have ec := k.eq rt
      subst ec
      obtain ⟨t1, ho⟩ := exo_at I.hok ha
      have hcl : (PySem.W.clsIn X.K C).isSome = true := by
        obtain ⟨cd, hc, _⟩ := PySem.W.any_some T.hd
        rw [hc]; rfl
      rcases hd with rfl | ⟨dx, ws, rfl, hd⟩
      · have J : PySem.W.InstAt s.heap a _ C none := ⟨ho, rfl, rfl, trivial⟩
        exact PySem.W.kia_one (PySem.W.kitx_exc hcl T.hg T.hk T.hs T.ha T.hn T.ht T.hm) I.kIn J e (fun z => nomatch z) fun tk => ⟨.bl b, H, I.kept (t' := tk) fun _ _ z => z, rfl, q⟩
      · obtain ⟨mA, hns, _⟩ := exd_at I.hok hd
        obtain ⟨od, hod, _⟩ := lookIn_ns hns
        have J : PySem.W.InstAt s.heap a _ C (some od) := ⟨ho, rfl, rfl, hod⟩
        exact PySem.W.kia_one (PySem.W.kitx_exc hcl T.hg T.hk T.hs T.ha T.hn T.ht T.hm) I.kIn J e (fun z => nomatch z) fun tk => ⟨.bl b, H, I.kept (t' := tk) fun _ _ z => z, rfl, q⟩
/-- tb: what each class's exceptions answer -/
def opIsX (K : PySem.W.Frag) (tb : List (Str × Bool)) : D → R D
  | .exc c C _ => if C = He.ga K c then (match tb.lookup c with
    | some b => .ok (.bl b)
    | none => .no) else .no
  | _ => .no
def TbX (K : PySem.W.Frag) (u : Value) (tb : List (Str × Bool)) : Prop := ∀ c b, tb.lookup c = some b → ExcC K (He.ga K c) ∧ PySem.W.kitOne K (.ref (He.ga K c)) u = some b
theorem de_isX {tb : List (Str × Bool)} {vc : V} {u : Value} {p1 : Pos} (hg : Gl X "isinstance") (hm : X.mg "isinstance" = none) (ha : DB F X W a fa) (hb : PE X b (tC vc)) (hu : ClsV vc u) (ht : TbX X.K u tb)
    (hs : starEach [a, b] X.env = (false, eval a X.env) :: starEach [b] X.env := by rfl) (hs2 : starEach [b] X.env = (false, eval b X.env) :: starEach [] X.env := by rfl) (hpl : (backTo pos (starEach [b] X.env)).any (·.1) = false := by rfl) :
    DE F X W (.Call (.Name "isinstance" p1) [a, b] [] pos) (eUn (opIsX X.K tb) fa) :=
  ⟨PE.weak (pe_callB call_isX hg hm (by decide +kernel) (pa_cons ha.pe (pa_cons hb pa_nil hs2) hs) (by decide) (by decide) hs hpl) fun σ H Q ⟨sd, rel, p⟩ => te1S rel p fun d q v H1 s1 r1 hv p1 => by
    have hv : HoldsB H1 (Av F σ sd) d v := hv
    unfold opIsX at p1
    split at p1
    · split at p1
      · rename_i hc
        subst hc
        split at p1
        · rename_i bb hl
          obtain ⟨t1, t2⟩ := ht _ _ hl
          obtain ⟨a, od, ws, rfl, na, r, qd, l⟩ := hv
          exact ⟨a, _, od, vc, u, bb, rfl, hu, r, qd.imp (·.1) (fun ⟨dx, e, _, h⟩ => ⟨dx, ws, e, h⟩), t1, t2, p1 _ _ (Same.refl _) rfl⟩
        · exact p1.elim
      · exact p1.elim
    · exact p1.elim⟩
/-! tests -/
def excCB (K : PySem.W.Frag) (C : Addr) : Bool := He.eqO (PySem.W.findIn K (.ref C) "__getattribute__") (some (some (.builtin "BaseException.__getattribute__"))) && (He.eqO (PySem.W.findIn K (.ref C) "__getattr__") (some none) && (decide (PySem.W.subIn K (.ref C) (.type "BaseException") = some true) && (PySem.W.hasDictIn K C &&
  (He.eqO (PySem.W.findIn K (.ref C) "__class__") (some (some (.builtin "object.__class__"))) && (He.eqO (PySem.W.specialIn K (.builtin "object.__class__") "__get__") (some (some (.builtin "getset_descriptor.__get__"))) && (decide (PySem.W.takesIn K (.builtin "object.__class__") = some true) && decide (PySem.W.mroIn K C (.type "object") = some true)))))))
theorem excCB_ok {K : PySem.W.Frag} {C : Addr} (h : excCB K C = true) : ExcC K C := by
  unfold excCB at h
  simp only [Bool.and_eq_true] at h
  obtain ⟨h1, h2, h3, h4, h5, h6, h7, h8⟩ := h
  exact ⟨He.eqO_ok h1, He.eqO_ok h2, of_decide_eq_true h3, h4, He.eqO_ok h5, He.eqO_ok h6, of_decide_eq_true h7, of_decide_eq_true h8⟩
def tIsX (c : ClN) (tb : List (Str × Bool)) (K : PySem.W.Frag) : Bool := tb.all fun q => excCB K (He.ga K q.1) && decide (PySem.W.kitOne K (.ref (He.ga K q.1)) (c.u K) = some q.2)
theorem lookup_memS {β : Type} {k : Str} {v : β} : ∀ {l : List (Str × β)}, l.lookup k = some v → (k, v) ∈ l
  | (k', v') :: l, h => by
    rw [List.lookup_cons] at h
    split at h
    · rename_i e
      cases h
      rw [beq_iff_eq.mp e]
      exact .head _
    · exact .tail _ (lookup_memS h)
theorem tIsX_ok {c : ClN} {tb : List (Str × Bool)} {K : PySem.W.Frag} (h : tIsX c tb K = true) : TbX K (c.u K) tb := fun x b hl => by
  have z := List.all_eq_true.mp h _ (lookup_memS hl)
  rw [Bool.and_eq_true] at z
  exact ⟨excCB_ok z.1, of_decide_eq_true z.2⟩
/-! an __init__ without an argument -/
section
variable {P : Program} {w : World} {K : PySem.W.Frag} {mg : Str → Option Value} {base : Heap} {C f : Addr} {fd : FuncData} {nm qual : Str} {params : Arguments} {scope : Scope}
theorem exI0_ok {txt slf : Str} {p0 p1 p2 p3 p4 p5 : Pos} {jk : Nat} {ar : Arg} {pl : Env → Sem Bool}
    (T : ExC P K mg C f fd nm qual params [.Expr (.Call (.Attribute (.Call (.Name "super" p0) [] [] p1) "__init__" p2) [.Constant (.str txt) jk p3] [] p4) p5] scope)
    (hp : (params.posonlyargs ++ params.args).head? = some ar) (har : ar.arg = slf)
    (hks : scope.names.lookup ("super" : Str) = some .globalImplicit) (hkc : scope.names.lookup ("__class__" : Str) = some .free) (hsl : scope.names.lookup slf = some .local) (hk : scope.kind = .function)
    (hcell : ∀ x ∈ scope.names, x.2 ≠ .cell) (hco : scope.isCoroutine = false) (hgen : scope.isGenerator = false)
    (he : ∀ env : Env, eval (.Call (.Attribute (.Call (.Name "super" p0) [] [] p1) "__init__" p2) [.Constant (.str txt) jk p3] [] p4) env = (do
      let ov ← attributeBase (.Call (.Name "super" p0) [] [] p1) "__init__" env (eval (.Call (.Name "super" p0) [] [] p1) env)
      standAt p2.atName
      let (f, first) ← holding [ov] (getMethod ov "__init__" (pl env))
      callWith p4 f first (backTo p4 (starEach [.Constant (.str txt) jk p3] env)) [])) : FnOk P w K mg base (L2.CX P w) 1 f fd [slf] (spEx0 C) := by
  refine ⟨fun vs H Q E h => by obtain ⟨a, rfl, _⟩ := h; rfl, fun A outer s H args us vs Q E hr e0 hb r hsp => ?_⟩
  obtain ⟨a, rfl, ea, q⟩ := hsp
  obtain ⟨oc, ct, od, an, dV, kV, doc, pm, cda, cc, osl, ccl, cl, cdd, cld, vs, ccs, csl, file, tf, cdD, rfl, lk, hcd, hcode, hvs, hfile, hcel, hD⟩ := T.ex
  cases r with
  | @cons _ u0 _ ur ra rn =>
  cases rn
  obtain rfl : u0 = Value.ref a := ra
  obtain ⟨hp0, g, d, t, os⟩ := s
  have KX : K.In hp0 := e0.mod.kin.keeps fun b o e => (e0.bs b o e).1
  have lim : hp0.NoLimit := e0.mod.nolimit.keeps fun b o e => (e0.bs b o e).1
  obtain ⟨t1, ho⟩ := exo_at e0.hok ea
  have gG : ∀ b o, hp0.get? b = some o → b ≠ a → (PySem.W.hideAll hp0 [a]).get? b = some o := fun b o e n => PySem.W.hideAll_get _ e fun z => n (List.mem_singleton.mp z)
  have bG : ∀ b o, base.get? b = some o → (PySem.W.hideAll hp0 [a]).get? b = some o := fun b o e => gG b o (e0.bs b o e).1 fun z => by
    have y := (e0.bs b o e).2
    rw [z, ea] at y
    cases y
  refine ks_codeAny_call_defAt (hr.depth) (KX _ _ lk) rfl lim (PySem.W.codeRec_of KX hcd) rfl hb hcell (fun x hx => ?_) (fun h0 hns hk0 => ?_) hco hgen hk
  · rw [List.mem_singleton.mp hx]; exact hsl
  have F0 : PyProof.Rows.Fr (PySem.W.hideAll hp0 [a]) hp0.objs.size h0 (fun x => ([slf].zip [Value.ref a]).reverse.lookup x) := ⟨hns, fun b o e => hk0 b o (PySem.W.of_hideAll _ e), Nat.le_of_eq (PySem.W.hideAll_size _ _)⟩
  have N0 : News (PySem.W.hideAll hp0 [a]) hp0.objs.size h0 [(a, PySem.W.excObj C t1 none .none)] := fun p hp => by
    rw [List.mem_singleton.mp hp]
    exact ⟨hk0 _ _ ho, Nat.ne_of_lt (Heap.lt_size ho), PySem.W.hideAll_none _ (.head _)⟩
  have m1 : ([slf].zip [Value.ref a]).reverse.lookup slf = some (Value.ref a) := by
    show List.lookup slf [(slf, Value.ref a)] = _
    rw [List.lookup_cons, beq_self_eq_true]
  refine ks_wpAt_execs_cons (super_init (s := ⟨h0, g, d, t + _, os⟩) e0.mod bG F0 N0 lk hp (by rw [har]; exact m1) hcode hvs hfile hcel hD T.sub T.mgs hks hkc (by rw [har]; exact hsl) hk T.top T.ini T.opq T.sve T.exi he fun h1 t2 tk F1 hx1 => ?_)
  refine wpAt_of_wpAny (wpAny_execs_nil ?_)
  have up : ∀ b o, hp0.get? b = some o → b ≠ a → h1.get? b = some o := fun b o e n => F1.keep b o (gG b o e n)
  have na : ∀ {b : Addr}, H b = none → b ≠ a := fun {b} n z => by
    rw [z, ea] at n
    cases n
  refine ⟨.non, H, rfl, e0.bare, ⟨fun b o e n _ _ => up b o e (na n), fun b o e n _ _ => ⟨o.slots, up b o e (na n)⟩, fun b o e n _ => n, fun b o e _ => ?_, fun b xs e => e, fun b o x e => e, fun b ps e => ⟨#[], by rw [e]; simp⟩⟩, fun b o e => ?_, rfl, q⟩
  · by_cases z : b = a
    · rw [z]; exact ⟨_, hx1⟩
    · exact ⟨o, up b o e z⟩
  · by_cases z : b = a
    · subst z
      rw [ea] at e
      cases e
      exact exo_ok hx1
    · exact (e0.hok b o e).stay (fun c x hc y => up c x y (by
        rcases hc with hc | hc
        · rw [hc]; exact z
        · exact at_ne ea hc exo_own)) (fun c hc => hc) (fun c xs hc => hc)
theorem gex0_of {d : XD} {fd : FuncData} {txt slf : Str} {p0 p1 p2 p3 p4 p5 : Pos} {jk : Nat} {ar : Arg} {pl : Env → Sem Bool} (x : XOk P K mg d fd)
    (hbody : d.body = [.Expr (.Call (.Attribute (.Call (.Name "super" p0) [] [] p1) "__init__" p2) [.Constant (.str txt) jk p3] [] p4) p5])
    (hp : (d.params.posonlyargs ++ d.params.args).head? = some ar) (har : ar.arg = slf)
    (hks : d.scope.names.lookup ("super" : Str) = some .globalImplicit) (hkc : d.scope.names.lookup ("__class__" : Str) = some .free) (hsl : d.scope.names.lookup slf = some .local) (hk : d.scope.kind = .function)
    (hcell : ∀ x ∈ d.scope.names, x.2 ≠ .cell) (hco : d.scope.isCoroutine = false) (hgen : d.scope.isGenerator = false)
    (he : ∀ env : Env, eval (.Call (.Attribute (.Call (.Name "super" p0) [] [] p1) "__init__" p2) [.Constant (.str txt) jk p3] [] p4) env = (do
      let ov ← attributeBase (.Call (.Name "super" p0) [] [] p1) "__init__" env (eval (.Call (.Name "super" p0) [] [] p1) env)
      standAt p2.atName
      let (f, first) ← holding [ov] (getMethod ov "__init__" (pl env))
      callWith p4 f first (backTo p4 (starEach [.Constant (.str txt) jk p3] env)) []))
    (hbi : ∀ (kV doc pm cdv ct : Value) (an : Option Addr) (cc : Addr) (us : List Value), us.length = 1 → bindArgs (PySem.W.ksFn d.name d.qual d.params d.body d.scope .none kV doc pm an cdv ct cc) ⟨us, []⟩ = pure ([slf].zip us)) :
    GEx0 P w K mg base d.cls (d.C K) := by
  have ec := x.ec
  obtain ⟨kV, doc, pm, cdv, ct, an, cc, efd⟩ := x.dfl
  subst efd
  rw [hbody] at ec
  have ok := exI0_ok (w := w) (base := base) ec hp har hks hkc hsl hk hcell hco hgen he
  rw [← hbody] at ok
  exact ⟨_, _, _, ok, x.ini, x.typ, .all (hbi kV doc pm cdv ct an cc), ec.oex, x.glo⟩
end
/-- raise C() -/
def sRaise0 (x : Str) : SF := fun s => .ex x [] s
end DS
set_option Elab.async false
set_option linter.all false
set_option maxRecDepth 100000
set_option maxHeartbeats 2000000
/-! Calls that only read what they are given, and return plain things: the caller's own lists may be handed to them. -/
namespace DS
open PySem L2 PyProof.Rows
variable {F : Fr} {X : Cx} {W : WX} {a b c e : Expr} {fa fb fc : EF} {pos : Pos} {st : Stmt} {sts : List Stmt} {f g : SF} {tt : TF} {es : List Expr} {fs : List EF}
def flatB : D → Bool
  | .non => true
  | .bl _ => true
  | .int _ => true
  | .str _ => true
  | _ => false
def noA : Addr → Prop := fun _ => False
theorem flat_any {H H' : Hp} {A A' : Addr → Prop} {d : D} {v : V} (f : flatB d = true) (h : Holds H A d v) : Holds H' A' d v := by
  cases d with
  | non => exact h
  | bl _ => exact h
  | int _ => exact h
  | str _ => exact h
  | _ => cases f
theorem flat_anyL {H H' : Hp} {A A' : Addr → Prop} : ∀ {ds : List D} {vs : List V}, ds.all flatB = true → HoldsL H A ds vs → HoldsL H' A' ds vs
  | [], vs, _, h => h
  | d :: ds, vs, f, h => by
    rw [List.all_cons, Bool.and_eq_true] at f
    obtain ⟨v, r, e, h1, h2⟩ := h
    exact ⟨v, r, e, flat_any f.1 h1, flat_anyL f.2 h2⟩
theorem HoldsB.open {H : Hp} {A : Addr → Prop} {d : D} {v : V} (h : HoldsB H A d v) : Holds H noA d v := by
  have k : ∀ a, noA a → A a := fun a z => z.elim
  cases d with
  | lst xs => obtain ⟨a, vs, e, r, l⟩ := h; exact ⟨a, vs, e, fun z => z, r, l.less k⟩
  | dk kvs => obtain ⟨a, vs, e, r, l⟩ := h; exact ⟨a, vs, e, fun z => z, r, HoldsK.up (up_own k) _ l⟩
  | ins C fs => obtain ⟨a, dx, vs, e, r, l⟩ := h; exact ⟨a, dx, vs, e, fun z => z, r, HoldsF.up (up_own k) _ l⟩
  | non => exact h
  | bl _ => exact h
  | int _ => exact h
  | str _ => exact h
  | kt T xs => exact h
  | exc c C fs => exact Holds.less (d := .exc c C fs) h k
  | scr xs => exact Holds.less (d := .scr xs) h k
  | tup xs => exact Holds.less (d := .tup xs) h k
theorem HoldsXL.open {H : Hp} {A : Addr → Prop} : ∀ {ds : List D} {vs : List V}, HoldsXL true H A ds vs → HoldsL H noA ds vs
  | [], _, h => h
  | d :: ds, _, h => by obtain ⟨v, r, e, h1, h2⟩ := h; exact ⟨v, r, e, HoldsB.open h1, HoldsXL.open h2⟩
def plainR (gf : List D → R D) (ds : List D) : R D := (gf ds).bind fun d => if flatB d = true then .ok d else .no
def plainRN (gf : List D → R ND) (ds : List D) : R ND := (gf ds).bind fun n => match n with
  | .nl xs => if xs.all flatB = true then .ok (.nl xs) else .no
  | _ => .no
/-- what leaves a call with nothing kept off, as an exception: none -/
def noEx {α : Type} : R α → R α
  | .ok a => .ok a
  | _ => .no
theorem de_callW {x : Str} {k k' n : Nat} {gf : List D → R D} {p : Pos} (G : GFn X.prog X.w X.K X.mg X.base k x n gf) (hr : Room k' X.A) (hg : Gl X x) (tk : Takes X W) (ha : DA true F X W (e :: es) fs) (hfs : fs.length = n := by rfl) (hkk : k ≤ k' := by decide)
    (hdb : (x == ("__debug__" : Str)) = false := by decide) (he : starEach (e :: es) X.env = (false, eval e X.env) :: starEach es X.env := by rfl) (hpl : (backTo pos (starEach es X.env)).any (·.1) = false := by rfl) :
    DE F X W (.Call (.Name x p) (e :: es) [] pos) (eAll (fun ds => noEx (plainR gf ds)) fs) := by
  obtain ⟨f, fd, ps, G, hm, hk, hb⟩ := G
  refine ⟨PE.weak (pe_callS G (hr.mono hkk) hg hm hk hb (fun σ => passAt tk σ) ha.pa hdb he hpl) fun σ H Q ⟨sd, rel, p⟩ => tas (b := true) rel p fun ds q vs H2 _ r2 hv p2 => ?_⟩
  refine ⟨by rw [hv.open.length, evalL_length q]; exact hfs, ds, noA, hv.open, fun a z => z.elim, ?_⟩
  unfold noEx plainR at p2
  cases q2 : gf ds with
  | no => rw [q2] at p2; exact p2.elim
  | ex c fs => rw [q2] at p2; exact p2.elim
  | ok d =>
    rw [q2, R.bind_ok] at p2
    split at p2
    · rename_i hz
      split at hz
      · rename_i hf
        cases hz
        exact fun v H3 s3 h3 => p2 v H3 s3 (flat_any hf h3)
      · cases hz
    · exact p2.elim
theorem dn_callW {x : Str} {k k' n : Nat} {gf : List D → R ND} {p : Pos} (G : GFnN X.prog X.w X.K X.mg X.base k x n gf) (hr : Room k' X.A) (hg : Gl X x) (tk : Takes X W) (ha : DA true F X W (e :: es) fs) (hfs : fs.length = n := by rfl) (hkk : k ≤ k' := by decide)
    (hdb : (x == ("__debug__" : Str)) = false := by decide) (he : starEach (e :: es) X.env = (false, eval e X.env) :: starEach es X.env := by rfl) (hpl : (backTo pos (starEach es X.env)).any (·.1) = false := by rfl) :
    DN F X W (.Call (.Name x p) (e :: es) [] pos) (nAll (fun ds => noEx (plainRN gf ds)) fs) := by
  obtain ⟨f, fd, ps, G, hm, hk, hb⟩ := G
  refine ⟨PE.weak (pe_callS G (hr.mono hkk) hg hm hk hb (fun σ => passAt tk σ) ha.pa hdb he hpl) fun σ H Q ⟨sd, rel, p⟩ => ?_⟩
  refine ⟨sd, rel, ?_⟩
  unfold nAll at p
  cases q : evalL fs sd with
  | no => rw [q] at p; exact p
  | ex c fs => rw [q] at p; exact p
  | ok ds =>
    rw [q, R.bind_ok] at p
    intro vs H2 s2 hv
    have r2 := rel.mono s2
    refine ⟨by rw [hv.open.length, evalL_length q]; exact hfs, ds, noA, hv.open, fun a z => z.elim, ?_⟩
    unfold noEx plainRN at p
    cases q2 : gf ds with
    | no => rw [q2] at p; exact p.elim
    | ex c fs => rw [q2] at p; exact p.elim
    | ok n =>
      rw [q2, R.bind_ok] at p
      cases n with
      | nd xs => exact p.elim
      | nl xs =>
        dsimp only at p
        by_cases hf : xs.all flatB = true
        · rw [if_pos hf] at p
          intro pa H3 s3 hn _ h
          have h1 := h ⟨fun _ => none, fun _ => False, 0⟩ rfl
          obtain ⟨a, vs, e, _, r, l⟩ := h1
          cases e
          refine p pa H3 (s2.trans s3) (s2.free hn) (fun z => by rw [r] at z; cases z) fun F' h0 => ⟨pa, vs, rfl, h0, r, flat_anyL hf l⟩
        · rw [if_neg hf] at p
          exact p.elim
end DS
set_option Elab.async false
set_option linter.all false
set_option maxRecDepth 100000
set_option maxHeartbeats 2000000
namespace DS
open PySem L2
/-! ### loops by an invariant -/
theorem forL_inv {g : GF} {b : SF} (I : Nat → SD → Prop) : ∀ (ds : List D) (i : Nat) (s : SD), I i s →
    (∀ (j : Nat) (d : D) (s : SD), ds[j]? = some d → I (i + j) s → ∃ s1 s2, g d s = some s1 ∧ (b s1 = .nx s2 ∨ b s1 = .ct s2) ∧ I (i + j + 1) s2) →
    ∃ s', forL g b ds s = .nx s' ∧ I (i + ds.length) s'
  | [], i, s, h, _ => ⟨s, rfl, h⟩
  | d :: ds, i, s, h, st => by
    obtain ⟨s1, s2, h1, h2, h3⟩ := st 0 d s rfl h
    obtain ⟨s', e, h4⟩ := forL_inv I ds (i + 1) s2 h3 (fun j d s hj hI => by
      have := st (j + 1) d s (by simpa using hj) (by rw [← Nat.add_assoc, Nat.add_right_comm]; exact hI)
      rw [← Nat.add_assoc, Nat.add_right_comm i j 1] at this
      exact this)
    refine ⟨s', ?_, by rw [List.length_cons, Nat.add_comm ds.length 1, ← Nat.add_assoc]; exact h4⟩
    unfold forL
    rw [h1]
    rcases h2 with h2 | h2 <;> (dsimp only; rw [h2]; exact e)
theorem sFor_inv {it : IF} {g : GF} {b : SF} {ds : List D} {s : SD} (hi : it s = .ok ds) (I : Nat → SD → Prop) (h0 : I 0 s)
    (st : ∀ (j : Nat) (d : D) (s : SD), ds[j]? = some d → I j s → ∃ s1 s2, g d s = some s1 ∧ (b s1 = .nx s2 ∨ b s1 = .ct s2) ∧ I (j + 1) s2) :
    ∃ s', sFor it g b s = .nx s' ∧ I ds.length s' := by
  obtain ⟨s', e, h⟩ := forL_inv I ds 0 s h0 (by simpa using st)
  refine ⟨s', ?_, by simpa using h⟩
  unfold sFor
  rw [hi]
  exact e
theorem sWhile_inv {t : TF} {b : SF} (I : Nat → SD → Prop) (Z : SD → Prop)
    (st : ∀ (m : Nat) (s : SD), I m s → (t s = .ok false ∧ Z s) ∨ (t s = .ok true ∧ ∃ s2 k, k < m ∧ (b s = .nx s2 ∨ b s = .ct s2) ∧ I k s2)) :
    ∀ (m : Nat) (s : SD), I m s → ∃ s', sWhile t b s = .nx s' ∧ Z s' := by
  intro m
  induction m using Nat.strongRecOn with
  | _ m ih =>
    intro s h
    rcases st m s h with ⟨h1, h2⟩ | ⟨h1, s2, k, hk, h2, h3⟩
    · exact ⟨s, by rw [sWhile_eq, h1], h2⟩
    · obtain ⟨s', e, z⟩ := ih k hk s2 h3
      refine ⟨s', ?_, z⟩
      rw [sWhile_eq, h1]
      rcases h2 with h2 | h2 <;> (dsimp only; rw [h2]; exact e)
/-! ### comprehensions -/
theorem lcL_map {α : Type} {g : GF} {t : TF} {el : EF} {s0 : SD} (f : α → D) (p : α → Bool) (v : α → D) : ∀ (l : List α), (∀ a ∈ l, ∃ s1, g (f a) s0 = some s1 ∧ t s1 = .ok (p a) ∧ (p a = true → el s1 = .ok (v a))) →
    lcL g t el s0 (l.map f) = .ok ((l.filter p).map v)
  | [], _ => rfl
  | a :: l, h => by
    obtain ⟨s1, h1, h2, h3⟩ := h a (.head _)
    have ih := lcL_map f p v l fun b hb => h b (.tail _ hb)
    rw [List.map_cons]
    unfold lcL
    rw [h1]
    dsimp only
    rw [h2]
    simp only [noX, R.bind_ok]
    cases q : p a with
    | false => rw [if_neg Bool.false_ne_true, List.filter_cons_of_neg (by simp [q])]; exact ih
    | true =>
      rw [if_pos rfl, h3 q, List.filter_cons_of_pos (by simp [q]), List.map_cons]
      simp only [noX, R.bind_ok]
      rw [ih]
      rfl
theorem lcD_map {α : Type} {g : GF} {t : TF} {ek ev : EF} {s0 : SD} (f : α → D) (p : α → Bool) (k : α → L2.Key) (v : α → D) : ∀ (l : List α) (acc : List (L2.Key × D)), acc.length + l.length ≤ sizeLine →
    (∀ a ∈ l, ∃ s1, g (f a) s0 = some s1 ∧ t s1 = .ok (p a) ∧ (p a = true → ek s1 = .ok (keyDd (k a)) ∧ ev s1 = .ok (v a))) →
    lcD g t ek ev s0 acc (l.map f) = .ok ((l.filter p).foldl (fun acc a => putD acc (k a) (v a)) acc)
  | [], acc, _, _ => rfl
  | a :: l, acc, hl, h => by
    obtain ⟨s1, h1, h2, h3⟩ := h a (.head _)
    rw [List.length_cons] at hl
    rw [List.map_cons]
    unfold lcD
    rw [h1]
    dsimp only
    rw [h2]
    simp only [noX, R.bind_ok]
    cases q : p a with
    | false =>
      rw [if_neg Bool.false_ne_true, List.filter_cons_of_neg (by simp [q])]
      exact lcD_map f p k v l acc (by omega) fun b hb => h b (.tail _ hb)
    | true =>
      obtain ⟨h4, h5⟩ := h3 q
      rw [if_pos rfl, h4, List.filter_cons_of_pos (by simp [q]), List.foldl_cons]
      simp only [noX, R.bind_ok]
      rw [h5]
      simp only [noX, R.bind_ok]
      have : keyD (keyDd (k a)) = some (k a) := by cases k a <;> rfl
      rw [this]
      dsimp only
      rw [if_pos (by omega)]
      have hp := length_putD acc (k a) (v a)
      exact lcD_map f p k v l _ (by omega) fun b hb => h b (.tail _ hb)
/-! ### values -/
abbrev nD (i : Nat) : D := .int (i : Int)
abbrev nL (l : List Nat) : D := .lst (l.map nD)
theorem atI_nat {α : Type} {xs : List α} {i : Nat} (h : i < xs.length) : L2.atI xs (i : Int) = some (xs[i]) := by
  unfold L2.atI L2.ixN
  rw [if_pos (by omega), if_pos (by omega)]
  simp [h]
theorem atI_last {α : Type} {xs : List α} (h : xs ≠ []) : L2.atI xs (-1) = some (xs.getLast h) := by
  unfold L2.atI L2.ixN
  have hl : 0 < xs.length := List.length_pos_iff.mpr h
  rw [if_neg (by omega), if_pos (by omega)]
  have : ((-1 : Int) + xs.length).toNat = xs.length - 1 := by omega
  simp only [Option.bind_some, this]
  rw [List.getElem?_eq_getElem (by omega), List.getLast_eq_getElem]
theorem opIx_nl {l : List Nat} {i : Nat} (h : i < l.length) : opIx (nL l) (.int (i : Int)) = .ok (nD l[i]) := by
  unfold opIx
  simp only
  rw [atI_nat (by simpa using h)]
  simp
theorem opIx_il {l : List Int} {i : Nat} (h : i < l.length) : opIx (.lst (l.map D.int)) (.int (i : Int)) = .ok (.int l[i]) := by
  unfold opIx
  simp only
  rw [atI_nat (by simpa using h)]
  simp
theorem fVs_ints : ∀ (l : List Int), fVs (l.map D.int) = some (l.map V.int)
  | [] => rfl
  | a :: l => by simp [fVs, fV, fVs_ints l]
theorem inD_ints (a : Int) (l : List Int) : inD (.int a) (.lst (l.map D.int)) = some (decide (a ∈ l)) := by
  unfold inD
  simp only [fV, fVs_ints]
  unfold inV
  congr 1
  induction l with
  | nil => simp
  | cons b l ih =>
    simp only [List.map_cons, List.any_cons, ih, List.mem_cons]
    have : eqV (V.int b) (V.int a) = (b == a) := rfl
    rw [this]
    by_cases h : a = b
    · subst h; simp
    · simp [h, Ne.symm h]
theorem map_nD (l : List Nat) : l.map nD = (l.map fun i : Nat => (i : Int)).map D.int := by simp [nD]
theorem inD_nl (a : Nat) (l : List Nat) : inD (.int (a : Int)) (nL l) = some (decide (a ∈ l)) := by
  unfold nL
  rw [map_nD, inD_ints]
  congr 1
  by_cases h : a ∈ l
  · simp only [h, List.mem_map, decide_true, decide_eq_true_eq]
    exact ⟨a, h, rfl⟩
  · simp only [h, List.mem_map, decide_false, decide_eq_false_iff_not]
    exact fun ⟨b, hb, e⟩ => h (by rw [← Int.ofNat.inj e]; exact hb)
theorem toPyL_ints : ∀ (l : List Int), toPyL (l.map D.int) = some (l.map PyData.int)
  | [] => rfl
  | a :: l => by simp [toPyL, toPy, toPyL_ints l]
theorem canLay_ints : ∀ (l : List Int), PyData.canLayAll0 (l.map PyData.int) = true
  | [] => rfl
  | a :: l => by simp [PyData.canLayAll0, PyData.canLay0, canLay_ints l]
theorem depth_ints : ∀ (l : List Int), PyData.depthAll (l.map PyData.int) = 0
  | [] => rfl
  | a :: l => by simp [PyData.depthAll, PyData.depth, depth_ints l]
theorem eqv_ints : ∀ (l m : List Int), PyData.eqvAll (l.map PyData.int) (m.map PyData.int) = decide (l = m)
  | [], [] => rfl
  | a :: l, [] => rfl
  | [], b :: m => rfl
  | a :: l, b :: m => by
    simp only [List.map_cons, PyData.eqvAll, PyData.eqv, eqv_ints l m]
    by_cases h : a = b
    · subst h
      by_cases h2 : l = m <;> simp [h2]
    · simp [h]
theorem shaped_ints (l : List Int) : SeqAt.shaped (.list (l.map PyData.int)) = true := by
  simp [SeqAt.shaped, PyData.canLay0, canLay_ints, PyData.depth, depth_ints]
theorem eqD_ints (l m : List Int) : eqD (.lst (l.map D.int)) (.lst (m.map D.int)) = some (decide (l = m)) := by
  simp only [eqD, toPy, toPyL_ints, Option.map_some, shaped_ints, and_self, if_true, PyData.eqv, eqv_ints]
theorem eqD_int (a b : Int) : eqD (.int a) (.int b) = some (decide (a = b)) := by
  simp only [eqD, toPy, SeqAt.shaped, PyData.canLay0, PyData.depth, PyData.eqv]
  by_cases h : a = b <;> simp [h]
theorem eqD_bl (a b : Bool) : eqD (.bl a) (.bl b) = some (a == b) := by
  simp [eqD, toPy, SeqAt.shaped, PyData.canLay0, PyData.depth, PyData.eqv]
theorem opEq_int (a b : Int) : opEq (.int a) (.int b) = .ok (.bl (decide (a = b))) := by simp only [opEq, eqD_int]
theorem opNe_int (a b : Int) : opNe (.int a) (.int b) = .ok (.bl (!decide (a = b))) := by simp only [opNe, eqD_int]
theorem opEq_ints (l m : List Int) : opEq (.lst (l.map D.int)) (.lst (m.map D.int)) = .ok (.bl (decide (l = m))) := by simp only [opEq, eqD_ints]
theorem opEq_nl (l m : List Nat) : opEq (nL l) (nL m) = .ok (.bl (decide (l = m))) := by
  unfold nL
  rw [map_nD, map_nD, opEq_ints]
  congr 2
  have hi : Function.Injective (fun l : List Nat => l.map fun i : Nat => (i : Int)) := fun l m h => by
    have e := congrArg (fun l => l.map Int.toNat) h
    have z : ∀ l : List Nat, (l.map fun i : Nat => (i : Int)).map Int.toNat = l := fun l => by
      rw [List.map_map]
      exact (List.map_congr_left fun i _ => by simp).trans (List.map_id l)
    simpa only [z] using e
  by_cases h : l = m
  · simp [h]
  · have : ¬ (l.map fun i : Nat => (i : Int)) = m.map fun i : Nat => (i : Int) := fun z => h (hi z)
    simp [h, this]
theorem toPyL_bls : ∀ (l : List Bool), toPyL (l.map D.bl) = some (l.map PyData.bool)
  | [] => rfl
  | a :: l => by simp [toPyL, toPy, toPyL_bls l]
theorem opInt_i (a : Int) : opInt [.int a] = .ok (.int a) := rfl
theorem opMod_i {a b : Int} (h : b ≠ 0) : opMod (.int a) (.int b) = .ok (.int (a.fmod b)) := by simp [opMod, opI2, h]
theorem log2_lt {b : Int} {k n : Nat} (h : b.natAbs < 2 ^ k) (hk : k ≤ n) (h0 : 0 < n) : b.natAbs.log2 < n := by
  by_cases z : b.natAbs = 0
  · rw [z]; simpa using h0
  · exact Nat.lt_of_lt_of_le ((Nat.log2_lt z).mpr h) hk
theorem opFdiv_i {a b : Int} (h : b ≠ 0) (h2 : b.natAbs < 2 ^ 64) : opFdiv (.int a) (.int b) = .ok (.int (a.fdiv b)) := by
  have : b.natAbs.log2 < 9000 := log2_lt h2 (by decide) (by decide)
  simp [opFdiv, opI2, h, this]
theorem opMul_i {a b : Int} (h1 : a.natAbs < 2 ^ 64) (h2 : b.natAbs < 2 ^ 64) : opMul (.int a) (.int b) = .ok (.int (a * b)) := by
  have x1 : a.natAbs.log2 < 1000 := log2_lt h1 (by decide) (by decide)
  have x2 : b.natAbs.log2 < 1000 := log2_lt h2 (by decide) (by decide)
  have : a.natAbs.log2 + b.natAbs.log2 < 1000000 := by omega
  simp [opMul, this]
theorem rangeD_get {n j : Nat} {d : D} (h : (rangeD 0 n)[j]? = some d) : d = nD j ∧ j < n := by
  unfold rangeD at h
  rw [List.getElem?_map, Option.map_eq_some_iff] at h
  obtain ⟨k, h1, rfl⟩ := h
  have hj : j < n := by
    have := (List.getElem?_eq_some_iff.mp h1).1
    simpa using this
  rw [List.getElem?_range hj] at h1
  cases h1
  exact ⟨by simp [nD], hj⟩
theorem rangeD_eq (n : Nat) : rangeD 0 n = (List.range n).map nD := by
  unfold rangeD
  exact List.map_congr_left fun i _ => by simp [nD]
theorem enumL_eq : ∀ (i : Nat) (ds : List D), enumL i ds = (ds.zipIdx i).map fun p => .tup [nD p.2, p.1]
  | _, [] => rfl
  | i, d :: ds => by
    simp only [enumL, List.zipIdx_cons, List.map_cons, enumL_eq (i + 1) ds]
/-! ### statements, step by step -/
section
variable {f g : SF} {s s' : SD} {d : D} {e e2 : EF} {t : TF} {i : Nat} {ds : List D} {kvs : List (L2.Key × D)}
theorem runD_of {k : Nat} (h : f (ds.map .sh ++ List.replicate k .un) = .rt d) : runD k f ds = .ok d := by unfold runD; rw [h]; rfl
theorem seq_nx (h : f s = .nx s') : sSeq f g s = g s' := by unfold sSeq; rw [h]
theorem seq_rt (h : f s = .rt d) : sSeq f g s = .rt d := by unfold sSeq; rw [h]
theorem if_t (h : t s = .ok true) : sIf t f g s = f s := by unfold sIf; rw [h]
theorem if_f (h : t s = .ok false) : sIf t f g s = g s := by unfold sIf; rw [h]
theorem set_ok (h : e s = .ok d) : sSet i e s = .nx (s.set i (.sh d)) := by unfold sSet sE; rw [h]
theorem setN_ok {fn : NF} {n : ND} (h : fn s = .ok n) : sSetN i fn s = .nx (s.set i n.sl) := by unfold sSetN; rw [h]
theorem ret_ok (h : e s = .ok d) : sRet e s = .rt d := by unfold sRet sE; rw [h]
theorem app_ok (hs : s[i]? = some (.ol ds)) (h : e s = .ok d) (hl : ds.length < sizeLine) : sApp i e s = .nx (s.set i (.ol (ds ++ [d]))) := by
  unfold sApp sE
  rw [hs]
  dsimp only
  rw [h]
  dsimp only
  rw [if_pos hl]
theorem putL_ok {n : Nat} {j : Int} (hs : s[i]? = some (.ol ds)) (h : e s = .ok d) (h2 : e2 s = .ok (.int j)) (hj : L2.ixN ds.length j = some n) : sPutI i e e2 s = .nx (s.set i (.ol (ds.set n d))) := by
  unfold sPutI sE
  rw [hs]
  dsimp only
  rw [h]
  dsimp only
  rw [h2]
  dsimp only
  rw [hj]
theorem putK_ok {k : D} {key : L2.Key} (hs : s[i]? = some (.od kvs)) (h : e s = .ok d) (h2 : e2 s = .ok k) (hk : keyD k = some key) (hl : kvs.length < sizeLine) : sPutI i e e2 s = .nx (s.set i (.od (putD kvs key d))) := by
  unfold sPutI sE
  rw [hs]
  dsimp only
  rw [h]
  dsimp only
  rw [h2]
  dsimp only
  rw [hk]
  dsimp only
  rw [if_pos hl]
theorem par_ok {j : Nat} {d2 : D} (h : e s = .ok d) (h2 : e2 s = .ok d2) : sPar i j e e2 s = .nx ((s.set i (.sh d)).set j (.sh d2)) := by
  unfold sPar
  simp only [evalL, h, h2, R.bind_ok]
theorem fld_ok {C : Addr} {x : Str} {fs : List (Str × D)} (h : e s = .ok d) (hs : s[i]? = some (.oi C fs)) (hl : fs.length < 1000) : sFldD C i x e s = .nx (s.set i (.oi C (putFD x d fs))) := by
  unfold sFldD sE
  rw [h]
  dsimp only
  rw [hs]
  dsimp only
  rw [if_pos ⟨rfl, hl⟩]
end
theorem ixN_nat {n i : Nat} (h : i < n) : L2.ixN n (i : Int) = some i := by
  unfold L2.ixN
  rw [if_pos (by omega), if_pos (by omega)]
  simp
theorem szl : sizeLine = 16777216 := rfl
/-! ### tables -/
section
variable {κ : Type} [DecidableEq κ]
theorem valD_mapIf (k k' : κ) (d : D) : ∀ kvs : List (κ × D), valD (kvs.map fun kv => if kv.1 = k then (kv.1, d) else kv) k' = if k' = k then (valD kvs k').map fun _ => d else valD kvs k'
  | [] => by by_cases h : k' = k <;> simp [h, valD_nil]
  | p :: r => by
    have ih := valD_mapIf k k' d r
    rw [List.map_cons]
    by_cases h1 : p.1 = k
    · rw [if_pos h1]
      by_cases h2 : k' = k
      · subst h2
        rw [valD_pos (p := (p.1, d)) h1, valD_pos h1, if_pos rfl]
        rfl
      · have h3 : ¬ p.1 = k' := fun z => h2 (by rw [← z, h1])
        rw [valD_neg (p := (p.1, d)) h3, valD_neg h3, ih]
    · rw [if_neg h1]
      by_cases h3 : p.1 = k'
      · have h2 : ¬ k' = k := fun z => h1 (by rw [h3, z])
        rw [valD_pos h3, if_neg h2, valD_pos h3]
      · rw [valD_neg h3, valD_neg h3, ih]
theorem valD_append (k : κ) (ls : List (κ × D)) : ∀ kvs : List (κ × D), valD (kvs ++ ls) k = (valD kvs k).or (valD ls k)
  | [] => by simp [valD_nil]
  | p :: r => by
    rw [List.cons_append]
    by_cases h : p.1 = k
    · rw [valD_pos h, valD_pos h]; rfl
    · rw [valD_neg h, valD_neg h, valD_append k ls r]
theorem valD_putD (kvs : List (κ × D)) (k k' : κ) (d : D) : valD (putD kvs k d) k' = if k' = k then some d else valD kvs k' := by
  unfold putD
  by_cases h : (kvs.any fun kv => decide (kv.1 = k)) = true
  · rw [if_pos h, valD_mapIf]
    by_cases h2 : k' = k
    · subst h2
      rw [if_pos rfl, if_pos rfl]
      rw [valD_any] at h
      cases q : valD kvs k' with
      | none => rw [q] at h; cases h
      | some x => rfl
    · rw [if_neg h2, if_neg h2]
  · rw [if_neg h, valD_append]
    rw [valD_any] at h
    by_cases h2 : k' = k
    · subst h2
      rw [if_pos rfl]
      cases q : valD kvs k' with
      | none => rw [valD_pos rfl]; rfl
      | some x => rw [q] at h; exact absurd rfl h
    · rw [if_neg h2, valD_neg (fun z => h2 z.symm), valD_nil]
      simp
end
end DS
set_option Elab.async false
set_option linter.all false
set_option maxRecDepth 100000
set_option maxHeartbeats 2000000
namespace DS
open PySem L2
theorem filter_tt {α : Type} : ∀ (l : List α), l.filter (fun _ => true) = l
  | [] => rfl
  | a :: l => by simp
theorem nLc_fil {α : Type} {it : IF} {g : GF} {t : TF} {el : EF} {idx : List Nat} {s : SD} (l : List α) (f : α → D) (p : α → Bool) (v : α → D) (hi : it s = .ok (l.map f)) (hl : l.length ≤ 1000000)
    (h : ∀ a ∈ l, ∃ s1, g (f a) (wipeS (blkS s) idx) = some s1 ∧ t s1 = .ok (p a) ∧ (p a = true → el s1 = .ok (v a))) : nLc it g t el idx s = .ok (.nl ((l.filter p).map v)) := by
  unfold nLc
  rw [hi, R.bind_ok, lcL_map f p v l h, R.bind_ok, if_pos]
  have := List.length_filter_le p l
  rw [List.length_map, szl]
  omega
theorem nLc_all {α : Type} {it : IF} {g : GF} {t : TF} {el : EF} {idx : List Nat} {s : SD} (l : List α) (f v : α → D) (hi : it s = .ok (l.map f)) (hl : l.length ≤ 1000000)
    (h : ∀ a ∈ l, ∃ s1, g (f a) (wipeS (blkS s) idx) = some s1 ∧ t s1 = .ok true ∧ el s1 = .ok (v a)) : nLc it g t el idx s = .ok (.nl (l.map v)) := by
  have := nLc_fil (t := t) (el := el) l f (fun _ => true) v hi hl fun a ha => by
    obtain ⟨s1, h1, h2, h3⟩ := h a ha
    exact ⟨s1, h1, h2, fun _ => h3⟩
  rw [filter_tt] at this
  exact this
theorem nDc_all {α : Type} {it : IF} {g : GF} {t : TF} {ek ev : EF} {idx : List Nat} {s : SD} (l : List α) (f : α → D) (k : α → L2.Key) (v : α → D) (hi : it s = .ok (l.map f)) (hl : l.length ≤ 1000000)
    (h : ∀ a ∈ l, ∃ s1, g (f a) (wipeS (blkS s) idx) = some s1 ∧ t s1 = .ok true ∧ ek s1 = .ok (keyDd (k a)) ∧ ev s1 = .ok (v a)) : nDc it g t ek ev idx s = .ok (.nd (l.foldl (fun acc a => putD acc (k a) (v a)) [])) := by
  unfold nDc
  rw [hi, R.bind_ok, lcD_map f (fun _ => true) k v l [] (by rw [szl]; simp; omega) fun a ha => by
    obtain ⟨s1, h1, h2, h3⟩ := h a ha
    exact ⟨s1, h1, h2, fun _ => h3⟩, R.bind_ok, filter_tt]
theorem iRange1 {e : EF} {s : SD} {n : Nat} (h : e s = .ok (nD n)) (hn : n ≤ 1000000) : iAll opRange1 [e] s = .ok ((List.range n).map nD) := by
  unfold iAll
  simp only [evalL, h, R.bind_ok]
  unfold opRange1
  dsimp only
  rw [if_pos (by omega), ← rangeD_eq]
  simp
theorem nRange1_ok {e : EF} {s : SD} {n : Nat} (h : e s = .ok (nD n)) (hn : n ≤ 1000000) : nRange1 e s = .ok (.nl ((List.range n).map nD)) := by
  unfold nRange1
  simp only [h, R.bind_ok]
  unfold nRg1
  dsimp only
  rw [if_pos ⟨by decide, by omega, by rw [szl]; omega⟩]
  congr 2
  unfold rangeL
  simp [nD]
theorem iEnum {e : EF} {s : SD} {l : List D} (h : e s = .ok (.lst l)) : iAll opEnum [e] s = .ok ((l.zipIdx 0).map fun p => .tup [nD p.2, p.1]) := by
  unfold iAll
  simp only [evalL, h, R.bind_ok]
  rw [← enumL_eq]
  rfl
theorem eBin_eq {op : D → D → R D} {fa fb : EF} {s : SD} {d e : D} (h1 : fa s = .ok d) (h2 : fb s = .ok e) : eBin op fa fb s = op d e := by unfold eBin; rw [h1, R.bind_ok, h2, R.bind_ok]
theorem eUn_eq {op : D → R D} {fa : EF} {s : SD} {d : D} (h1 : fa s = .ok d) : eUn op fa s = op d := by unfold eUn; rw [h1, R.bind_ok]
theorem eAll1 {op : List D → R D} {fa : EF} {s : SD} {d : D} (h1 : fa s = .ok d) : eAll op [fa] s = op [d] := by simp only [eAll, evalL, h1, R.bind_ok]
theorem eAll2 {op : List D → R D} {fa fb : EF} {s : SD} {d e : D} (h1 : fa s = .ok d) (h2 : fb s = .ok e) : eAll op [fa, fb] s = op [d, e] := by simp only [eAll, evalL, h1, h2, R.bind_ok]
theorem eAll3 {op : List D → R D} {fa fb fc : EF} {s : SD} {d e c : D} (h1 : fa s = .ok d) (h2 : fb s = .ok e) (h3 : fc s = .ok c) : eAll op [fa, fb, fc] s = op [d, e, c] := by simp only [eAll, evalL, h1, h2, h3, R.bind_ok]
theorem seq_ex {f g : SF} {s s' : SD} {c : Str} {fs : List (Str × D)} (h : f s = .ex c fs s') : sSeq f g s = .ex c fs s' := by unfold sSeq; rw [h]
theorem raise_ok {x fld : Str} {e : EF} {s : SD} {d : D} (h : e s = .ok d) : sRaise x fld e s = .ex x [(fld, d)] s := by unfold sRaise; rw [h]
theorem try_nx {tb : List (Str × Str)} {f : SF} {cl : List XCl} {s s' : SD} (h : f s = .nx s') : sTry tb f cl s = .nx s' := by unfold sTry; rw [h]
theorem try_rt {tb : List (Str × Str)} {f : SF} {cl : List XCl} {s : SD} {d : D} (h : f s = .rt d) : sTry tb f cl s = .rt d := by unfold sTry; rw [h]
theorem try_ex {tb : List (Str × Str)} {f : SF} {cl : List XCl} {s s' : SD} {c : Str} {fs : List (Str × D)} (h : f s = .ex c fs s') (ho : okIn s' = true) : sTry tb f cl s = clGo tb (frzA s') c fs cl := by
  unfold sTry
  rw [h]
  dsimp only
  rw [if_pos ho]
theorem runD_ex {k : Nat} {f : SF} {ds : List D} {c : Str} {fs : List (Str × D)} {s : SD} (h : f (ds.map .sh ++ List.replicate k .un) = .ex c fs s) : runD k f ds = .ex c fs := by unfold runD; rw [h]; rfl
theorem set_ex {e : EF} {s : SD} {i : Nat} {c : Str} {fs : List (Str × D)} (h : e s = .ex c fs) : sSet i e s = .ex c fs s := by unfold sSet sE; rw [h]
theorem ret_ex {e : EF} {s : SD} {c : Str} {fs : List (Str × D)} (h : e s = .ex c fs) : sRet e s = .ex c fs s := by unfold sRet sE; rw [h]
theorem expr_ex {e : EF} {s : SD} {c : Str} {fs : List (Str × D)} (h : e s = .ex c fs) : sExpr e s = .ex c fs s := by unfold sExpr sE; rw [h]
theorem expr_ok {e : EF} {s : SD} {d : D} (h : e s = .ok d) : sExpr e s = .nx s := by unfold sExpr sE; rw [h]
theorem augI_ok {C : Addr} {g : List D → R D} {i : Nat} {f : EF} {s : SD} {d e r : D} (hs : s[i]? = some (.sh d)) (h : f s = .ok e) (hr : opSp22 C g d e = .ok r) : sAugI C g i f s = .nx (s.set i (.sh r)) := by
  unfold sAugI
  rw [hs]
  dsimp only
  rw [h]
  dsimp only
  rw [hr]
end DS
set_option Elab.async false
set_option linter.all false
/-! Permutations of 0 .. n-1 as lists, their rings: plain mathematics. -/
namespace PM
def ap (f : List Nat) (i : Nat) : Nat := f.getD i 0
theorem ap_get {f : List Nat} {i : Nat} (h : i < f.length) : ap f i = f[i] := by simp [ap, h]
structure Pm (n : Nat) (f : List Nat) : Prop where
  len : f.length = n
  lt : ∀ i, i < n → ap f i < n
  inj : ∀ i j, i < n → j < n → ap f i = ap f j → i = j
def it (f : List Nat) : Nat → Nat → Nat
  | 0, p => p
  | k + 1, p => ap f (it f k p)
section
variable {n : Nat} {f : List Nat} (P : Pm n f)
include P
theorem it_lt {p : Nat} (hp : p < n) : ∀ k, it f k p < n
  | 0 => hp
  | k + 1 => P.lt _ (it_lt hp k)
theorem it_cancel {p : Nat} (hp : p < n) : ∀ (i d : Nat), it f i p = it f (i + d) p → it f d p = p
  | 0, d, h => by rw [Nat.zero_add] at h; exact h.symm
  | i + 1, d, h => by
    have e : i + 1 + d = (i + d) + 1 := by omega
    rw [e] at h
    exact it_cancel hp i d (P.inj _ _ (it_lt P hp i) (it_lt P hp (i + d)) h)
end
theorem nodup_le : ∀ (n : Nat) (l : List Nat), l.Nodup → (∀ x ∈ l, x < n) → l.length ≤ n
  | 0, [], _, _ => Nat.le_refl _
  | 0, a :: l, _, h => absurd (h a (.head _)) (by omega)
  | n + 1, l, hn, h => by
    by_cases m : n ∈ l
    · have e := List.length_erase_of_mem m
      have := nodup_le n (l.erase n) (hn.erase n) fun x hx => by
        have h1 := h x (List.mem_of_mem_erase hx)
        have h2 : x ≠ n := fun z => by
          rw [z] at hx
          exact (List.Nodup.not_mem_erase hn) hx
        omega
      have : 0 < l.length := List.length_pos_of_mem m
      omega
    · have := nodup_le n l hn fun x hx => by
        have h1 := h x hx
        have h2 : x ≠ n := fun z => m (by rw [← z]; exact hx)
        omega
      omega
theorem least {P : Nat → Prop} : ∀ k, P k → ∃ k, P k ∧ ∀ j, j < k → ¬ P j := fun k => by
  induction k using Nat.strongRecOn with
  | _ k ih =>
    intro h
    by_cases z : ∃ j, j < k ∧ P j
    · obtain ⟨j, h1, h2⟩ := z
      exact ih j h1 h2
    · exact ⟨k, h, fun j h1 h2 => z ⟨j, h1, h2⟩⟩
theorem range_nodup_map {g : Nat → Nat} : ∀ (m : Nat), (∀ i j, i < j → j < m → g i ≠ g j) → ((List.range m).map g).Nodup := fun m h => by
  rw [List.Nodup, List.pairwise_map]
  refine List.Pairwise.imp_of_mem ?_ List.pairwise_lt_range
  intro a b ha hb hab
  exact h a b hab (List.mem_range.mp hb)
theorem exists_per {n : Nat} {f : List Nat} (P : Pm n f) {p : Nat} (hp : p < n) : ∃ k, (0 < k ∧ it f k p = p) ∧ ∀ j, j < k → ¬ (0 < j ∧ it f j p = p) := by
  by_cases z : ∃ i j, i < j ∧ j < n + 1 ∧ it f i p = it f j p
  · obtain ⟨i, j, h1, h2, h3⟩ := z
    refine least (P := fun k => 0 < k ∧ it f k p = p) (j - i) ⟨by omega, it_cancel P hp i (j - i) ?_⟩
    rw [h3]
    congr 1
    omega
  · exfalso
    have := nodup_le n ((List.range (n + 1)).map fun k => it f k p) (range_nodup_map _ fun i j h1 h2 h3 => z ⟨i, j, h1, h2, h3⟩) fun x hx => by
      obtain ⟨k, _, rfl⟩ := List.mem_map.mp hx
      exact it_lt P hp k
    rw [List.length_map, List.length_range] at this
    omega
open Classical in
noncomputable def per (f : List Nat) (p : Nat) : Nat := if h : ∃ k, (0 < k ∧ it f k p = p) ∧ ∀ j, j < k → ¬ (0 < j ∧ it f j p = p) then h.choose else 1
section
variable {n : Nat} {f : List Nat} (P : Pm n f) {p : Nat} (hp : p < n)
include P hp
theorem per_spec : (0 < per f p ∧ it f (per f p) p = p) ∧ ∀ j, j < per f p → ¬ (0 < j ∧ it f j p = p) := by
  have h := exists_per P hp
  unfold per
  rw [dif_pos h]
  exact h.choose_spec
theorem it_ne {i j : Nat} (h1 : i < j) (h2 : j < per f p) : it f i p ≠ it f j p := fun h => by
  have := it_cancel P hp i (j - i) (by rw [h]; congr 1; omega)
  exact (per_spec P hp).2 (j - i) (by omega) ⟨by omega, this⟩
theorem per_le : per f p ≤ n := by
  have := nodup_le n ((List.range (per f p)).map fun k => it f k p) (range_nodup_map _ fun i j h1 h2 => it_ne P hp h1 h2) fun x hx => by
    obtain ⟨k, _, rfl⟩ := List.mem_map.mp hx
    exact it_lt P hp k
  simpa using this
end
/-- the ring of p, begun at p -/
noncomputable def ring (f : List Nat) (p : Nat) : List Nat := (List.range (per f p)).map fun k => it f k p
@[simp] theorem ring_length (f : List Nat) (p : Nat) : (ring f p).length = per f p := by simp [ring]
theorem ring_get {f : List Nat} {p j : Nat} (h : j < per f p) : (ring f p)[j]'(by simpa using h) = it f j p := by simp [ring]
/-- a list that f leads round -/
structure Cyc (f : List Nat) (r : List Nat) : Prop where
  ne : r ≠ []
  go : ∀ j (h : j < r.length), ap f r[j] = r[(j + 1) % r.length]'(Nat.mod_lt _ (by omega))
section
variable {n : Nat} {f : List Nat} (P : Pm n f) {p : Nat} (hp : p < n)
include P hp
theorem ring_nodup : (ring f p).Nodup := range_nodup_map _ fun i j h1 h2 => it_ne P hp h1 h2
theorem ring_lt {x : Nat} (h : x ∈ ring f p) : x < n := by
  obtain ⟨k, _, rfl⟩ := List.mem_map.mp h
  exact it_lt P hp k
theorem ring_self : p ∈ ring f p := List.mem_map.mpr ⟨0, List.mem_range.mpr (per_spec P hp).1.1, rfl⟩
theorem ring_cyc : Cyc f (ring f p) := by
  have h0 := (per_spec P hp).1
  refine ⟨List.ne_nil_of_mem (ring_self P hp), fun j h => ?_⟩
  have h' : j < per f p := by simpa using h
  rw [ring_get h']
  by_cases z : j + 1 < per f p
  · have e : (j + 1) % (ring f p).length = j + 1 := by rw [ring_length]; exact Nat.mod_eq_of_lt z
    have : (ring f p)[(j + 1) % (ring f p).length]'(Nat.mod_lt _ (by omega)) = (ring f p)[j + 1]'(by simpa using z) := by congr 1
    rw [this, ring_get z]
    rfl
  · have ez : j + 1 = per f p := by omega
    have e : (j + 1) % (ring f p).length = 0 := by rw [ring_length, ez]; exact Nat.mod_self _
    have : (ring f p)[(j + 1) % (ring f p).length]'(Nat.mod_lt _ (by omega)) = (ring f p)[0]'(by simpa using h0.1) := by congr 1
    rw [this, ring_get h0.1]
    have h3 := h0.2
    rw [← ez] at h3
    exact h3
theorem ring_step {x : Nat} (h : x ∈ ring f p) : ap f x ∈ ring f p := by
  obtain ⟨j, hj, rfl⟩ := List.getElem_of_mem h
  rw [(ring_cyc P hp).go j hj]
  exact List.getElem_mem _
theorem ring_back {x : Nat} (hx : x < n) (h : ap f x ∈ ring f p) : x ∈ ring f p := by
  obtain ⟨j, hj, e⟩ := List.getElem_of_mem h
  have h' : j < per f p := by simpa using hj
  rw [ring_get h'] at e
  have h0 := (per_spec P hp).1
  cases j with
  | zero =>
    have e2 : it f (per f p - 1 + 1) p = p := by
      rw [show per f p - 1 + 1 = per f p by omega]; exact h0.2
    have e3 : ap f (it f (per f p - 1) p) = ap f x := by
      rw [← e]; exact e2
    have := P.inj _ _ (it_lt P hp _) hx e3
    rw [← this]
    exact List.mem_map.mpr ⟨per f p - 1, List.mem_range.mpr (by omega), rfl⟩
  | succ j =>
    have := P.inj _ _ (it_lt P hp j) hx (show ap f (it f j p) = ap f x from e)
    rw [← this]
    exact List.mem_map.mpr ⟨j, List.mem_range.mpr (by omega), rfl⟩
theorem ring_one (h : ap f p = p) : ring f p = [p] := by
  have h1 := per_spec P hp
  have : per f p = 1 := by
    have := h1.1.1
    by_cases z : per f p = 1
    · exact z
    · exact absurd ⟨by omega, h⟩ (h1.2 1 (by omega))
  simp [ring, this, it]
theorem ring_big (h : ap f p ≠ p) : 1 < (ring f p).length := by
  rw [ring_length]
  have h1 := per_spec P hp
  have := h1.1.1
  by_cases z : per f p = 1
  · have e := h1.1.2
    rw [z] at e
    exact absurd e h
  · omega
end
/-- the rings of f: state of the walk over the places -/
noncomputable def stepR (f : List Nat) (s : List (List Nat) × List Nat) (p : Nat) : List (List Nat) × List Nat :=
  if p ∈ s.2 then s else (if 1 < (ring f p).length then s.1 ++ [ring f p] else s.1, s.2 ++ ring f p)
noncomputable def ringsTo (f : List Nat) (m : Nat) : List (List Nat) × List Nat := (List.range m).foldl (stepR f) ([], [])
noncomputable def rings (f : List Nat) : List (List Nat) := (ringsTo f f.length).1
theorem ringsTo_succ (f : List Nat) (m : Nat) : ringsTo f (m + 1) = stepR f (ringsTo f m) m := by
  unfold ringsTo
  rw [List.range_succ, List.foldl_append]
  rfl
structure RInv (n : Nat) (f : List Nat) (m : Nat) (s : List (List Nat) × List Nat) : Prop where
  seen : ∀ p, p < m → p ∈ s.2
  lt : ∀ p ∈ s.2, p < n
  nd : s.2.Nodup
  back : ∀ x, x < n → ap f x ∈ s.2 → x ∈ s.2
  fwd : ∀ x, x ∈ s.2 → ap f x ∈ s.2
  cyc : ∀ r ∈ s.1, Cyc f r ∧ 1 < r.length
  fnd : s.1.flatten.Nodup
  sub : ∀ x ∈ s.1.flatten, x ∈ s.2
  all : ∀ x ∈ s.2, ap f x ≠ x → x ∈ s.1.flatten
theorem it_seen {n : Nat} {f : List Nat} {s : List Nat} (P : Pm n f) (back : ∀ x, x < n → ap f x ∈ s → x ∈ s) {p : Nat} (hp : p < n) : ∀ k, it f k p ∈ s → p ∈ s
  | 0, h => h
  | k + 1, h => it_seen P back hp k (back _ (it_lt P hp k) h)
theorem rinv {n : Nat} {f : List Nat} (P : Pm n f) : ∀ m, m ≤ n → RInv n f m (ringsTo f m)
  | 0, _ => by
    have e : ringsTo f 0 = ([], []) := rfl
    rw [e]
    constructor
    · intro p h; omega
    · intro p h; cases h
    · exact List.Pairwise.nil
    · intro x _ h; cases h
    · intro x h; cases h
    · intro r h; cases h
    · exact List.Pairwise.nil
    · intro x h; cases h
    · intro x h; cases h
  | m + 1, hm => by
    have ih := rinv P m (by omega)
    rw [ringsTo_succ]
    unfold stepR
    by_cases z : m ∈ (ringsTo f m).2
    · rw [if_pos z]
      exact ⟨fun p h => by
        by_cases e : p = m
        · rw [e]; exact z
        · exact ih.seen p (by omega), ih.lt, ih.nd, ih.back, ih.fwd, ih.cyc, ih.fnd, ih.sub, ih.all⟩
    · rw [if_neg z]
      have hp : m < n := by omega
      have dis : ∀ x ∈ ring f m, x ∉ (ringsTo f m).2 := fun x hx h => by
        obtain ⟨k, _, rfl⟩ := List.mem_map.mp hx
        exact z (it_seen P ih.back hp k h)
      have nd2 : ((ringsTo f m).2 ++ ring f m).Nodup := List.nodup_append.mpr ⟨ih.nd, ring_nodup P hp, fun a ha b hb e => dis b hb (by rw [← e]; exact ha)⟩
      refine ⟨fun p h => ?_, fun p h => ?_, nd2, fun x hx h => ?_, fun x h => ?_, fun r h => ?_, ?_, fun x h => ?_, fun x h hne => ?_⟩
      · by_cases e : p = m
        · rw [e]; exact List.mem_append_right _ (ring_self P hp)
        · exact List.mem_append_left _ (ih.seen p (by omega))
      · exact (List.mem_append.mp h).elim (ih.lt p) fun h => ring_lt P hp h
      · exact (List.mem_append.mp h).elim (fun h => List.mem_append_left _ (ih.back x hx h)) fun h => List.mem_append_right _ (ring_back P hp hx h)
      · exact (List.mem_append.mp h).elim (fun h => List.mem_append_left _ (ih.fwd x h)) fun h => List.mem_append_right _ (ring_step P hp h)
      · dsimp only at h
        split at h
        · rename_i big
          rcases List.mem_append.mp h with h | h
          · exact ih.cyc r h
          · rw [List.mem_singleton] at h
            rw [h]
            exact ⟨ring_cyc P hp, big⟩
        · exact ih.cyc r h
      · dsimp only
        split
        · rw [List.flatten_append, List.flatten_singleton]
          exact List.nodup_append.mpr ⟨ih.fnd, ring_nodup P hp, fun a ha b hb e => dis b hb (by rw [← e]; exact ih.sub a ha)⟩
        · exact ih.fnd
      · dsimp only at h
        split at h
        · rw [List.flatten_append, List.flatten_singleton] at h
          exact (List.mem_append.mp h).elim (fun h => List.mem_append_left _ (ih.sub x h)) fun h => List.mem_append_right _ h
        · exact List.mem_append_left _ (ih.sub x h)
      · dsimp only
        rcases List.mem_append.mp h with h | h
        · have := ih.all x h hne
          split
          · rw [List.flatten_append]; exact List.mem_append_left _ this
          · exact this
        · have big : 1 < (ring f m).length := by
            by_cases e : ap f m = m
            · rw [ring_one P hp e, List.mem_singleton] at h
              rw [h] at hne
              exact absurd e hne
            · exact ring_big P hp e
          rw [if_pos big, List.flatten_append, List.flatten_singleton]
          exact List.mem_append_right _ h
theorem rings_cyc {n : Nat} {f : List Nat} (P : Pm n f) {r : List Nat} (h : r ∈ rings f) : Cyc f r ∧ 1 < r.length := (rinv P n (Nat.le_refl n)).cyc r (by unfold rings at h; rw [P.len] at h; exact h)
theorem rings_nodup {n : Nat} {f : List Nat} (P : Pm n f) : (rings f).flatten.Nodup := by
  have := (rinv P n (Nat.le_refl n)).fnd
  unfold rings
  rw [P.len]
  exact this
theorem rings_lt {n : Nat} {f : List Nat} (P : Pm n f) {x : Nat} (h : x ∈ (rings f).flatten) : x < n := by
  unfold rings at h
  rw [P.len] at h
  exact (rinv P n (Nat.le_refl n)).lt x ((rinv P n (Nat.le_refl n)).sub x h)
theorem rings_all {n : Nat} {f : List Nat} (P : Pm n f) {x : Nat} (hx : x < n) (h : ap f x ≠ x) : x ∈ (rings f).flatten := by
  unfold rings
  rw [P.len]
  exact (rinv P n (Nat.le_refl n)).all x ((rinv P n (Nat.le_refl n)).seen x hx) h
end PM
set_option Elab.async false
set_option linter.all false
/-! Permutations one behind another, back, many times: plain mathematics. -/
namespace PM
def comp (f g : List Nat) : List Nat := f.map (ap g)
noncomputable def pre (f : List Nat) (i : Nat) : Nat := it f (per f i - 1) i
noncomputable def inv (f : List Nat) : List Nat := (List.range f.length).map (pre f)
section
variable {n : Nat} {f g : List Nat} (P : Pm n f) (G : Pm n g)
include P
theorem pre_lt {i : Nat} (h : i < n) : pre f i < n := it_lt P h _
theorem ap_pre {i : Nat} (h : i < n) : ap f (pre f i) = i := by
  have h1 := per_spec P h
  have e : per f i - 1 + 1 = per f i := by have := h1.1.1; omega
  have : it f (per f i - 1 + 1) i = i := by rw [e]; exact h1.1.2
  exact this
theorem pre_ap {i : Nat} (h : i < n) : pre f (ap f i) = i := P.inj _ _ (pre_lt P (P.lt i h)) h (ap_pre P (P.lt i h))
theorem inv_length : (inv f).length = n := by simp [inv, P.len]
theorem ap_inv {i : Nat} (h : i < n) : ap (inv f) i = pre f i := by
  rw [ap_get (by rw [inv_length P]; exact h)]
  simp [inv]
theorem inv_pm : Pm n (inv f) := ⟨inv_length P, fun i h => by rw [ap_inv P h]; exact pre_lt P h, fun i j hi hj e => by
  rw [ap_inv P hi, ap_inv P hj] at e
  have := congrArg (ap f) e
  rwa [ap_pre P hi, ap_pre P hj] at this⟩
theorem comp_length : (comp f g).length = n := by simp [comp, P.len]
theorem ap_comp {i : Nat} (h : i < n) : ap (comp f g) i = ap g (ap f i) := by
  have hl := P.len
  rw [ap_get (by rw [comp_length P]; exact h)]
  simp [comp, ap_get (show i < f.length by omega)]
include G
theorem comp_pm : Pm n (comp f g) := ⟨comp_length P, fun i h => by rw [ap_comp P h]; exact G.lt _ (P.lt _ h), fun i j hi hj e => by
  rw [ap_comp P hi, ap_comp P hj] at e
  exact P.inj _ _ hi hj (G.inj _ _ (P.lt _ hi) (P.lt _ hj) e)⟩
end
theorem ext_pm {n : Nat} {f g : List Nat} (hf : f.length = n) (hg : g.length = n) (h : ∀ i, i < n → ap f i = ap g i) : f = g := by
  refine List.ext_getElem (by omega) fun i h1 h2 => ?_
  have := h i (by omega)
  rwa [ap_get h1, ap_get h2] at this
theorem idl_pm (n : Nat) : Pm n (List.range n) := by
  have e : ∀ i, i < n → ap (List.range n) i = i := fun i h => by rw [ap_get (by simpa using h)]; simp
  exact ⟨by simp, fun i h => by rw [e i h]; exact h, fun i j hi hj z => by rwa [e i hi, e j hj] at z⟩
theorem ap_idl {n i : Nat} (h : i < n) : ap (List.range n) i = i := by rw [ap_get (by simpa using h)]; simp
/-- the list of m times f -/
def pow (f : List Nat) (m : Nat) : List Nat := (List.range f.length).map fun i => it f m i
noncomputable def powZ (f : List Nat) (k : Int) : List Nat := if 0 ≤ k then pow f k.toNat else pow (inv f) (-k).toNat
section
variable {n : Nat} {f : List Nat} (P : Pm n f)
include P
theorem pow_length (m : Nat) : (pow f m).length = n := by simp [pow, P.len]
theorem ap_pow {m i : Nat} (h : i < n) : ap (pow f m) i = it f m i := by
  rw [ap_get (by rw [pow_length P]; exact h)]
  simp [pow]
theorem pow_zero : pow f 0 = List.range n := by simp [pow, it, P.len]
theorem pow_one : pow f 1 = f := ext_pm (pow_length P 1) P.len fun i h => by rw [ap_pow P h]; rfl
theorem pow_succ (m : Nat) : pow f (m + 1) = comp (pow f m) f := by
  refine ext_pm (pow_length P _) (by rw [comp, List.length_map]; exact pow_length P m) fun i h => ?_
  have hp : (pow f m).length = n := pow_length P m
  rw [ap_pow P h, comp, ap_get (by rw [List.length_map, hp]; exact h), List.getElem_map]
  have e : (pow f m)[i]'(by rw [hp]; exact h) = it f m i := by rw [← ap_get (by rw [hp]; exact h)]; exact ap_pow P h
  rw [e]
  rfl
theorem pow_pm : ∀ m, Pm n (pow f m)
  | 0 => by rw [pow_zero P]; exact idl_pm n
  | m + 1 => by rw [pow_succ P]; exact comp_pm (pow_pm m) P
theorem powZ_pm (k : Int) : Pm n (powZ f k) := by
  unfold powZ
  split
  · exact pow_pm P _
  · exact pow_pm (inv_pm P) _
end
/-! ### along a ring -/
theorem cyc_it {f r : List Nat} (C : Cyc f r) {j : Nat} (h : j < r.length) : ∀ m, it f m r[j] = r[(j + m) % r.length]'(Nat.mod_lt _ (by omega))
  | 0 => by
    have : (j + 0) % r.length = j := Nat.mod_eq_of_lt (by omega)
    simp only [this]
    rfl
  | m + 1 => by
    show ap f (it f m r[j]) = _
    rw [cyc_it C h m, C.go _ (Nat.mod_lt _ (by omega))]
    congr 1
    rw [Nat.mod_add_mod, Nat.add_assoc]
theorem cyc_pre {n : Nat} {f r : List Nat} (P : Pm n f) (C : Cyc f r) (hr : ∀ x ∈ r, x < n) {j : Nat} (h : j < r.length) : ap (inv f) r[j] = r[(j + (r.length - 1)) % r.length]'(Nat.mod_lt _ (by omega)) := by
  have hj := hr _ (List.getElem_mem h)
  rw [ap_inv P hj]
  have hm : (j + (r.length - 1)) % r.length < r.length := Nat.mod_lt _ (by omega)
  have e := C.go _ hm
  have e2 : ((j + (r.length - 1)) % r.length + 1) % r.length = j := by
    rw [Nat.mod_add_mod, show j + (r.length - 1) + 1 = j + r.length by omega, Nat.add_mod_right]
    exact Nat.mod_eq_of_lt h
  simp only [e2] at e
  rw [← e]
  exact pre_ap P (hr _ (List.getElem_mem hm))
theorem cyc_itinv {n : Nat} {f r : List Nat} (P : Pm n f) (C : Cyc f r) (hr : ∀ x ∈ r, x < n) {j : Nat} (h : j < r.length) : ∀ m, it (inv f) m r[j] = r[(j + m * (r.length - 1)) % r.length]'(Nat.mod_lt _ (by omega))
  | 0 => by
    have : (j + 0 * (r.length - 1)) % r.length = j := by rw [Nat.zero_mul]; exact Nat.mod_eq_of_lt (by omega)
    simp only [this]
    rfl
  | m + 1 => by
    show ap (inv f) (it (inv f) m r[j]) = _
    rw [cyc_itinv P C hr h m, cyc_pre P C hr (Nat.mod_lt _ (by omega))]
    congr 1
    rw [Nat.mod_add_mod, Nat.add_mul, Nat.one_mul, Nat.add_assoc]
/-- r[(j + k) % len(r)] is k times from r[j] -/
theorem cyc_powZ {n : Nat} {f r : List Nat} (P : Pm n f) (C : Cyc f r) (hr : ∀ x ∈ r, x < n) {j : Nat} (h : j < r.length) (k : Int) : ∃ q : Nat, ((j : Int) + k).fmod (r.length : Int) = (q : Int) ∧ ∃ hq : q < r.length, r[q] = ap (powZ f k) r[j] := by
  have hj := hr _ (List.getElem_mem h)
  have hl : 0 < r.length := by omega
  by_cases hk : 0 ≤ k
  · refine ⟨(j + k.toNat) % r.length, ?_, Nat.mod_lt _ hl, ?_⟩
    · have e : (j : Int) + k = ((j + k.toNat : Nat) : Int) := by omega
      rw [e, Int.fmod_eq_emod_of_nonneg _ (by omega)]
      rfl
    · unfold powZ
      rw [if_pos hk, ap_pow P hj, cyc_it C h]
  · refine ⟨(j + (-k).toNat * (r.length - 1)) % r.length, ?_, Nat.mod_lt _ hl, ?_⟩
    · obtain ⟨m, hm⟩ : ∃ m : Nat, k = -(m : Int) := ⟨(-k).toNat, by omega⟩
      subst hm
      have e0 : (- -(m : Int)).toNat = m := by omega
      rw [e0]
      rw [Int.fmod_eq_emod_of_nonneg _ (by omega)]
      have e1 : (j : Int) + -(m : Int) = ((j + m * (r.length - 1) : Nat) : Int) + (r.length : Int) * (-(m : Int)) := by
        have e2 : ((m * (r.length - 1) : Nat) : Int) = (m : Int) * ((r.length : Int) - 1) := by
          rw [Int.natCast_mul]
          congr 1
          omega
        rw [Int.natCast_add, e2, Int.mul_sub, Int.mul_neg, Int.mul_comm (r.length : Int) (m : Int)]
        omega
      rw [e1, Int.add_mul_emod_self_left]
      rfl
    · unfold powZ
      rw [if_neg hk, ap_pow (inv_pm P) hj, cyc_itinv P C hr h]
theorem fix_it {f : List Nat} {x : Nat} (h : ap f x = x) : ∀ m, it f m x = x
  | 0 => rfl
  | m + 1 => by
    show ap f (it f m x) = x
    rw [fix_it h m, h]
theorem fix_powZ {n : Nat} {f : List Nat} (P : Pm n f) {x : Nat} (hx : x < n) (h : ap f x = x) (k : Int) : ap (powZ f k) x = x := by
  unfold powZ
  split
  · rw [ap_pow P hx]; exact fix_it h _
  · rw [ap_pow (inv_pm P) hx]
    refine fix_it ?_ _
    rw [ap_inv P hx]
    have := pre_ap P hx
    rwa [h] at this
end PM
set_option Elab.async false
set_option linter.all false
set_option maxRecDepth 100000
set_option maxHeartbeats 0
namespace KK
open PySem PySem.Spec PyProof.Rows L2 DS
abbrev R0 : PySem.W.OpenRow := PySem.W.OpenLaw.row PySem.Challenge.rw_turnwires_k01_errors
def top (i : Nat) : Stmt := PySem.Challenge.pw_turnwires_k01_errors.main.body.getD i (.Pass ⟨0, 0, 0, 0⟩)
abbrev dd__law_cell : He.DefD := ⟨("_law_cell", none), "_law_cell", "_law_cell", defArgs (top 20), defBody (top 20), defScope (top 20), [], []⟩
abbrev dd__law_held : He.DefD := ⟨("_law_held", none), "_law_held", "_law_held", defArgs (top 23), defBody (top 23), defScope (top 23), [], []⟩
abbrev dd__law_kinds : He.DefD := ⟨("_law_kinds", none), "_law_kinds", "_law_kinds", defArgs (top 21), defBody (top 21), defScope (top 21), [], []⟩
abbrev dd__law_made : He.DefD := ⟨("_law_made", none), "_law_made", "_law_made", defArgs (top 22), defBody (top 22), defScope (top 22), [], []⟩
abbrev dd_law : He.DefD := ⟨("law", none), "law", "law", defArgs (top 24), defBody (top 24), defScope (top 24), [], []⟩
def fn : List He.DefD := [dd__law_cell, dd__law_held, dd__law_kinds, dd__law_made, dd_law]
abbrev level : Nat := 4
def xfile : Str := R0.prog.main.file
abbrev xd_NoQuot : XD := ⟨"NoQuot", none, xfile, "__init__", "NoQuot.__init__", defArgs (inClass (top 14) 0), defBody (inClass (top 14) 0), defScope (inClass (top 14) 0)⟩
abbrev xd_NoSize : XD := ⟨"NoSize", some "size", xfile, "__init__", "NoSize.__init__", defArgs (inClass (top 2) 0), defBody (inClass (top 2) 0), defScope (inClass (top 2) 0)⟩
abbrev xd_NoRing : XD := ⟨"NoRing", some "index", xfile, "__init__", "NoRing.__init__", defArgs (inClass (top 3) 0), defBody (inClass (top 3) 0), defScope (inClass (top 3) 0)⟩
abbrev xd_NoPlace : XD := ⟨"NoPlace", some "place", xfile, "__init__", "NoPlace.__init__", defArgs (inClass (top 4) 0), defBody (inClass (top 4) 0), defScope (inClass (top 4) 0)⟩
abbrev xd_WrongSize : XD := ⟨"WrongSize", some "size", xfile, "__init__", "WrongSize.__init__", defArgs (inClass (top 5) 0), defBody (inClass (top 5) 0), defScope (inClass (top 5) 0)⟩
abbrev xd_NoText : XD := ⟨"NoText", some "text", xfile, "__init__", "NoText.__init__", defArgs (inClass (top 6) 0), defBody (inClass (top 6) 0), defScope (inClass (top 6) 0)⟩
abbrev xd_NoName : XD := ⟨"NoName", some "name", xfile, "__init__", "NoName.__init__", defArgs (inClass (top 7) 0), defBody (inClass (top 7) 0), defScope (inClass (top 7) 0)⟩
abbrev xd_NoKind : XD := ⟨"NoKind", some "kind", xfile, "__init__", "NoKind.__init__", defArgs (inClass (top 8) 0), defBody (inClass (top 8) 0), defScope (inClass (top 8) 0)⟩
abbrev xd_NoMost : XD := ⟨"NoMost", some "most", xfile, "__init__", "NoMost.__init__", defArgs (inClass (top 9) 0), defBody (inClass (top 9) 0), defScope (inClass (top 9) 0)⟩
abbrev xd_TwoKinds : XD := ⟨"TwoKinds", some "name", xfile, "__init__", "TwoKinds.__init__", defArgs (inClass (top 10) 0), defBody (inClass (top 10) 0), defScope (inClass (top 10) 0)⟩
abbrev xd_NoPart : XD := ⟨"NoPart", some "part", xfile, "__init__", "NoPart.__init__", defArgs (inClass (top 11) 0), defBody (inClass (top 11) 0), defScope (inClass (top 11) 0)⟩
abbrev xd_Unfilled : XD := ⟨"Unfilled", some "name", xfile, "__init__", "Unfilled.__init__", defArgs (inClass (top 12) 0), defBody (inClass (top 12) 0), defScope (inClass (top 12) 0)⟩
abbrev xd_WrongKind : XD := ⟨"WrongKind", some "name", xfile, "__init__", "WrongKind.__init__", defArgs (inClass (top 13) 0), defBody (inClass (top 13) 0), defScope (inClass (top 13) 0)⟩
abbrev xd_NoValue : XD := ⟨"NoValue", some "n", xfile, "__init__", "NoValue.__init__", defArgs (inClass (top 15) 0), defBody (inClass (top 15) 0), defScope (inClass (top 15) 0)⟩
abbrev xd_NoShare : XD := ⟨"NoShare", some "name", xfile, "__init__", "NoShare.__init__", defArgs (inClass (top 16) 0), defBody (inClass (top 16) 0), defScope (inClass (top 16) 0)⟩
abbrev xd_NoSighting : XD := ⟨"NoSighting", some "k", xfile, "__init__", "NoSighting.__init__", defArgs (inClass (top 17) 0), defBody (inClass (top 17) 0), defScope (inClass (top 17) 0)⟩
abbrev xd_NoHalves : XD := ⟨"NoHalves", some "length", xfile, "__init__", "NoHalves.__init__", defArgs (inClass (top 18) 0), defBody (inClass (top 18) 0), defScope (inClass (top 18) 0)⟩
def xs : List XD := [xd_NoQuot, xd_NoSize, xd_NoRing, xd_NoPlace, xd_WrongSize, xd_NoText, xd_NoName, xd_NoKind, xd_NoMost, xd_TwoKinds, xd_NoPart, xd_Unfilled, xd_WrongKind, xd_NoValue, xd_NoShare, xd_NoSighting, xd_NoHalves]
def tbx_WireError : List (Str × Bool) := [("NoSize", true), ("NoRing", true), ("NoPlace", true), ("WrongSize", true), ("NoText", true), ("NoName", true), ("NoKind", true), ("NoMost", true), ("TwoKinds", true), ("NoPart", true), ("Unfilled", true), ("WrongKind", true), ("NoValue", true), ("NoShare", true), ("NoSighting", true), ("NoHalves", true), ("NoQuot", true)]
def tbx_ValueError : List (Str × Bool) := [("NoSize", true), ("NoRing", true), ("NoPlace", true), ("WrongSize", true), ("NoText", true), ("NoName", true), ("NoKind", true), ("NoMost", true), ("TwoKinds", true), ("NoPart", true), ("Unfilled", true), ("WrongKind", true), ("NoValue", true), ("NoShare", true), ("NoSighting", true), ("NoHalves", true), ("NoQuot", true)]
def tbx_NoSize : List (Str × Bool) := [("NoSize", true), ("NoRing", false), ("NoPlace", false), ("WrongSize", false), ("NoText", false), ("NoName", false), ("NoKind", false), ("NoMost", false), ("TwoKinds", false), ("NoPart", false), ("Unfilled", false), ("WrongKind", false), ("NoValue", false), ("NoShare", false), ("NoSighting", false), ("NoHalves", false), ("NoQuot", false)]
def tbx_NoRing : List (Str × Bool) := [("NoSize", false), ("NoRing", true), ("NoPlace", false), ("WrongSize", false), ("NoText", false), ("NoName", false), ("NoKind", false), ("NoMost", false), ("TwoKinds", false), ("NoPart", false), ("Unfilled", false), ("WrongKind", false), ("NoValue", false), ("NoShare", false), ("NoSighting", false), ("NoHalves", false), ("NoQuot", false)]
def tbx_NoPlace : List (Str × Bool) := [("NoSize", false), ("NoRing", false), ("NoPlace", true), ("WrongSize", false), ("NoText", false), ("NoName", false), ("NoKind", false), ("NoMost", false), ("TwoKinds", false), ("NoPart", false), ("Unfilled", false), ("WrongKind", false), ("NoValue", false), ("NoShare", false), ("NoSighting", false), ("NoHalves", false), ("NoQuot", false)]
def tbx_WrongSize : List (Str × Bool) := [("NoSize", false), ("NoRing", false), ("NoPlace", false), ("WrongSize", true), ("NoText", false), ("NoName", false), ("NoKind", false), ("NoMost", false), ("TwoKinds", false), ("NoPart", false), ("Unfilled", false), ("WrongKind", false), ("NoValue", false), ("NoShare", false), ("NoSighting", false), ("NoHalves", false), ("NoQuot", false)]
def tbx_NoText : List (Str × Bool) := [("NoSize", false), ("NoRing", false), ("NoPlace", false), ("WrongSize", false), ("NoText", true), ("NoName", false), ("NoKind", false), ("NoMost", false), ("TwoKinds", false), ("NoPart", false), ("Unfilled", false), ("WrongKind", false), ("NoValue", false), ("NoShare", false), ("NoSighting", false), ("NoHalves", false), ("NoQuot", false)]
def tbx_NoName : List (Str × Bool) := [("NoSize", false), ("NoRing", false), ("NoPlace", false), ("WrongSize", false), ("NoText", false), ("NoName", true), ("NoKind", false), ("NoMost", false), ("TwoKinds", false), ("NoPart", false), ("Unfilled", false), ("WrongKind", false), ("NoValue", false), ("NoShare", false), ("NoSighting", false), ("NoHalves", false), ("NoQuot", false)]
def tbx_NoKind : List (Str × Bool) := [("NoSize", false), ("NoRing", false), ("NoPlace", false), ("WrongSize", false), ("NoText", false), ("NoName", false), ("NoKind", true), ("NoMost", false), ("TwoKinds", false), ("NoPart", false), ("Unfilled", false), ("WrongKind", false), ("NoValue", false), ("NoShare", false), ("NoSighting", false), ("NoHalves", false), ("NoQuot", false)]
def tbx_NoMost : List (Str × Bool) := [("NoSize", false), ("NoRing", false), ("NoPlace", false), ("WrongSize", false), ("NoText", false), ("NoName", false), ("NoKind", false), ("NoMost", true), ("TwoKinds", false), ("NoPart", false), ("Unfilled", false), ("WrongKind", false), ("NoValue", false), ("NoShare", false), ("NoSighting", false), ("NoHalves", false), ("NoQuot", false)]
def tbx_TwoKinds : List (Str × Bool) := [("NoSize", false), ("NoRing", false), ("NoPlace", false), ("WrongSize", false), ("NoText", false), ("NoName", false), ("NoKind", false), ("NoMost", false), ("TwoKinds", true), ("NoPart", false), ("Unfilled", false), ("WrongKind", false), ("NoValue", false), ("NoShare", false), ("NoSighting", false), ("NoHalves", false), ("NoQuot", false)]
def tbx_NoPart : List (Str × Bool) := [("NoSize", false), ("NoRing", false), ("NoPlace", false), ("WrongSize", false), ("NoText", false), ("NoName", false), ("NoKind", false), ("NoMost", false), ("TwoKinds", false), ("NoPart", true), ("Unfilled", false), ("WrongKind", false), ("NoValue", false), ("NoShare", false), ("NoSighting", false), ("NoHalves", false), ("NoQuot", false)]
def tbx_Unfilled : List (Str × Bool) := [("NoSize", false), ("NoRing", false), ("NoPlace", false), ("WrongSize", false), ("NoText", false), ("NoName", false), ("NoKind", false), ("NoMost", false), ("TwoKinds", false), ("NoPart", false), ("Unfilled", true), ("WrongKind", false), ("NoValue", false), ("NoShare", false), ("NoSighting", false), ("NoHalves", false), ("NoQuot", false)]
def tbx_WrongKind : List (Str × Bool) := [("NoSize", false), ("NoRing", false), ("NoPlace", false), ("WrongSize", false), ("NoText", false), ("NoName", false), ("NoKind", false), ("NoMost", false), ("TwoKinds", false), ("NoPart", false), ("Unfilled", false), ("WrongKind", true), ("NoValue", false), ("NoShare", false), ("NoSighting", false), ("NoHalves", false), ("NoQuot", false)]
def tbx_NoValue : List (Str × Bool) := [("NoSize", false), ("NoRing", false), ("NoPlace", false), ("WrongSize", false), ("NoText", false), ("NoName", false), ("NoKind", false), ("NoMost", false), ("TwoKinds", false), ("NoPart", false), ("Unfilled", false), ("WrongKind", false), ("NoValue", true), ("NoShare", false), ("NoSighting", false), ("NoHalves", false), ("NoQuot", false)]
def tbx_NoShare : List (Str × Bool) := [("NoSize", false), ("NoRing", false), ("NoPlace", false), ("WrongSize", false), ("NoText", false), ("NoName", false), ("NoKind", false), ("NoMost", false), ("TwoKinds", false), ("NoPart", false), ("Unfilled", false), ("WrongKind", false), ("NoValue", false), ("NoShare", true), ("NoSighting", false), ("NoHalves", false), ("NoQuot", false)]
def tbx_NoSighting : List (Str × Bool) := [("NoSize", false), ("NoRing", false), ("NoPlace", false), ("WrongSize", false), ("NoText", false), ("NoName", false), ("NoKind", false), ("NoMost", false), ("TwoKinds", false), ("NoPart", false), ("Unfilled", false), ("WrongKind", false), ("NoValue", false), ("NoShare", false), ("NoSighting", true), ("NoHalves", false), ("NoQuot", false)]
def tbx_NoHalves : List (Str × Bool) := [("NoSize", false), ("NoRing", false), ("NoPlace", false), ("WrongSize", false), ("NoText", false), ("NoName", false), ("NoKind", false), ("NoMost", false), ("TwoKinds", false), ("NoPart", false), ("Unfilled", false), ("WrongKind", false), ("NoValue", false), ("NoShare", false), ("NoSighting", false), ("NoHalves", true), ("NoQuot", false)]
def tbx_NoQuot : List (Str × Bool) := [("NoSize", false), ("NoRing", false), ("NoPlace", false), ("WrongSize", false), ("NoText", false), ("NoName", false), ("NoKind", false), ("NoMost", false), ("TwoKinds", false), ("NoPart", false), ("Unfilled", false), ("WrongKind", false), ("NoValue", false), ("NoShare", false), ("NoSighting", false), ("NoHalves", false), ("NoQuot", true)]
def xtb : List (Str × Str) := []
def ts_m_int : PySem.W.Frag → Bool := (He.Fa.free "int").ok
def ts_m_str : PySem.W.Frag → Bool := (He.Fa.free "str").ok
def ts_m_len : PySem.W.Frag → Bool := (He.Fa.free "len").ok
def ts_m_range : PySem.W.Frag → Bool := (He.Fa.free "range").ok
def ts_isx_WireError : PySem.W.Frag → Bool := tIsX (.own "WireError") tbx_WireError
def ts_g_of_WireError : PySem.W.Frag → Bool := (He.Fa.glo "WireError").ok
def ts_m_isinstance : PySem.W.Frag → Bool := (He.Fa.free "isinstance").ok
def ts_isx_ValueError : PySem.W.Frag → Bool := tIsX (.ty "ValueError") tbx_ValueError
def ts_m_ValueError : PySem.W.Frag → Bool := (He.Fa.free "ValueError").ok
def ts_isx_NoSize : PySem.W.Frag → Bool := tIsX (.own "NoSize") tbx_NoSize
def ts_g_of_NoSize : PySem.W.Frag → Bool := (He.Fa.glo "NoSize").ok
def ts_isx_NoRing : PySem.W.Frag → Bool := tIsX (.own "NoRing") tbx_NoRing
def ts_g_of_NoRing : PySem.W.Frag → Bool := (He.Fa.glo "NoRing").ok
def ts_isx_NoPlace : PySem.W.Frag → Bool := tIsX (.own "NoPlace") tbx_NoPlace
def ts_g_of_NoPlace : PySem.W.Frag → Bool := (He.Fa.glo "NoPlace").ok
def ts_isx_WrongSize : PySem.W.Frag → Bool := tIsX (.own "WrongSize") tbx_WrongSize
def ts_g_of_WrongSize : PySem.W.Frag → Bool := (He.Fa.glo "WrongSize").ok
def ts_isx_NoText : PySem.W.Frag → Bool := tIsX (.own "NoText") tbx_NoText
def ts_g_of_NoText : PySem.W.Frag → Bool := (He.Fa.glo "NoText").ok
def ts_isx_NoName : PySem.W.Frag → Bool := tIsX (.own "NoName") tbx_NoName
def ts_g_of_NoName : PySem.W.Frag → Bool := (He.Fa.glo "NoName").ok
def ts_isx_NoKind : PySem.W.Frag → Bool := tIsX (.own "NoKind") tbx_NoKind
def ts_g_of_NoKind : PySem.W.Frag → Bool := (He.Fa.glo "NoKind").ok
def ts_isx_NoMost : PySem.W.Frag → Bool := tIsX (.own "NoMost") tbx_NoMost
def ts_g_of_NoMost : PySem.W.Frag → Bool := (He.Fa.glo "NoMost").ok
def ts_isx_TwoKinds : PySem.W.Frag → Bool := tIsX (.own "TwoKinds") tbx_TwoKinds
def ts_g_of_TwoKinds : PySem.W.Frag → Bool := (He.Fa.glo "TwoKinds").ok
def ts_isx_NoPart : PySem.W.Frag → Bool := tIsX (.own "NoPart") tbx_NoPart
def ts_g_of_NoPart : PySem.W.Frag → Bool := (He.Fa.glo "NoPart").ok
def ts_isx_Unfilled : PySem.W.Frag → Bool := tIsX (.own "Unfilled") tbx_Unfilled
def ts_g_of_Unfilled : PySem.W.Frag → Bool := (He.Fa.glo "Unfilled").ok
def ts_isx_WrongKind : PySem.W.Frag → Bool := tIsX (.own "WrongKind") tbx_WrongKind
def ts_g_of_WrongKind : PySem.W.Frag → Bool := (He.Fa.glo "WrongKind").ok
def ts_isx_NoValue : PySem.W.Frag → Bool := tIsX (.own "NoValue") tbx_NoValue
def ts_g_of_NoValue : PySem.W.Frag → Bool := (He.Fa.glo "NoValue").ok
def ts_isx_NoShare : PySem.W.Frag → Bool := tIsX (.own "NoShare") tbx_NoShare
def ts_g_of_NoShare : PySem.W.Frag → Bool := (He.Fa.glo "NoShare").ok
def ts_isx_NoSighting : PySem.W.Frag → Bool := tIsX (.own "NoSighting") tbx_NoSighting
def ts_g_of_NoSighting : PySem.W.Frag → Bool := (He.Fa.glo "NoSighting").ok
def ts_isx_NoHalves : PySem.W.Frag → Bool := tIsX (.own "NoHalves") tbx_NoHalves
def ts_g_of_NoHalves : PySem.W.Frag → Bool := (He.Fa.glo "NoHalves").ok
def ts_isx_NoQuot : PySem.W.Frag → Bool := tIsX (.own "NoQuot") tbx_NoQuot
def ts_g_of_NoQuot : PySem.W.Frag → Bool := (He.Fa.glo "NoQuot").ok
def ts_g_of__law_cell : PySem.W.Frag → Bool := (He.Fa.glo "_law_cell").ok
def ts_g_of__law_held : PySem.W.Frag → Bool := (He.Fa.glo "_law_held").ok
def ts_g_of__law_kinds : PySem.W.Frag → Bool := (He.Fa.glo "_law_kinds").ok
def ts_g_of__law_made : PySem.W.Frag → Bool := (He.Fa.glo "_law_made").ok
def ts_no_list : PySem.W.Frag → Bool := tNoList
def ts_g_of_law : PySem.W.Frag → Bool := (He.Fa.glo "law").ok
def ts : Ts := [ts_m_int, ts_m_str, ts_m_len, ts_m_range, ts_isx_WireError, ts_g_of_WireError, ts_m_isinstance, ts_isx_ValueError, ts_m_ValueError, ts_isx_NoSize, ts_g_of_NoSize, ts_isx_NoRing, ts_g_of_NoRing, ts_isx_NoPlace, ts_g_of_NoPlace, ts_isx_WrongSize, ts_g_of_WrongSize, ts_isx_NoText, ts_g_of_NoText, ts_isx_NoName, ts_g_of_NoName, ts_isx_NoKind, ts_g_of_NoKind, ts_isx_NoMost, ts_g_of_NoMost, ts_isx_TwoKinds, ts_g_of_TwoKinds, ts_isx_NoPart, ts_g_of_NoPart, ts_isx_Unfilled, ts_g_of_Unfilled, ts_isx_WrongKind, ts_g_of_WrongKind, ts_isx_NoValue, ts_g_of_NoValue, ts_isx_NoShare, ts_g_of_NoShare, ts_isx_NoSighting, ts_g_of_NoSighting, ts_isx_NoHalves, ts_g_of_NoHalves, ts_isx_NoQuot, ts_g_of_NoQuot, ts_g_of__law_cell, ts_g_of__law_held, ts_g_of__law_kinds, ts_g_of__law_made, ts_no_list, ts_g_of_law]
def hk : PySem.W.Hook := hookX 5 ts fn xs
def ob (s : PySem.W.SharedT) := lookX 5 ts fn xs (HandSHeadRun.getT s)
theorem ob_eq (s : PySem.W.SharedT) : ob s = hk.obs s.abs := lookX_eq (HandSHeadRun.getT_eq s)
def names0 : List PySem.Str := ["WireError", "NoSize", "NoRing", "NoPlace", "WrongSize", "NoText", "NoName", "NoKind", "NoMost", "TwoKinds", "NoPart", "Unfilled", "WrongKind", "NoQuot", "NoValue", "NoShare", "NoSighting", "NoHalves", "_law_cell", "_law_kinds", "_law_made", "_law_held"]
def names : List PySem.Str := names0
structure Cn (P : Program) (K : PySem.W.Frag) (mg : Str → Option Value) (base : Heap) : Prop where
  X : K.In base
  G : base.Ns mainGlobals mg
  c : tellX ts fn xs K = toldX fn xs
  file : (P.main.file == xfile) = true
  top : (P.main.scope.names.lookup ("super" : Str)).isSome = false
section
variable {P : Program} {K : PySem.W.Frag} {mg : Str → Option Value} {base : Heap} (n : Cn P K mg base)
include n
theorem m_int : mg "int" = none := He.free_ok n.X n.G (factX n.c 0 rfl)
theorem m_str : mg "str" = none := He.free_ok n.X n.G (factX n.c 1 rfl)
theorem m_len : mg "len" = none := He.free_ok n.X n.G (factX n.c 2 rfl)
theorem m_range : mg "range" = none := He.free_ok n.X n.G (factX n.c 3 rfl)
theorem isx_WireError : TbX K (ClN.u K (.own "WireError")) tbx_WireError := tIsX_ok (factX n.c 4 rfl)
theorem g_of_WireError : mg "WireError" = some (.ref (He.ga K "WireError")) := He.glo_ok n.X n.G (factX n.c 5 rfl)
theorem m_isinstance : mg "isinstance" = none := He.free_ok n.X n.G (factX n.c 6 rfl)
theorem isx_ValueError : TbX K (ClN.u K (.ty "ValueError")) tbx_ValueError := tIsX_ok (factX n.c 7 rfl)
theorem m_ValueError : mg "ValueError" = none := He.free_ok n.X n.G (factX n.c 8 rfl)
theorem isx_NoSize : TbX K (ClN.u K (.own "NoSize")) tbx_NoSize := tIsX_ok (factX n.c 9 rfl)
theorem g_of_NoSize : mg "NoSize" = some (.ref (He.ga K "NoSize")) := He.glo_ok n.X n.G (factX n.c 10 rfl)
theorem isx_NoRing : TbX K (ClN.u K (.own "NoRing")) tbx_NoRing := tIsX_ok (factX n.c 11 rfl)
theorem g_of_NoRing : mg "NoRing" = some (.ref (He.ga K "NoRing")) := He.glo_ok n.X n.G (factX n.c 12 rfl)
theorem isx_NoPlace : TbX K (ClN.u K (.own "NoPlace")) tbx_NoPlace := tIsX_ok (factX n.c 13 rfl)
theorem g_of_NoPlace : mg "NoPlace" = some (.ref (He.ga K "NoPlace")) := He.glo_ok n.X n.G (factX n.c 14 rfl)
theorem isx_WrongSize : TbX K (ClN.u K (.own "WrongSize")) tbx_WrongSize := tIsX_ok (factX n.c 15 rfl)
theorem g_of_WrongSize : mg "WrongSize" = some (.ref (He.ga K "WrongSize")) := He.glo_ok n.X n.G (factX n.c 16 rfl)
theorem isx_NoText : TbX K (ClN.u K (.own "NoText")) tbx_NoText := tIsX_ok (factX n.c 17 rfl)
theorem g_of_NoText : mg "NoText" = some (.ref (He.ga K "NoText")) := He.glo_ok n.X n.G (factX n.c 18 rfl)
theorem isx_NoName : TbX K (ClN.u K (.own "NoName")) tbx_NoName := tIsX_ok (factX n.c 19 rfl)
theorem g_of_NoName : mg "NoName" = some (.ref (He.ga K "NoName")) := He.glo_ok n.X n.G (factX n.c 20 rfl)
theorem isx_NoKind : TbX K (ClN.u K (.own "NoKind")) tbx_NoKind := tIsX_ok (factX n.c 21 rfl)
theorem g_of_NoKind : mg "NoKind" = some (.ref (He.ga K "NoKind")) := He.glo_ok n.X n.G (factX n.c 22 rfl)
theorem isx_NoMost : TbX K (ClN.u K (.own "NoMost")) tbx_NoMost := tIsX_ok (factX n.c 23 rfl)
theorem g_of_NoMost : mg "NoMost" = some (.ref (He.ga K "NoMost")) := He.glo_ok n.X n.G (factX n.c 24 rfl)
theorem isx_TwoKinds : TbX K (ClN.u K (.own "TwoKinds")) tbx_TwoKinds := tIsX_ok (factX n.c 25 rfl)
theorem g_of_TwoKinds : mg "TwoKinds" = some (.ref (He.ga K "TwoKinds")) := He.glo_ok n.X n.G (factX n.c 26 rfl)
theorem isx_NoPart : TbX K (ClN.u K (.own "NoPart")) tbx_NoPart := tIsX_ok (factX n.c 27 rfl)
theorem g_of_NoPart : mg "NoPart" = some (.ref (He.ga K "NoPart")) := He.glo_ok n.X n.G (factX n.c 28 rfl)
theorem isx_Unfilled : TbX K (ClN.u K (.own "Unfilled")) tbx_Unfilled := tIsX_ok (factX n.c 29 rfl)
theorem g_of_Unfilled : mg "Unfilled" = some (.ref (He.ga K "Unfilled")) := He.glo_ok n.X n.G (factX n.c 30 rfl)
theorem isx_WrongKind : TbX K (ClN.u K (.own "WrongKind")) tbx_WrongKind := tIsX_ok (factX n.c 31 rfl)
theorem g_of_WrongKind : mg "WrongKind" = some (.ref (He.ga K "WrongKind")) := He.glo_ok n.X n.G (factX n.c 32 rfl)
theorem isx_NoValue : TbX K (ClN.u K (.own "NoValue")) tbx_NoValue := tIsX_ok (factX n.c 33 rfl)
theorem g_of_NoValue : mg "NoValue" = some (.ref (He.ga K "NoValue")) := He.glo_ok n.X n.G (factX n.c 34 rfl)
theorem isx_NoShare : TbX K (ClN.u K (.own "NoShare")) tbx_NoShare := tIsX_ok (factX n.c 35 rfl)
theorem g_of_NoShare : mg "NoShare" = some (.ref (He.ga K "NoShare")) := He.glo_ok n.X n.G (factX n.c 36 rfl)
theorem isx_NoSighting : TbX K (ClN.u K (.own "NoSighting")) tbx_NoSighting := tIsX_ok (factX n.c 37 rfl)
theorem g_of_NoSighting : mg "NoSighting" = some (.ref (He.ga K "NoSighting")) := He.glo_ok n.X n.G (factX n.c 38 rfl)
theorem isx_NoHalves : TbX K (ClN.u K (.own "NoHalves")) tbx_NoHalves := tIsX_ok (factX n.c 39 rfl)
theorem g_of_NoHalves : mg "NoHalves" = some (.ref (He.ga K "NoHalves")) := He.glo_ok n.X n.G (factX n.c 40 rfl)
theorem isx_NoQuot : TbX K (ClN.u K (.own "NoQuot")) tbx_NoQuot := tIsX_ok (factX n.c 41 rfl)
theorem g_of_NoQuot : mg "NoQuot" = some (.ref (He.ga K "NoQuot")) := He.glo_ok n.X n.G (factX n.c 42 rfl)
theorem g_of__law_cell : mg "_law_cell" = some (.ref (He.ga K "_law_cell")) := He.glo_ok n.X n.G (factX n.c 43 rfl)
theorem g_of__law_held : mg "_law_held" = some (.ref (He.ga K "_law_held")) := He.glo_ok n.X n.G (factX n.c 44 rfl)
theorem g_of__law_kinds : mg "_law_kinds" = some (.ref (He.ga K "_law_kinds")) := He.glo_ok n.X n.G (factX n.c 45 rfl)
theorem g_of__law_made : mg "_law_made" = some (.ref (He.ga K "_law_made")) := He.glo_ok n.X n.G (factX n.c 46 rfl)
theorem no_list : tNoList K = true := factX n.c 47 rfl
theorem g_of_law : mg "law" = some (.ref (He.ga K "law")) := He.glo_ok n.X n.G (factX n.c 48 rfl)
end
theorem x_NoQuot {P : Program} {w : World} {K : PySem.W.Frag} {mg : Str → Option Value} {base : Heap} (n : Cn P K mg base) : GEx0 P w K mg base "NoQuot" (He.ga K "NoQuot") := by
  obtain ⟨fd, h⟩ := excX n.c 0 (d := xd_NoQuot) rfl n.X n.G n.file n.top
  exact gex0_of h rfl rfl rfl (by decide +kernel) (by decide +kernel) (by decide +kernel) rfl (by decide +kernel) rfl rfl (fun _ => by rfl) (fun _ _ _ _ _ _ _ us hl => match us, hl with | [_], _ => rfl)
theorem x_NoSize {P : Program} {w : World} {K : PySem.W.Frag} {mg : Str → Option Value} {base : Heap} (n : Cn P K mg base) : GEx P w K mg base "NoSize" (He.ga K "NoSize") "size" := by
  obtain ⟨fd, h⟩ := excX n.c 1 (d := xd_NoSize) rfl n.X n.G n.file n.top
  exact gex_of h rfl rfl rfl rfl (by decide) (by decide +kernel) (by decide +kernel) (by decide +kernel) (by decide +kernel) rfl (by decide +kernel) rfl rfl (by decide) (by decide) (fun _ => by rfl) (fun _ => by rfl) (fun _ _ _ _ _ _ _ us hl => match us, hl with | [_, _], _ => rfl)
theorem xf_NoSize {P : Program} {K : PySem.W.Frag} {mg : Str → Option Value} {base : Heap} (n : Cn P K mg base) : XfC K (He.ga K "NoSize") ∧ PySem.W.findIn K (.ref (He.ga K "NoSize")) "size" = some none := by
  obtain ⟨fd, h⟩ := excX n.c 1 (d := xd_NoSize) rfl n.X n.G n.file n.top
  exact ⟨h.xf, h.fld _ rfl⟩
theorem x_NoRing {P : Program} {w : World} {K : PySem.W.Frag} {mg : Str → Option Value} {base : Heap} (n : Cn P K mg base) : GEx P w K mg base "NoRing" (He.ga K "NoRing") "index" := by
  obtain ⟨fd, h⟩ := excX n.c 2 (d := xd_NoRing) rfl n.X n.G n.file n.top
  exact gex_of h rfl rfl rfl rfl (by decide) (by decide +kernel) (by decide +kernel) (by decide +kernel) (by decide +kernel) rfl (by decide +kernel) rfl rfl (by decide) (by decide) (fun _ => by rfl) (fun _ => by rfl) (fun _ _ _ _ _ _ _ us hl => match us, hl with | [_, _], _ => rfl)
theorem xf_NoRing {P : Program} {K : PySem.W.Frag} {mg : Str → Option Value} {base : Heap} (n : Cn P K mg base) : XfC K (He.ga K "NoRing") ∧ PySem.W.findIn K (.ref (He.ga K "NoRing")) "index" = some none := by
  obtain ⟨fd, h⟩ := excX n.c 2 (d := xd_NoRing) rfl n.X n.G n.file n.top
  exact ⟨h.xf, h.fld _ rfl⟩
theorem x_NoPlace {P : Program} {w : World} {K : PySem.W.Frag} {mg : Str → Option Value} {base : Heap} (n : Cn P K mg base) : GEx P w K mg base "NoPlace" (He.ga K "NoPlace") "place" := by
  obtain ⟨fd, h⟩ := excX n.c 3 (d := xd_NoPlace) rfl n.X n.G n.file n.top
  exact gex_of h rfl rfl rfl rfl (by decide) (by decide +kernel) (by decide +kernel) (by decide +kernel) (by decide +kernel) rfl (by decide +kernel) rfl rfl (by decide) (by decide) (fun _ => by rfl) (fun _ => by rfl) (fun _ _ _ _ _ _ _ us hl => match us, hl with | [_, _], _ => rfl)
theorem xf_NoPlace {P : Program} {K : PySem.W.Frag} {mg : Str → Option Value} {base : Heap} (n : Cn P K mg base) : XfC K (He.ga K "NoPlace") ∧ PySem.W.findIn K (.ref (He.ga K "NoPlace")) "place" = some none := by
  obtain ⟨fd, h⟩ := excX n.c 3 (d := xd_NoPlace) rfl n.X n.G n.file n.top
  exact ⟨h.xf, h.fld _ rfl⟩
theorem x_WrongSize {P : Program} {w : World} {K : PySem.W.Frag} {mg : Str → Option Value} {base : Heap} (n : Cn P K mg base) : GEx P w K mg base "WrongSize" (He.ga K "WrongSize") "size" := by
  obtain ⟨fd, h⟩ := excX n.c 4 (d := xd_WrongSize) rfl n.X n.G n.file n.top
  exact gex_of h rfl rfl rfl rfl (by decide) (by decide +kernel) (by decide +kernel) (by decide +kernel) (by decide +kernel) rfl (by decide +kernel) rfl rfl (by decide) (by decide) (fun _ => by rfl) (fun _ => by rfl) (fun _ _ _ _ _ _ _ us hl => match us, hl with | [_, _], _ => rfl)
theorem xf_WrongSize {P : Program} {K : PySem.W.Frag} {mg : Str → Option Value} {base : Heap} (n : Cn P K mg base) : XfC K (He.ga K "WrongSize") ∧ PySem.W.findIn K (.ref (He.ga K "WrongSize")) "size" = some none := by
  obtain ⟨fd, h⟩ := excX n.c 4 (d := xd_WrongSize) rfl n.X n.G n.file n.top
  exact ⟨h.xf, h.fld _ rfl⟩
theorem x_NoText {P : Program} {w : World} {K : PySem.W.Frag} {mg : Str → Option Value} {base : Heap} (n : Cn P K mg base) : GEx P w K mg base "NoText" (He.ga K "NoText") "text" := by
  obtain ⟨fd, h⟩ := excX n.c 5 (d := xd_NoText) rfl n.X n.G n.file n.top
  exact gex_of h rfl rfl rfl rfl (by decide) (by decide +kernel) (by decide +kernel) (by decide +kernel) (by decide +kernel) rfl (by decide +kernel) rfl rfl (by decide) (by decide) (fun _ => by rfl) (fun _ => by rfl) (fun _ _ _ _ _ _ _ us hl => match us, hl with | [_, _], _ => rfl)
theorem xf_NoText {P : Program} {K : PySem.W.Frag} {mg : Str → Option Value} {base : Heap} (n : Cn P K mg base) : XfC K (He.ga K "NoText") ∧ PySem.W.findIn K (.ref (He.ga K "NoText")) "text" = some none := by
  obtain ⟨fd, h⟩ := excX n.c 5 (d := xd_NoText) rfl n.X n.G n.file n.top
  exact ⟨h.xf, h.fld _ rfl⟩
theorem x_NoName {P : Program} {w : World} {K : PySem.W.Frag} {mg : Str → Option Value} {base : Heap} (n : Cn P K mg base) : GEx P w K mg base "NoName" (He.ga K "NoName") "name" := by
  obtain ⟨fd, h⟩ := excX n.c 6 (d := xd_NoName) rfl n.X n.G n.file n.top
  exact gex_of h rfl rfl rfl rfl (by decide) (by decide +kernel) (by decide +kernel) (by decide +kernel) (by decide +kernel) rfl (by decide +kernel) rfl rfl (by decide) (by decide) (fun _ => by rfl) (fun _ => by rfl) (fun _ _ _ _ _ _ _ us hl => match us, hl with | [_, _], _ => rfl)
theorem xf_NoName {P : Program} {K : PySem.W.Frag} {mg : Str → Option Value} {base : Heap} (n : Cn P K mg base) : XfC K (He.ga K "NoName") ∧ PySem.W.findIn K (.ref (He.ga K "NoName")) "name" = some none := by
  obtain ⟨fd, h⟩ := excX n.c 6 (d := xd_NoName) rfl n.X n.G n.file n.top
  exact ⟨h.xf, h.fld _ rfl⟩
theorem x_NoKind {P : Program} {w : World} {K : PySem.W.Frag} {mg : Str → Option Value} {base : Heap} (n : Cn P K mg base) : GEx P w K mg base "NoKind" (He.ga K "NoKind") "kind" := by
  obtain ⟨fd, h⟩ := excX n.c 7 (d := xd_NoKind) rfl n.X n.G n.file n.top
  exact gex_of h rfl rfl rfl rfl (by decide) (by decide +kernel) (by decide +kernel) (by decide +kernel) (by decide +kernel) rfl (by decide +kernel) rfl rfl (by decide) (by decide) (fun _ => by rfl) (fun _ => by rfl) (fun _ _ _ _ _ _ _ us hl => match us, hl with | [_, _], _ => rfl)
theorem xf_NoKind {P : Program} {K : PySem.W.Frag} {mg : Str → Option Value} {base : Heap} (n : Cn P K mg base) : XfC K (He.ga K "NoKind") ∧ PySem.W.findIn K (.ref (He.ga K "NoKind")) "kind" = some none := by
  obtain ⟨fd, h⟩ := excX n.c 7 (d := xd_NoKind) rfl n.X n.G n.file n.top
  exact ⟨h.xf, h.fld _ rfl⟩
theorem x_NoMost {P : Program} {w : World} {K : PySem.W.Frag} {mg : Str → Option Value} {base : Heap} (n : Cn P K mg base) : GEx P w K mg base "NoMost" (He.ga K "NoMost") "most" := by
  obtain ⟨fd, h⟩ := excX n.c 8 (d := xd_NoMost) rfl n.X n.G n.file n.top
  exact gex_of h rfl rfl rfl rfl (by decide) (by decide +kernel) (by decide +kernel) (by decide +kernel) (by decide +kernel) rfl (by decide +kernel) rfl rfl (by decide) (by decide) (fun _ => by rfl) (fun _ => by rfl) (fun _ _ _ _ _ _ _ us hl => match us, hl with | [_, _], _ => rfl)
theorem xf_NoMost {P : Program} {K : PySem.W.Frag} {mg : Str → Option Value} {base : Heap} (n : Cn P K mg base) : XfC K (He.ga K "NoMost") ∧ PySem.W.findIn K (.ref (He.ga K "NoMost")) "most" = some none := by
  obtain ⟨fd, h⟩ := excX n.c 8 (d := xd_NoMost) rfl n.X n.G n.file n.top
  exact ⟨h.xf, h.fld _ rfl⟩
theorem x_TwoKinds {P : Program} {w : World} {K : PySem.W.Frag} {mg : Str → Option Value} {base : Heap} (n : Cn P K mg base) : GEx P w K mg base "TwoKinds" (He.ga K "TwoKinds") "name" := by
  obtain ⟨fd, h⟩ := excX n.c 9 (d := xd_TwoKinds) rfl n.X n.G n.file n.top
  exact gex_of h rfl rfl rfl rfl (by decide) (by decide +kernel) (by decide +kernel) (by decide +kernel) (by decide +kernel) rfl (by decide +kernel) rfl rfl (by decide) (by decide) (fun _ => by rfl) (fun _ => by rfl) (fun _ _ _ _ _ _ _ us hl => match us, hl with | [_, _], _ => rfl)
theorem xf_TwoKinds {P : Program} {K : PySem.W.Frag} {mg : Str → Option Value} {base : Heap} (n : Cn P K mg base) : XfC K (He.ga K "TwoKinds") ∧ PySem.W.findIn K (.ref (He.ga K "TwoKinds")) "name" = some none := by
  obtain ⟨fd, h⟩ := excX n.c 9 (d := xd_TwoKinds) rfl n.X n.G n.file n.top
  exact ⟨h.xf, h.fld _ rfl⟩
theorem x_NoPart {P : Program} {w : World} {K : PySem.W.Frag} {mg : Str → Option Value} {base : Heap} (n : Cn P K mg base) : GEx P w K mg base "NoPart" (He.ga K "NoPart") "part" := by
  obtain ⟨fd, h⟩ := excX n.c 10 (d := xd_NoPart) rfl n.X n.G n.file n.top
  exact gex_of h rfl rfl rfl rfl (by decide) (by decide +kernel) (by decide +kernel) (by decide +kernel) (by decide +kernel) rfl (by decide +kernel) rfl rfl (by decide) (by decide) (fun _ => by rfl) (fun _ => by rfl) (fun _ _ _ _ _ _ _ us hl => match us, hl with | [_, _], _ => rfl)
theorem xf_NoPart {P : Program} {K : PySem.W.Frag} {mg : Str → Option Value} {base : Heap} (n : Cn P K mg base) : XfC K (He.ga K "NoPart") ∧ PySem.W.findIn K (.ref (He.ga K "NoPart")) "part" = some none := by
  obtain ⟨fd, h⟩ := excX n.c 10 (d := xd_NoPart) rfl n.X n.G n.file n.top
  exact ⟨h.xf, h.fld _ rfl⟩
theorem x_Unfilled {P : Program} {w : World} {K : PySem.W.Frag} {mg : Str → Option Value} {base : Heap} (n : Cn P K mg base) : GEx P w K mg base "Unfilled" (He.ga K "Unfilled") "name" := by
  obtain ⟨fd, h⟩ := excX n.c 11 (d := xd_Unfilled) rfl n.X n.G n.file n.top
  exact gex_of h rfl rfl rfl rfl (by decide) (by decide +kernel) (by decide +kernel) (by decide +kernel) (by decide +kernel) rfl (by decide +kernel) rfl rfl (by decide) (by decide) (fun _ => by rfl) (fun _ => by rfl) (fun _ _ _ _ _ _ _ us hl => match us, hl with | [_, _], _ => rfl)
theorem xf_Unfilled {P : Program} {K : PySem.W.Frag} {mg : Str → Option Value} {base : Heap} (n : Cn P K mg base) : XfC K (He.ga K "Unfilled") ∧ PySem.W.findIn K (.ref (He.ga K "Unfilled")) "name" = some none := by
  obtain ⟨fd, h⟩ := excX n.c 11 (d := xd_Unfilled) rfl n.X n.G n.file n.top
  exact ⟨h.xf, h.fld _ rfl⟩
theorem x_WrongKind {P : Program} {w : World} {K : PySem.W.Frag} {mg : Str → Option Value} {base : Heap} (n : Cn P K mg base) : GEx P w K mg base "WrongKind" (He.ga K "WrongKind") "name" := by
  obtain ⟨fd, h⟩ := excX n.c 12 (d := xd_WrongKind) rfl n.X n.G n.file n.top
  exact gex_of h rfl rfl rfl rfl (by decide) (by decide +kernel) (by decide +kernel) (by decide +kernel) (by decide +kernel) rfl (by decide +kernel) rfl rfl (by decide) (by decide) (fun _ => by rfl) (fun _ => by rfl) (fun _ _ _ _ _ _ _ us hl => match us, hl with | [_, _], _ => rfl)
theorem xf_WrongKind {P : Program} {K : PySem.W.Frag} {mg : Str → Option Value} {base : Heap} (n : Cn P K mg base) : XfC K (He.ga K "WrongKind") ∧ PySem.W.findIn K (.ref (He.ga K "WrongKind")) "name" = some none := by
  obtain ⟨fd, h⟩ := excX n.c 12 (d := xd_WrongKind) rfl n.X n.G n.file n.top
  exact ⟨h.xf, h.fld _ rfl⟩
theorem x_NoValue {P : Program} {w : World} {K : PySem.W.Frag} {mg : Str → Option Value} {base : Heap} (n : Cn P K mg base) : GEx P w K mg base "NoValue" (He.ga K "NoValue") "n" := by
  obtain ⟨fd, h⟩ := excX n.c 13 (d := xd_NoValue) rfl n.X n.G n.file n.top
  exact gex_of h rfl rfl rfl rfl (by decide) (by decide +kernel) (by decide +kernel) (by decide +kernel) (by decide +kernel) rfl (by decide +kernel) rfl rfl (by decide) (by decide) (fun _ => by rfl) (fun _ => by rfl) (fun _ _ _ _ _ _ _ us hl => match us, hl with | [_, _], _ => rfl)
theorem xf_NoValue {P : Program} {K : PySem.W.Frag} {mg : Str → Option Value} {base : Heap} (n : Cn P K mg base) : XfC K (He.ga K "NoValue") ∧ PySem.W.findIn K (.ref (He.ga K "NoValue")) "n" = some none := by
  obtain ⟨fd, h⟩ := excX n.c 13 (d := xd_NoValue) rfl n.X n.G n.file n.top
  exact ⟨h.xf, h.fld _ rfl⟩
theorem x_NoShare {P : Program} {w : World} {K : PySem.W.Frag} {mg : Str → Option Value} {base : Heap} (n : Cn P K mg base) : GEx P w K mg base "NoShare" (He.ga K "NoShare") "name" := by
  obtain ⟨fd, h⟩ := excX n.c 14 (d := xd_NoShare) rfl n.X n.G n.file n.top
  exact gex_of h rfl rfl rfl rfl (by decide) (by decide +kernel) (by decide +kernel) (by decide +kernel) (by decide +kernel) rfl (by decide +kernel) rfl rfl (by decide) (by decide) (fun _ => by rfl) (fun _ => by rfl) (fun _ _ _ _ _ _ _ us hl => match us, hl with | [_, _], _ => rfl)
theorem xf_NoShare {P : Program} {K : PySem.W.Frag} {mg : Str → Option Value} {base : Heap} (n : Cn P K mg base) : XfC K (He.ga K "NoShare") ∧ PySem.W.findIn K (.ref (He.ga K "NoShare")) "name" = some none := by
  obtain ⟨fd, h⟩ := excX n.c 14 (d := xd_NoShare) rfl n.X n.G n.file n.top
  exact ⟨h.xf, h.fld _ rfl⟩
theorem x_NoSighting {P : Program} {w : World} {K : PySem.W.Frag} {mg : Str → Option Value} {base : Heap} (n : Cn P K mg base) : GEx P w K mg base "NoSighting" (He.ga K "NoSighting") "k" := by
  obtain ⟨fd, h⟩ := excX n.c 15 (d := xd_NoSighting) rfl n.X n.G n.file n.top
  exact gex_of h rfl rfl rfl rfl (by decide) (by decide +kernel) (by decide +kernel) (by decide +kernel) (by decide +kernel) rfl (by decide +kernel) rfl rfl (by decide) (by decide) (fun _ => by rfl) (fun _ => by rfl) (fun _ _ _ _ _ _ _ us hl => match us, hl with | [_, _], _ => rfl)
theorem xf_NoSighting {P : Program} {K : PySem.W.Frag} {mg : Str → Option Value} {base : Heap} (n : Cn P K mg base) : XfC K (He.ga K "NoSighting") ∧ PySem.W.findIn K (.ref (He.ga K "NoSighting")) "k" = some none := by
  obtain ⟨fd, h⟩ := excX n.c 15 (d := xd_NoSighting) rfl n.X n.G n.file n.top
  exact ⟨h.xf, h.fld _ rfl⟩
theorem x_NoHalves {P : Program} {w : World} {K : PySem.W.Frag} {mg : Str → Option Value} {base : Heap} (n : Cn P K mg base) : GEx P w K mg base "NoHalves" (He.ga K "NoHalves") "length" := by
  obtain ⟨fd, h⟩ := excX n.c 16 (d := xd_NoHalves) rfl n.X n.G n.file n.top
  exact gex_of h rfl rfl rfl rfl (by decide) (by decide +kernel) (by decide +kernel) (by decide +kernel) (by decide +kernel) rfl (by decide +kernel) rfl rfl (by decide) (by decide) (fun _ => by rfl) (fun _ => by rfl) (fun _ _ _ _ _ _ _ us hl => match us, hl with | [_, _], _ => rfl)
theorem xf_NoHalves {P : Program} {K : PySem.W.Frag} {mg : Str → Option Value} {base : Heap} (n : Cn P K mg base) : XfC K (He.ga K "NoHalves") ∧ PySem.W.findIn K (.ref (He.ga K "NoHalves")) "length" = some none := by
  obtain ⟨fd, h⟩ := excX n.c 16 (d := xd_NoHalves) rfl n.X n.G n.file n.top
  exact ⟨h.xf, h.fld _ rfl⟩
theorem bb_int : (bootBuiltins "int") = some (.type "int") := by decide +kernel
theorem bb_str : (bootBuiltins "str") = some (.type "str") := by decide +kernel
theorem bb_len : (bootBuiltins "len") = some (.builtin "len") := by decide +kernel
theorem bb_ValueError : (bootBuiltins "ValueError") = some (.type "ValueError") := by decide +kernel
abbrev s__law_cell_ : Stmt := (top 20)
abbrev N__law_cell : List Str := ["_law_script", "_law_k"]
theorem sc__law_cell : FnScope N__law_cell ["_law_script", "_law_k"] (defScope s__law_cell_) := ⟨rfl, rfl, rfl, by decide +kernel, rfl, by decide +kernel, by decide +kernel⟩
noncomputable def b__law_cell (K : PySem.W.Frag) : SF := (sSeq (sIf (tVal (eBin opLt (bVar 1) (eAll opLen [(bVar 0)]))) (sRet (eBin opIx (bVar 0) (bVar 1))) .nx) (sRet (eC (.int 0))))
noncomputable def f__law_cell (K : PySem.W.Frag) : List D → R D := runD 0 (b__law_cell K)
theorem ok__law_cell {P : Program} {w : World} {K : PySem.W.Frag} {mg : Str → Option Value} {base : Heap} (n : Cn P K mg base) : ∃ fd, FnOk P w K mg base (L2.CX P w) 1 (He.fAd K dd__law_cell.at_) fd ["_law_script", "_law_k"] (spD mg 2 (f__law_cell K)) ∧ Binds K fd ["_law_script", "_law_k"] [] ∧ PySem.W.keepIn K (.ref (He.fAd K dd__law_cell.at_)) = true := by
  obtain ⟨fd, F⟩ := defX n.c 0 (d := dd__law_cell) rfl
  exact ⟨fd, fn_ok (body := b__law_cell K) (He5.fun_of F) sc__law_cell rfl rfl (fun F W cdv A outer s H E hr tk po => (ds_cons (ds_if (dt_cmp op_lt ok_lt (db_var 1) (DE.b (de_callB or_len ok_len (by rfl) (m_len n) bb_len (da_cons (db_var 0) da_nil))) rfl) (ds_one (ds_ret (de_sub hr.units (db_var 0) (db_var 1) (fun _ _ => rfl)))) ds_nil) (ds_one (ds_ret de_int)))), (FunD.bindsN F fun _ _ _ _ _ _ us hl => match us, hl with | [_, _], _ => rfl), F.kp⟩
theorem d__law_cell {P : Program} {w : World} {K : PySem.W.Frag} {mg : Str → Option Value} {base : Heap} (n : Cn P K mg base) : GFn P w K mg base 1 "_law_cell" 2 (f__law_cell K) :=
  (ok__law_cell n).elim fun fd h => ⟨_, fd, _, h.1, (g_of__law_cell n), h.2.2, h.2.1⟩
abbrev s__law_held_ : Stmt := (top 23)
abbrev N__law_held : List Str := ["_law_errors", "_law_kept"]
theorem sc__law_held : FnScope N__law_held ["_law_errors"] (defScope s__law_held_) := ⟨rfl, rfl, rfl, by decide +kernel, rfl, by decide +kernel, by decide +kernel⟩
noncomputable def b__law_held (K : PySem.W.Frag) : SF := (sSeq (sSet 1 (eN (nAll nLst [(eUn (opXFld (He.ga K "NoSize") "size") (eBin opIx (bVar 0) (eC (.int 0)))), (eUn (opXFld (He.ga K "NoRing") "index") (eBin opIx (bVar 0) (eC (.int 1)))), (eUn (opXFld (He.ga K "NoPlace") "place") (eBin opIx (bVar 0) (eC (.int 2)))), (eUn (opXFld (He.ga K "WrongSize") "size") (eBin opIx (bVar 0) (eC (.int 3)))), (eUn (opXFld (He.ga K "NoText") "text") (eBin opIx (bVar 0) (eC (.int 4)))), (eUn (opXFld (He.ga K "NoName") "name") (eBin opIx (bVar 0) (eC (.int 5))))]))) (sSeq (sSet 1 (eBin opAdd (bVar 1) (eN (nAll nLst [(eUn (opXFld (He.ga K "NoKind") "kind") (eBin opIx (bVar 0) (eC (.int 6)))), (eUn (opXFld (He.ga K "NoMost") "most") (eBin opIx (bVar 0) (eC (.int 7)))), (eUn (opXFld (He.ga K "TwoKinds") "name") (eBin opIx (bVar 0) (eC (.int 8)))), (eUn (opXFld (He.ga K "NoPart") "part") (eBin opIx (bVar 0) (eC (.int 9)))), (eUn (opXFld (He.ga K "Unfilled") "name") (eBin opIx (bVar 0) (eC (.int 10))))])))) (sRetN (nBin opCatN (bVar 1) (eN (nAll nLst [(eUn (opXFld (He.ga K "WrongKind") "name") (eBin opIx (bVar 0) (eC (.int 11)))), (eUn (opXFld (He.ga K "NoValue") "n") (eBin opIx (bVar 0) (eC (.int 12)))), (eUn (opXFld (He.ga K "NoShare") "name") (eBin opIx (bVar 0) (eC (.int 13)))), (eUn (opXFld (He.ga K "NoSighting") "k") (eBin opIx (bVar 0) (eC (.int 14)))), (eUn (opXFld (He.ga K "NoHalves") "length") (eBin opIx (bVar 0) (eC (.int 15))))]))))))
noncomputable def f__law_held (K : PySem.W.Frag) : List D → R ND := runN 1 (b__law_held K)
theorem ok__law_held {P : Program} {w : World} {K : PySem.W.Frag} {mg : Str → Option Value} {base : Heap} (n : Cn P K mg base) : ∃ fd, FnOk P w K mg base (L2.CX P w) 1 (He.fAd K dd__law_held.at_) fd ["_law_errors"] (spN mg 1 (f__law_held K)) ∧ Binds K fd ["_law_errors"] [] ∧ PySem.W.keepIn K (.ref (He.fAd K dd__law_held.at_)) = true := by
  obtain ⟨fd, F⟩ := defX n.c 1 (d := dd__law_held) rfl
  exact ⟨fd, fn_okN (body := b__law_held K) (He5.fun_of F) sc__law_held rfl rfl (fun F W cdv A outer s H E hr tk po => (ds_cons (ds_set 1 sc__law_held.nd rfl (by first | exact Or.inl rfl | exact Or.inr rfl) (DN.de (dn_lst (da_cons (de_xfv (xf_NoSize n).1 (xf_NoSize n).2 (DE.b (de_sub hr.units (db_var 0) (DE.b de_int) (fun _ _ => rfl)))) (da_cons (de_xfv (xf_NoRing n).1 (xf_NoRing n).2 (DE.b (de_sub hr.units (db_var 0) (DE.b de_int) (fun _ _ => rfl)))) (da_cons (de_xfv (xf_NoPlace n).1 (xf_NoPlace n).2 (DE.b (de_sub hr.units (db_var 0) (DE.b de_int) (fun _ _ => rfl)))) (da_cons (de_xfv (xf_WrongSize n).1 (xf_WrongSize n).2 (DE.b (de_sub hr.units (db_var 0) (DE.b de_int) (fun _ _ => rfl)))) (da_cons (de_xfv (xf_NoText n).1 (xf_NoText n).2 (DE.b (de_sub hr.units (db_var 0) (DE.b de_int) (fun _ _ => rfl)))) (da_cons (de_xfv (xf_NoName n).1 (xf_NoName n).2 (DE.b (de_sub hr.units (db_var 0) (DE.b de_int) (fun _ _ => rfl)))) da_nil))))))))) (ds_cons (ds_set 1 sc__law_held.nd rfl (by first | exact Or.inl rfl | exact Or.inr rfl) (de_bin or_add ok_add (db_var 1) (DE.b (DN.de (dn_lst (da_cons (de_xfv (xf_NoKind n).1 (xf_NoKind n).2 (DE.b (de_sub hr.units (db_var 0) (DE.b de_int) (fun _ _ => rfl)))) (da_cons (de_xfv (xf_NoMost n).1 (xf_NoMost n).2 (DE.b (de_sub hr.units (db_var 0) (DE.b de_int) (fun _ _ => rfl)))) (da_cons (de_xfv (xf_TwoKinds n).1 (xf_TwoKinds n).2 (DE.b (de_sub hr.units (db_var 0) (DE.b de_int) (fun _ _ => rfl)))) (da_cons (de_xfv (xf_NoPart n).1 (xf_NoPart n).2 (DE.b (de_sub hr.units (db_var 0) (DE.b de_int) (fun _ _ => rfl)))) (da_cons (de_xfv (xf_Unfilled n).1 (xf_Unfilled n).2 (DE.b (de_sub hr.units (db_var 0) (DE.b de_int) (fun _ _ => rfl)))) da_nil)))))))))) (ds_one (ds_retL (dn_cat (db_var 1) (DE.b (DN.de (dn_lst (da_cons (de_xfv (xf_WrongKind n).1 (xf_WrongKind n).2 (DE.b (de_sub hr.units (db_var 0) (DE.b de_int) (fun _ _ => rfl)))) (da_cons (de_xfv (xf_NoValue n).1 (xf_NoValue n).2 (DE.b (de_sub hr.units (db_var 0) (DE.b de_int) (fun _ _ => rfl)))) (da_cons (de_xfv (xf_NoShare n).1 (xf_NoShare n).2 (DE.b (de_sub hr.units (db_var 0) (DE.b de_int) (fun _ _ => rfl)))) (da_cons (de_xfv (xf_NoSighting n).1 (xf_NoSighting n).2 (DE.b (de_sub hr.units (db_var 0) (DE.b de_int) (fun _ _ => rfl)))) (da_cons (de_xfv (xf_NoHalves n).1 (xf_NoHalves n).2 (DE.b (de_sub hr.units (db_var 0) (DE.b de_int) (fun _ _ => rfl)))) da_nil)))))))))))))), (FunD.bindsN F fun _ _ _ _ _ _ us hl => match us, hl with | [_], _ => rfl), F.kp⟩
theorem d__law_held {P : Program} {w : World} {K : PySem.W.Frag} {mg : Str → Option Value} {base : Heap} (n : Cn P K mg base) : GFnN P w K mg base 1 "_law_held" 1 (f__law_held K) :=
  (ok__law_held n).elim fun fd h => ⟨_, fd, _, h.1, (g_of__law_held n), h.2.2, h.2.1⟩
abbrev s__law_kinds_ : Stmt := (top 21)
abbrev N__law_kinds : List Str := ["_law_error", "_law_first"]
theorem sc__law_kinds : FnScope N__law_kinds ["_law_error"] (defScope s__law_kinds_) := ⟨rfl, rfl, rfl, by decide +kernel, rfl, by decide +kernel, by decide +kernel⟩
noncomputable def b__law_kinds (K : PySem.W.Frag) : SF := (sSeq (sSet 1 (eN (nAll nLst [(eUn (opIsX K tbx_NoSize) (bVar 0)), (eUn (opIsX K tbx_NoRing) (bVar 0)), (eUn (opIsX K tbx_NoPlace) (bVar 0))]))) (sSeq (sSet 1 (eBin opAdd (bVar 1) (eN (nAll nLst [(eUn (opIsX K tbx_WrongSize) (bVar 0)), (eUn (opIsX K tbx_NoText) (bVar 0)), (eUn (opIsX K tbx_NoName) (bVar 0))])))) (sSeq (sSet 1 (eBin opAdd (bVar 1) (eN (nAll nLst [(eUn (opIsX K tbx_NoKind) (bVar 0)), (eUn (opIsX K tbx_NoMost) (bVar 0)), (eUn (opIsX K tbx_TwoKinds) (bVar 0))])))) (sSeq (sSet 1 (eBin opAdd (bVar 1) (eN (nAll nLst [(eUn (opIsX K tbx_NoPart) (bVar 0)), (eUn (opIsX K tbx_Unfilled) (bVar 0)), (eUn (opIsX K tbx_WrongKind) (bVar 0))])))) (sSeq (sSet 1 (eBin opAdd (bVar 1) (eN (nAll nLst [(eUn (opIsX K tbx_NoValue) (bVar 0)), (eUn (opIsX K tbx_NoShare) (bVar 0)), (eUn (opIsX K tbx_NoSighting) (bVar 0))])))) (sRet (eBin opAdd (bVar 1) (eN (nAll nLst [(eUn (opIsX K tbx_NoHalves) (bVar 0)), (eUn (opIsX K tbx_NoQuot) (bVar 0))])))))))))
noncomputable def f__law_kinds (K : PySem.W.Frag) : List D → R D := runD 1 (b__law_kinds K)
theorem ok__law_kinds {P : Program} {w : World} {K : PySem.W.Frag} {mg : Str → Option Value} {base : Heap} (n : Cn P K mg base) : ∃ fd, FnOk P w K mg base (L2.CX P w) 1 (He.fAd K dd__law_kinds.at_) fd ["_law_error"] (spD mg 1 (f__law_kinds K)) ∧ Binds K fd ["_law_error"] [] ∧ PySem.W.keepIn K (.ref (He.fAd K dd__law_kinds.at_)) = true := by
  obtain ⟨fd, F⟩ := defX n.c 2 (d := dd__law_kinds) rfl
  exact ⟨fd, fn_ok (body := b__law_kinds K) (He5.fun_of F) sc__law_kinds rfl rfl (fun F W cdv A outer s H E hr tk po => (ds_cons (ds_set 1 sc__law_kinds.nd rfl (by first | exact Or.inl rfl | exact Or.inr rfl) (DN.de (dn_lst (da_cons (de_isX (tb := tbx_NoSize) (by rfl) (m_isinstance n) (db_var 0) (pe_glob (v := .ref (He.ga K "NoSize")) (by rfl) (g_of_NoSize n) rfl) (ClN.ok (.own "NoSize")) (isx_NoSize n)) (da_cons (de_isX (tb := tbx_NoRing) (by rfl) (m_isinstance n) (db_var 0) (pe_glob (v := .ref (He.ga K "NoRing")) (by rfl) (g_of_NoRing n) rfl) (ClN.ok (.own "NoRing")) (isx_NoRing n)) (da_cons (de_isX (tb := tbx_NoPlace) (by rfl) (m_isinstance n) (db_var 0) (pe_glob (v := .ref (He.ga K "NoPlace")) (by rfl) (g_of_NoPlace n) rfl) (ClN.ok (.own "NoPlace")) (isx_NoPlace n)) da_nil)))))) (ds_cons (ds_set 1 sc__law_kinds.nd rfl (by first | exact Or.inl rfl | exact Or.inr rfl) (de_bin or_add ok_add (db_var 1) (DE.b (DN.de (dn_lst (da_cons (de_isX (tb := tbx_WrongSize) (by rfl) (m_isinstance n) (db_var 0) (pe_glob (v := .ref (He.ga K "WrongSize")) (by rfl) (g_of_WrongSize n) rfl) (ClN.ok (.own "WrongSize")) (isx_WrongSize n)) (da_cons (de_isX (tb := tbx_NoText) (by rfl) (m_isinstance n) (db_var 0) (pe_glob (v := .ref (He.ga K "NoText")) (by rfl) (g_of_NoText n) rfl) (ClN.ok (.own "NoText")) (isx_NoText n)) (da_cons (de_isX (tb := tbx_NoName) (by rfl) (m_isinstance n) (db_var 0) (pe_glob (v := .ref (He.ga K "NoName")) (by rfl) (g_of_NoName n) rfl) (ClN.ok (.own "NoName")) (isx_NoName n)) da_nil)))))))) (ds_cons (ds_set 1 sc__law_kinds.nd rfl (by first | exact Or.inl rfl | exact Or.inr rfl) (de_bin or_add ok_add (db_var 1) (DE.b (DN.de (dn_lst (da_cons (de_isX (tb := tbx_NoKind) (by rfl) (m_isinstance n) (db_var 0) (pe_glob (v := .ref (He.ga K "NoKind")) (by rfl) (g_of_NoKind n) rfl) (ClN.ok (.own "NoKind")) (isx_NoKind n)) (da_cons (de_isX (tb := tbx_NoMost) (by rfl) (m_isinstance n) (db_var 0) (pe_glob (v := .ref (He.ga K "NoMost")) (by rfl) (g_of_NoMost n) rfl) (ClN.ok (.own "NoMost")) (isx_NoMost n)) (da_cons (de_isX (tb := tbx_TwoKinds) (by rfl) (m_isinstance n) (db_var 0) (pe_glob (v := .ref (He.ga K "TwoKinds")) (by rfl) (g_of_TwoKinds n) rfl) (ClN.ok (.own "TwoKinds")) (isx_TwoKinds n)) da_nil)))))))) (ds_cons (ds_set 1 sc__law_kinds.nd rfl (by first | exact Or.inl rfl | exact Or.inr rfl) (de_bin or_add ok_add (db_var 1) (DE.b (DN.de (dn_lst (da_cons (de_isX (tb := tbx_NoPart) (by rfl) (m_isinstance n) (db_var 0) (pe_glob (v := .ref (He.ga K "NoPart")) (by rfl) (g_of_NoPart n) rfl) (ClN.ok (.own "NoPart")) (isx_NoPart n)) (da_cons (de_isX (tb := tbx_Unfilled) (by rfl) (m_isinstance n) (db_var 0) (pe_glob (v := .ref (He.ga K "Unfilled")) (by rfl) (g_of_Unfilled n) rfl) (ClN.ok (.own "Unfilled")) (isx_Unfilled n)) (da_cons (de_isX (tb := tbx_WrongKind) (by rfl) (m_isinstance n) (db_var 0) (pe_glob (v := .ref (He.ga K "WrongKind")) (by rfl) (g_of_WrongKind n) rfl) (ClN.ok (.own "WrongKind")) (isx_WrongKind n)) da_nil)))))))) (ds_cons (ds_set 1 sc__law_kinds.nd rfl (by first | exact Or.inl rfl | exact Or.inr rfl) (de_bin or_add ok_add (db_var 1) (DE.b (DN.de (dn_lst (da_cons (de_isX (tb := tbx_NoValue) (by rfl) (m_isinstance n) (db_var 0) (pe_glob (v := .ref (He.ga K "NoValue")) (by rfl) (g_of_NoValue n) rfl) (ClN.ok (.own "NoValue")) (isx_NoValue n)) (da_cons (de_isX (tb := tbx_NoShare) (by rfl) (m_isinstance n) (db_var 0) (pe_glob (v := .ref (He.ga K "NoShare")) (by rfl) (g_of_NoShare n) rfl) (ClN.ok (.own "NoShare")) (isx_NoShare n)) (da_cons (de_isX (tb := tbx_NoSighting) (by rfl) (m_isinstance n) (db_var 0) (pe_glob (v := .ref (He.ga K "NoSighting")) (by rfl) (g_of_NoSighting n) rfl) (ClN.ok (.own "NoSighting")) (isx_NoSighting n)) da_nil)))))))) (ds_one (ds_ret (de_bin or_add ok_add (db_var 1) (DE.b (DN.de (dn_lst (da_cons (de_isX (tb := tbx_NoHalves) (by rfl) (m_isinstance n) (db_var 0) (pe_glob (v := .ref (He.ga K "NoHalves")) (by rfl) (g_of_NoHalves n) rfl) (ClN.ok (.own "NoHalves")) (isx_NoHalves n)) (da_cons (de_isX (tb := tbx_NoQuot) (by rfl) (m_isinstance n) (db_var 0) (pe_glob (v := .ref (He.ga K "NoQuot")) (by rfl) (g_of_NoQuot n) rfl) (ClN.ok (.own "NoQuot")) (isx_NoQuot n)) da_nil)))))))))))))), (FunD.bindsN F fun _ _ _ _ _ _ us hl => match us, hl with | [_], _ => rfl), F.kp⟩
theorem d__law_kinds {P : Program} {w : World} {K : PySem.W.Frag} {mg : Str → Option Value} {base : Heap} (n : Cn P K mg base) : GFn P w K mg base 1 "_law_kinds" 1 (f__law_kinds K) :=
  (ok__law_kinds n).elim fun fd h => ⟨_, fd, _, h.1, (g_of__law_kinds n), h.2.2, h.2.1⟩
abbrev s__law_made_ : Stmt := (top 22)
abbrev N__law_made : List Str := ["_law_number", "_law_errors"]
theorem sc__law_made : FnScope N__law_made ["_law_number"] (defScope s__law_made_) := ⟨rfl, rfl, rfl, by decide +kernel, rfl, by decide +kernel, by decide +kernel⟩
noncomputable def b__law_made (K : PySem.W.Frag) : SF := (sSeq (sSet 1 (eN (nAll nLst [(eMkX "NoSize" "size" (He.ga K "NoSize") (eVar 0)), (eMkX "NoRing" "index" (He.ga K "NoRing") (eVar 0)), (eMkX "NoPlace" "place" (He.ga K "NoPlace") (eVar 0)), (eMkX "WrongSize" "size" (He.ga K "WrongSize") (eVar 0)), (eMkX "NoText" "text" (He.ga K "NoText") (eVar 0))]))) (sSeq (sSet 1 (eBin opAdd (bVar 1) (eN (nAll nLst [(eMkX "NoName" "name" (He.ga K "NoName") (eVar 0)), (eMkX "NoKind" "kind" (He.ga K "NoKind") (eVar 0)), (eMkX "NoMost" "most" (He.ga K "NoMost") (eVar 0)), (eMkX "TwoKinds" "name" (He.ga K "TwoKinds") (eVar 0)), (eMkX "NoPart" "part" (He.ga K "NoPart") (eVar 0))])))) (sSeq (sSet 1 (eBin opAdd (bVar 1) (eN (nAll nLst [(eMkX "Unfilled" "name" (He.ga K "Unfilled") (eVar 0)), (eMkX "WrongKind" "name" (He.ga K "WrongKind") (eVar 0)), (eMkX "NoValue" "n" (He.ga K "NoValue") (eVar 0)), (eMkX "NoShare" "name" (He.ga K "NoShare") (eVar 0))])))) (sRetN (nBin opCatN (bVar 1) (eN (nAll nLst [(eMkX "NoSighting" "k" (He.ga K "NoSighting") (eVar 0)), (eMkX "NoHalves" "length" (He.ga K "NoHalves") (eVar 0))])))))))
noncomputable def f__law_made (K : PySem.W.Frag) : List D → R ND := runN 1 (b__law_made K)
theorem ok__law_made {P : Program} {w : World} {K : PySem.W.Frag} {mg : Str → Option Value} {base : Heap} (n : Cn P K mg base) : ∃ fd, FnOk P w K mg base (L2.CX P w) 3 (He.fAd K dd__law_made.at_) fd ["_law_number"] (spN mg 1 (f__law_made K)) ∧ Binds K fd ["_law_number"] [] ∧ PySem.W.keepIn K (.ref (He.fAd K dd__law_made.at_)) = true := by
  obtain ⟨fd, F⟩ := defX n.c 3 (d := dd__law_made) rfl
  exact ⟨fd, fn_okN (body := b__law_made K) (He5.fun_of F) sc__law_made rfl rfl (fun F W cdv A outer s H E hr tk po => (ds_cons (ds_set 1 sc__law_made.nd rfl (by first | exact Or.inl rfl | exact Or.inr rfl) (DN.de (dn_lst (da_cons (de_mkX (x_NoSize n) hr (by rfl) tk (de_var 0)) (da_cons (de_mkX (x_NoRing n) hr (by rfl) tk (de_var 0)) (da_cons (de_mkX (x_NoPlace n) hr (by rfl) tk (de_var 0)) (da_cons (de_mkX (x_WrongSize n) hr (by rfl) tk (de_var 0)) (da_cons (de_mkX (x_NoText n) hr (by rfl) tk (de_var 0)) da_nil)))))))) (ds_cons (ds_set 1 sc__law_made.nd rfl (by first | exact Or.inl rfl | exact Or.inr rfl) (de_bin or_add ok_add (db_var 1) (DE.b (DN.de (dn_lst (da_cons (de_mkX (x_NoName n) hr (by rfl) tk (de_var 0)) (da_cons (de_mkX (x_NoKind n) hr (by rfl) tk (de_var 0)) (da_cons (de_mkX (x_NoMost n) hr (by rfl) tk (de_var 0)) (da_cons (de_mkX (x_TwoKinds n) hr (by rfl) tk (de_var 0)) (da_cons (de_mkX (x_NoPart n) hr (by rfl) tk (de_var 0)) da_nil)))))))))) (ds_cons (ds_set 1 sc__law_made.nd rfl (by first | exact Or.inl rfl | exact Or.inr rfl) (de_bin or_add ok_add (db_var 1) (DE.b (DN.de (dn_lst (da_cons (de_mkX (x_Unfilled n) hr (by rfl) tk (de_var 0)) (da_cons (de_mkX (x_WrongKind n) hr (by rfl) tk (de_var 0)) (da_cons (de_mkX (x_NoValue n) hr (by rfl) tk (de_var 0)) (da_cons (de_mkX (x_NoShare n) hr (by rfl) tk (de_var 0)) da_nil))))))))) (ds_one (ds_retL (dn_cat (db_var 1) (DE.b (DN.de (dn_lst (da_cons (de_mkX (x_NoSighting n) hr (by rfl) tk (de_var 0)) (da_cons (de_mkX (x_NoHalves n) hr (by rfl) tk (de_var 0)) da_nil)))))))))))), (FunD.bindsN F fun _ _ _ _ _ _ us hl => match us, hl with | [_], _ => rfl), F.kp⟩
theorem d__law_made {P : Program} {w : World} {K : PySem.W.Frag} {mg : Str → Option Value} {base : Heap} (n : Cn P K mg base) : GFnN P w K mg base 3 "_law_made" 1 (f__law_made K) :=
  (ok__law_made n).elim fun fd h => ⟨_, fd, _, h.1, (g_of__law_made n), h.2.2, h.2.1⟩
abbrev s_law_ : Stmt := (top 24)
abbrev N_law : List Str := ["_law_script", "_law_number", "_law_thing", "_law_errors", "_law_k", "_law_j"]
theorem sc_law : FnScope N_law ["_law_script"] (defScope s_law_) := ⟨rfl, rfl, rfl, by decide +kernel, rfl, by decide +kernel, by decide +kernel⟩
noncomputable def b_law (K : PySem.W.Frag) : SF := (sSeq (sSet 1 (eBin opAdd (eBin opSub (eBin opMod (eAll opInt [(eAll (f__law_cell K) [(eVar 0), (eC (.int 0))])]) (eBin opSub (eBin opMul (eC (.int 2)) (eBin opPow (eC (.int 10)) (eC (.int 60)))) (eC (.int 1)))) (eBin opPow (eC (.int 10)) (eC (.int 60)))) (eC (.int 1)))) (sSeq (sFor (iSeq (eN (nAll nLst [(eVar 1), (eAll opStr [(bVar 1)]), (eC .non)]))) (gN 2) (sSeq (sSetN 3 (nAll (f__law_made K) [(eVar 2)])) (sSeq (sIf (tVal (eBin opNe (eN (nAll (fun ds => noEx (plainRN (f__law_held K) ds)) [(bVar 3)])) (eBin opMul (eN (nAll nLst [(eVar 2)])) (eC (.int 16))))) (sRet (eC (.bl false))) .nx) (sSeq (sApp 3 (eC (.exc "NoQuot" (He.ga K "NoQuot") []))) (sFor (iAll opRange1 [(eAll opLen [(bVar 3)])]) (gN 4) (sSeq (sIf (tOrF (tNotF (tTru (eUn (opIsX K tbx_WireError) (eBin opIx (bVar 3) (bVar 4))))) (tNotF (tTru (eUn (opIsX K tbx_ValueError) (eBin opIx (bVar 3) (bVar 4)))))) (sRet (eC (.bl false))) .nx) (sIf (tVal (eBin opNe (eAll (f__law_kinds K) [(eBin opIx (bVar 3) (bVar 4))]) (eN (nLc (iAll opRange1 [(eAll opLen [(bVar 3)])]) (gN 5) tYesF (eBin opEq (bVar 5) (bVar 4)) [5])))) (sRet (eC (.bl false))) .nx))))))) (sRet (eC (.bl true)))))
noncomputable def f_law (K : PySem.W.Frag) : List D → R D := runD 5 (b_law K)
theorem okf_law {P : Program} {w : World} {K : PySem.W.Frag} {mg : Str → Option Value} {base : Heap} (n : Cn P K mg base) {fd : FuncData} (F : FunD K "law" "law" (defArgs s_law_) (defBody s_law_) (defScope s_law_) [] [] (He.fAd K dd_law.at_) fd) : FnOk P w K mg base (L2.CX P w) 4 (He.fAd K dd_law.at_) fd ["_law_script"] (spD mg 1 (f_law K)) :=
  fn_ok (body := b_law K) (He5.fun_of F) sc_law rfl rfl fun F W cdv A outer s H E hr tk po => (ds_cons (ds_set 1 sc_law.nd rfl (by first | exact Or.inl rfl | exact Or.inr rfl) (de_bin or_add ok_add (DE.b (de_bin op_sub ok_sub (DE.b (de_bin op_modN ok_mod (DE.b (de_callTy or_int ok_int (by rfl) (m_int n) bb_int (da_cons (DE.b (de_call (d__law_cell n) hr (by rfl) tk (da_cons (de_var 0) (da_cons de_int da_nil)))) da_nil))) (DE.b (de_bin op_sub ok_sub (DE.b (de_bin or_mul ok_mul (DE.b de_int) (DE.b (de_bin op_pow ok_pow (DE.b de_int) (DE.b de_int))))) (DE.b de_int))))) (DE.b (de_bin op_pow ok_pow (DE.b de_int) (DE.b de_int))))) (DE.b de_int))) (ds_cons (ds_for po rfl (di_seq (DN.de (dn_lst (da_cons (de_var 1) (da_cons (de_callTy or_str ok_str (by rfl) (m_str n) bb_str (da_cons (db_var 1) da_nil)) (da_cons de_non da_nil)))))) (dg_name 2 sc_law.nd rfl (by first | exact Or.inl rfl | exact Or.inr rfl)) (ds_cons (ds_setN 3 sc_law.nd rfl (by first | exact Or.inl rfl | exact Or.inr rfl) (dn_call (d__law_made n) hr (by rfl) tk (da_cons (de_var 2) da_nil))) (ds_cons (ds_if (dt_cmp (op_neD hr.units) ok_ne (DE.b (DN.de (dn_callW (d__law_held n) hr (by rfl) tk (da_cons (db_var 3) da_nil)))) (DE.b (de_bin or_mul ok_mul (DE.b (DN.de (dn_lst (da_cons (de_var 2) da_nil)))) (DE.b de_int))) rfl) (ds_one (ds_ret de_bl)) ds_nil) (ds_cons (ds_append 3 (de_mkX0 (x_NoQuot n) hr (by rfl) tk)) (ds_one (ds_for po rfl (di_range1 (by rfl) (m_range n) (da_cons (DE.b (de_callB or_len ok_len (by rfl) (m_len n) bb_len (da_cons (db_var 3) da_nil))) da_nil)) (dg_name 4 sc_law.nd rfl (by first | exact Or.inl rfl | exact Or.inr rfl)) (ds_cons (ds_if (dt_w (dw_or (dt_not (dt_truth (DE.b (de_isX (tb := tbx_WireError) (by rfl) (m_isinstance n) (DE.b (de_sub hr.units (db_var 3) (db_var 4) (fun _ _ => rfl))) (pe_glob (v := .ref (He.ga K "WireError")) (by rfl) (g_of_WireError n) rfl) (ClN.ok (.own "WireError")) (isx_WireError n))))) (dw_or1 (dt_not (dt_truth (DE.b (de_isX (tb := tbx_ValueError) (by rfl) (m_isinstance n) (DE.b (de_sub hr.units (db_var 3) (db_var 4) (fun _ _ => rfl))) (pe_bltn (v := .ty "ValueError") (by rfl) (m_ValueError n) bb_ValueError rfl) (ClN.ok (.ty "ValueError")) (isx_ValueError n)))))))) (ds_one (ds_ret de_bl)) ds_nil) (ds_one (ds_if (dt_cmp (op_neD hr.units) ok_ne (DE.b (de_call (d__law_kinds n) hr (by rfl) tk (da_cons (de_sub hr.units (db_var 3) (db_var 4) (fun _ _ => rfl)) da_nil))) (DE.b (DN.de (dn_lc [("_law_j", 5)] rfl sc_law.nd (di_range1 (by rfl) (m_range n) (da_cons (DE.b (de_callB or_len ok_len (by rfl) (m_len n) bb_len (da_cons (db_var 3) da_nil))) da_nil)) (blkOk_by (N := N_law) (sc := (defScope s_law_)) (own := [("_law_j", 5)]) (by decide +kernel)) (fun F s H C cl fp => (dg_name 5 sc_law.nd rfl (by first | exact Or.inl rfl | exact Or.inr rfl))) (fun F s H C cl fp => dts_nil) (fun F s H C cl fp => (de_cmp (op_eqD hr.units) ok_eq (db_var 5) (db_var 4) rfl)) (by decide)))) rfl) (ds_one (ds_ret de_bl)) ds_nil))))))))) (ds_one (ds_ret de_bl))))
theorem facts {w : World} {K : PySem.W.Frag} {mg : Str → Option Value} {fa : Addr} {h : Heap} (hK : K.In h) (c : tellX ts fn xs K = toldX fn xs) (G : h.Ns mainGlobals mg) (hm : mg "law" = some (.ref fa))
    (hv : ∀ (K : PySem.W.Frag) (ns : List Int), ns.length ≤ 63 → (∀ z ∈ ns, Builtin.Int.intBits z ≤ 1048576) → f_law K [.scr ns] = .ok (.bl true)) :
    tNoList K = true ∧ ∃ (fd : FuncData) (g : List D → R D), (∀ (s : Shared) (u : Value), BindsTo s fd ⟨[u], []⟩ [("_law_script", u)]) ∧ (∀ ns : List Int, ns.length ≤ 63 → (∀ z ∈ ns, Builtin.Int.intBits z ≤ 1048576) → g [.scr ns] = .ok (.bl true)) ∧
      ∀ base : Heap, K.In base → base.Ns mainGlobals mg → FnOk PySem.Challenge.rw_turnwires_k01_errors.prog w K mg base (L2.CX PySem.Challenge.rw_turnwires_k01_errors.prog w) 4 fa fd ["_law_script"] (spD mg 1 g) := by
  have n0 : Cn PySem.Challenge.rw_turnwires_k01_errors.prog K mg h := ⟨hK, G, c, by kernel_rfl, by kernel_rfl⟩
  have e := hm.symm.trans (g_of_law n0)
  cases e
  obtain ⟨fd, F⟩ := defX c 4 (d := dd_law) rfl
  have hb := FunD.bindsA (ps := ["_law_script"]) F fun _ _ _ _ _ _ us hl => match us, hl with | [_], _ => rfl
  refine ⟨no_list n0, fd, f_law K, fun s u => hb s [u] rfl, fun ns h1 h2 => hv K ns h1 h2, fun base hB GB => ?_⟩
  exact okf_law ⟨hB, GB, c, n0.file, n0.top⟩ F
end KK
set_option Elab.async false
set_option linter.all false
set_option maxRecDepth 100000
set_option maxHeartbeats 4000000
namespace KK
open PySem L2 DS
theorem xcell_ok (K : PySem.W.Frag) (ns : List Int) : ∃ c : Int, f__law_cell K [.scr ns, .int 0] = .ok (.int c) := by
  cases ns with
  | nil =>
    refine ⟨0, runD_of ?_⟩
    show b__law_cell K [.sh (.scr []), .sh (.int 0)] = _
    unfold b__law_cell
    rw [seq_nx (if_f rfl)]
    exact ret_ok rfl
  | cons n ns =>
    refine ⟨n, runD_of ?_⟩
    show b__law_cell K [.sh (.scr (n :: ns)), .sh (.int 0)] = _
    unfold b__law_cell
    rw [seq_rt (d := .int n)]
    rw [if_t (by
      simp only [tVal, eBin, eAll, evalL, bVar, List.getElem?_cons_zero, List.getElem?_cons_succ, R.bind_ok, opLen, opLt, DS.opI0, asB]
      exact congrArg R.ok (decide_eq_true (by rw [List.length_cons]; omega)))]
    refine ret_ok ?_
    simp only [eBin, bVar, List.getElem?_cons_zero, List.getElem?_cons_succ, R.bind_ok]
    unfold opIx
    dsimp only
    have e : L2.atI (n :: ns) (0 : Int) = some n := atI_nat (i := 0) (by simp)
    rw [e]
/-- the classes with a field, in the law's order -/
def XS : List (Str × Str) := [("NoSize", "size"), ("NoRing", "index"), ("NoPlace", "place"), ("WrongSize", "size"), ("NoText", "text"), ("NoName", "name"), ("NoKind", "kind"), ("NoMost", "most"), ("TwoKinds", "name"), ("NoPart", "part"), ("Unfilled", "name"), ("WrongKind", "name"), ("NoValue", "n"), ("NoShare", "name"), ("NoSighting", "k"), ("NoHalves", "length")]
abbrev ex (K : PySem.W.Frag) (c : Str) (fs : List (Str × D)) : D := .exc c (He.ga K c) fs
def errs (K : PySem.W.Frag) (d : D) : List D := XS.map fun q => ex K q.1 [(q.2, d)]
theorem lst_ok {ds : List D} (h : ds.length ≤ 1000) : nLst ds = .ok (.nl ds) := by
  unfold nLst
  rw [if_pos (by rw [szl]; omega)]
theorem cat_ok {a b : List D} (h : a.length + b.length ≤ 1000) : opCatN (.lst a) (.lst b) = .ok (.nl (a ++ b)) := by
  unfold opCatN
  dsimp only
  rw [if_pos (by rw [szl]; omega)]
theorem add_ok {a b : List D} (h : a.length + b.length ≤ 1000) : opAdd (.lst a) (.lst b) = .ok (.lst (a ++ b)) := by
  unfold opAdd
  dsimp only
  rw [if_pos (by rw [szl]; omega)]
theorem made_ok (K : PySem.W.Frag) (d : D) : f__law_made K [d] = .ok (.nl (errs K d)) := by
  unfold f__law_made DS.runN
  show retN (b__law_made K [.sh d, .un]) = _
  unfold b__law_made
  rw [seq_nx (set_ok (d := .lst [ex K "NoSize" [("size", d)], ex K "NoRing" [("index", d)], ex K "NoPlace" [("place", d)], ex K "WrongSize" [("size", d)], ex K "NoText" [("text", d)]]) (by
    simp only [eN, nAll, evalL, eMkX, eVar, List.getElem?_cons_zero, R.bind_ok]
    rw [lst_ok (by simp)]
    rfl))]
  simp only [List.set_cons_zero, List.set_cons_succ]
  rw [seq_nx (set_ok (d := .lst [ex K "NoSize" [("size", d)], ex K "NoRing" [("index", d)], ex K "NoPlace" [("place", d)], ex K "WrongSize" [("size", d)], ex K "NoText" [("text", d)], ex K "NoName" [("name", d)], ex K "NoKind" [("kind", d)], ex K "NoMost" [("most", d)], ex K "TwoKinds" [("name", d)], ex K "NoPart" [("part", d)]]) (by
    simp only [eBin, bVar, eN, nAll, evalL, eMkX, eVar, List.getElem?_cons_zero, List.getElem?_cons_succ, R.bind_ok]
    rw [lst_ok (by simp)]
    simp only [R.bind_ok, ND.d]
    rw [add_ok (by simp)]
    rfl))]
  simp only [List.set_cons_zero, List.set_cons_succ]
  rw [seq_nx (set_ok (d := .lst [ex K "NoSize" [("size", d)], ex K "NoRing" [("index", d)], ex K "NoPlace" [("place", d)], ex K "WrongSize" [("size", d)], ex K "NoText" [("text", d)], ex K "NoName" [("name", d)], ex K "NoKind" [("kind", d)], ex K "NoMost" [("most", d)], ex K "TwoKinds" [("name", d)], ex K "NoPart" [("part", d)], ex K "Unfilled" [("name", d)], ex K "WrongKind" [("name", d)], ex K "NoValue" [("n", d)], ex K "NoShare" [("name", d)]]) (by
    simp only [eBin, bVar, eN, nAll, evalL, eMkX, eVar, List.getElem?_cons_zero, List.getElem?_cons_succ, R.bind_ok]
    rw [lst_ok (by simp)]
    simp only [R.bind_ok, ND.d]
    rw [add_ok (by simp)]
    rfl))]
  simp only [List.set_cons_zero, List.set_cons_succ]
  unfold sRetN
  have e : nBin opCatN (bVar 1) (eN (nAll nLst [(eMkX "NoSighting" "k" (He.ga K "NoSighting") (eVar 0)), (eMkX "NoHalves" "length" (He.ga K "NoHalves") (eVar 0))])) [.sh d, .sh (.lst [ex K "NoSize" [("size", d)], ex K "NoRing" [("index", d)], ex K "NoPlace" [("place", d)], ex K "WrongSize" [("size", d)], ex K "NoText" [("text", d)], ex K "NoName" [("name", d)], ex K "NoKind" [("kind", d)], ex K "NoMost" [("most", d)], ex K "TwoKinds" [("name", d)], ex K "NoPart" [("part", d)], ex K "Unfilled" [("name", d)], ex K "WrongKind" [("name", d)], ex K "NoValue" [("n", d)], ex K "NoShare" [("name", d)]])] = .ok (.nl (errs K d)) := by
    simp only [nBin, bVar, eN, nAll, evalL, eMkX, eVar, List.getElem?_cons_zero, List.getElem?_cons_succ, R.bind_ok]
    rw [lst_ok (by simp)]
    simp only [R.bind_ok, ND.d]
    rw [cat_ok (by simp)]
    rfl
  rw [e]
  rfl
theorem xf_ok (K : PySem.W.Frag) (c f : Str) (d : D) : opXFld (He.ga K c) f (ex K c [(f, d)]) = .ok d := by
  unfold opXFld
  dsimp only
  rw [if_pos rfl, List.lookup_cons, beq_self_eq_true]
theorem ix_ok {l : List D} {k : Nat} {d : D} (h : l[k]? = some d) : opIx (.lst l) (.int (k : Int)) = .ok d := by
  unfold opIx
  dsimp only
  obtain ⟨h1, h2⟩ := List.getElem?_eq_some_iff.mp h
  rw [atI_nat h1, h2]
theorem held_ok (K : PySem.W.Frag) (d : D) : f__law_held K [.lst (errs K d)] = .ok (.nl (List.replicate 16 d)) := by
  have ix : ∀ (k : Nat) (z : Int) (c f : Str), z = (k : Int) → XS[k]? = some (c, f) → opIx (.lst (errs K d)) (.int z) = .ok (ex K c [(f, d)]) := fun k z c f ez h => by rw [ez]; exact ix_ok (by
    unfold errs
    rw [List.getElem?_map, h]
    rfl)
  have i0 := ix 0 0 "NoSize" "size" rfl rfl
  have i1 := ix 1 1 "NoRing" "index" rfl rfl
  have i2 := ix 2 2 "NoPlace" "place" rfl rfl
  have i3 := ix 3 3 "WrongSize" "size" rfl rfl
  have i4 := ix 4 4 "NoText" "text" rfl rfl
  have i5 := ix 5 5 "NoName" "name" rfl rfl
  have i6 := ix 6 6 "NoKind" "kind" rfl rfl
  have i7 := ix 7 7 "NoMost" "most" rfl rfl
  have i8 := ix 8 8 "TwoKinds" "name" rfl rfl
  have i9 := ix 9 9 "NoPart" "part" rfl rfl
  have i10 := ix 10 10 "Unfilled" "name" rfl rfl
  have i11 := ix 11 11 "WrongKind" "name" rfl rfl
  have i12 := ix 12 12 "NoValue" "n" rfl rfl
  have i13 := ix 13 13 "NoShare" "name" rfl rfl
  have i14 := ix 14 14 "NoSighting" "k" rfl rfl
  have i15 := ix 15 15 "NoHalves" "length" rfl rfl
  generalize errs K d = E at *
  unfold f__law_held DS.runN
  show retN (b__law_held K [.sh (.lst E), .un]) = _
  unfold b__law_held
  rw [seq_nx (set_ok (d := .lst [d, d, d, d, d, d]) (by
    simp only [eN, nAll, evalL, eUn, eBin, bVar, eC, List.getElem?_cons_zero, R.bind_ok, i0, i1, i2, i3, i4, i5, xf_ok]
    rw [lst_ok (by simp)]
    rfl))]
  simp only [List.set_cons_zero, List.set_cons_succ]
  rw [seq_nx (set_ok (d := .lst [d, d, d, d, d, d, d, d, d, d, d]) (by
    simp only [eN, nAll, evalL, eUn, eBin, bVar, eC, List.getElem?_cons_zero, List.getElem?_cons_succ, R.bind_ok, i6, i7, i8, i9, i10, xf_ok]
    rw [lst_ok (by simp)]
    simp only [R.bind_ok, ND.d]
    rw [add_ok (by simp)]
    rfl))]
  simp only [List.set_cons_zero, List.set_cons_succ]
  unfold sRetN
  have e : nBin opCatN (bVar 1) (eN (nAll nLst [(eUn (opXFld (He.ga K "WrongKind") "name") (eBin opIx (bVar 0) (eC (.int 11)))), (eUn (opXFld (He.ga K "NoValue") "n") (eBin opIx (bVar 0) (eC (.int 12)))), (eUn (opXFld (He.ga K "NoShare") "name") (eBin opIx (bVar 0) (eC (.int 13)))), (eUn (opXFld (He.ga K "NoSighting") "k") (eBin opIx (bVar 0) (eC (.int 14)))), (eUn (opXFld (He.ga K "NoHalves") "length") (eBin opIx (bVar 0) (eC (.int 15))))])) [.sh (.lst E), .sh (.lst [d, d, d, d, d, d, d, d, d, d, d])] = .ok (.nl (List.replicate 16 d)) := by
    simp only [nBin, eN, nAll, evalL, eUn, eBin, bVar, eC, List.getElem?_cons_zero, List.getElem?_cons_succ, R.bind_ok, i11, i12, i13, i14, i15, xf_ok]
    rw [lst_ok (by simp)]
    simp only [R.bind_ok, ND.d]
    rw [cat_ok (by simp)]
    rfl
  rw [e]
  rfl
theorem isx_ok (K : PySem.W.Frag) {tb : List (Str × Bool)} {c : Str} {b : Bool} {fs : List (Str × D)} (h : tb.lookup c = some b) : opIsX K tb (ex K c fs) = .ok (.bl b) := by
  unfold opIsX
  dsimp only
  rw [if_pos rfl, h]
def tbs : List (List (Str × Bool)) := [tbx_NoSize, tbx_NoRing, tbx_NoPlace, tbx_WrongSize, tbx_NoText, tbx_NoName, tbx_NoKind, tbx_NoMost, tbx_TwoKinds, tbx_NoPart, tbx_Unfilled, tbx_WrongKind, tbx_NoValue, tbx_NoShare, tbx_NoSighting, tbx_NoHalves, tbx_NoQuot]
def ans (c : Str) (tb : List (Str × Bool)) : Bool := (tb.lookup c).getD false
theorem kinds_ok (K : PySem.W.Frag) (c : Str) (fs : List (Str × D)) (h : (tbs.all fun tb => (tb.lookup c).isSome) = true) : f__law_kinds K [ex K c fs] = .ok (.lst ((tbs.map (ans c)).map D.bl)) := by
  have hb : ∀ tb ∈ tbs, opIsX K tb (ex K c fs) = .ok (.bl (ans c tb)) := fun tb ht => isx_ok K (by
    obtain ⟨b, e⟩ := Option.isSome_iff_exists.mp (List.all_eq_true.mp h tb ht)
    unfold ans
    rw [e]
    rfl)
  have q := fun (i : Nat) (tb : List (Str × Bool)) (e : tbs[i]? = some tb) => hb tb (List.mem_of_getElem? e)
  have q0 := q 0 _ rfl
  have q1 := q 1 _ rfl
  have q2 := q 2 _ rfl
  have q3 := q 3 _ rfl
  have q4 := q 4 _ rfl
  have q5 := q 5 _ rfl
  have q6 := q 6 _ rfl
  have q7 := q 7 _ rfl
  have q8 := q 8 _ rfl
  have q9 := q 9 _ rfl
  have q10 := q 10 _ rfl
  have q11 := q 11 _ rfl
  have q12 := q 12 _ rfl
  have q13 := q 13 _ rfl
  have q14 := q 14 _ rfl
  have q15 := q 15 _ rfl
  have q16 := q 16 _ rfl
  generalize hx : ex K c fs = X at *
  refine runD_of ?_
  show b__law_kinds K [.sh X, .un] = _
  unfold b__law_kinds
  rw [seq_nx (set_ok (d := .lst (([tbx_NoSize, tbx_NoRing, tbx_NoPlace].map (ans c)).map D.bl)) (by
    simp only [eN, nAll, evalL, eUn, bVar, List.getElem?_cons_zero, R.bind_ok, q0, q1, q2]
    rw [lst_ok (by simp)]
    rfl))]
  simp only [List.set_cons_zero, List.set_cons_succ]
  rw [seq_nx (set_ok (d := .lst (([tbx_NoSize, tbx_NoRing, tbx_NoPlace, tbx_WrongSize, tbx_NoText, tbx_NoName].map (ans c)).map D.bl)) (by
    simp only [eN, nAll, evalL, eUn, eBin, bVar, List.getElem?_cons_zero, List.getElem?_cons_succ, R.bind_ok, q3, q4, q5]
    rw [lst_ok (by simp)]
    simp only [R.bind_ok, ND.d]
    rw [add_ok (by simp)]
    rfl))]
  simp only [List.set_cons_zero, List.set_cons_succ]
  rw [seq_nx (set_ok (d := .lst (([tbx_NoSize, tbx_NoRing, tbx_NoPlace, tbx_WrongSize, tbx_NoText, tbx_NoName, tbx_NoKind, tbx_NoMost, tbx_TwoKinds].map (ans c)).map D.bl)) (by
    simp only [eN, nAll, evalL, eUn, eBin, bVar, List.getElem?_cons_zero, List.getElem?_cons_succ, R.bind_ok, q6, q7, q8]
    rw [lst_ok (by simp)]
    simp only [R.bind_ok, ND.d]
    rw [add_ok (by simp)]
    rfl))]
  simp only [List.set_cons_zero, List.set_cons_succ]
  rw [seq_nx (set_ok (d := .lst (([tbx_NoSize, tbx_NoRing, tbx_NoPlace, tbx_WrongSize, tbx_NoText, tbx_NoName, tbx_NoKind, tbx_NoMost, tbx_TwoKinds, tbx_NoPart, tbx_Unfilled, tbx_WrongKind].map (ans c)).map D.bl)) (by
    simp only [eN, nAll, evalL, eUn, eBin, bVar, List.getElem?_cons_zero, List.getElem?_cons_succ, R.bind_ok, q9, q10, q11]
    rw [lst_ok (by simp)]
    simp only [R.bind_ok, ND.d]
    rw [add_ok (by simp)]
    rfl))]
  simp only [List.set_cons_zero, List.set_cons_succ]
  rw [seq_nx (set_ok (d := .lst (([tbx_NoSize, tbx_NoRing, tbx_NoPlace, tbx_WrongSize, tbx_NoText, tbx_NoName, tbx_NoKind, tbx_NoMost, tbx_TwoKinds, tbx_NoPart, tbx_Unfilled, tbx_WrongKind, tbx_NoValue, tbx_NoShare, tbx_NoSighting].map (ans c)).map D.bl)) (by
    simp only [eN, nAll, evalL, eUn, eBin, bVar, List.getElem?_cons_zero, List.getElem?_cons_succ, R.bind_ok, q12, q13, q14]
    rw [lst_ok (by simp)]
    simp only [R.bind_ok, ND.d]
    rw [add_ok (by simp)]
    rfl))]
  simp only [List.set_cons_zero, List.set_cons_succ]
  refine ret_ok ?_
  simp only [eN, nAll, evalL, eUn, eBin, bVar, List.getElem?_cons_zero, List.getElem?_cons_succ, R.bind_ok, q15, q16]
  rw [lst_ok (by simp)]
  simp only [R.bind_ok, ND.d]
  rw [add_ok (by simp)]
  rfl
/-! a list of one thing, compared -/
structure Good (d : D) : Prop where
  ex : ∃ p, toPy d = some p ∧ PyData.canLay0 p = true ∧ PyData.depth p = 0 ∧ PyData.eqv p p = true
  fl : flatB d = true
theorem good_l {d : D} (g : Good d) : ∀ n, ∃ ps, toPyL (List.replicate n d) = some ps ∧ PyData.canLayAll0 ps = true ∧ PyData.depthAll ps = 0 ∧ PyData.eqvAll ps ps = true
  | 0 => ⟨[], rfl, rfl, rfl, rfl⟩
  | n + 1 => by
    obtain ⟨ps, h1, h2, h3, h4⟩ := good_l g n
    obtain ⟨p, g1, g2, g3, g4⟩ := g.ex
    refine ⟨p :: ps, ?_, ?_, ?_, ?_⟩
    · rw [List.replicate_succ]; simp only [toPyL, g1, h1]
    · simp only [PyData.canLayAll0, g2, h2, Bool.and_self]
    · simp only [PyData.depthAll, g3, h3]; rfl
    · simp only [PyData.eqvAll, g4, h4, Bool.and_self]
theorem opNe_rep {d : D} (g : Good d) (n : Nat) : opNe (.lst (List.replicate n d)) (.lst (List.replicate n d)) = .ok (.bl false) := by
  obtain ⟨ps, h1, h2, h3, h4⟩ := good_l g n
  unfold opNe eqD
  simp only [toPy, h1, Option.map_some]
  have hs : SeqAt.shaped (.list ps) = true := by simp [SeqAt.shaped, PyData.canLay0, h2, PyData.depth, h3]
  rw [if_pos ⟨hs, hs⟩]
  simp only [PyData.eqv, h4]
  rfl
theorem opNe_bls (l : List Bool) : opNe (.lst (l.map D.bl)) (.lst (l.map D.bl)) = .ok (.bl false) := by
  have h1 := toPyL_bls l
  have h2 : ∀ l : List Bool, PyData.canLayAll0 (l.map PyData.bool) = true := fun l => by
    induction l with
    | nil => rfl
    | cons a l ih => simp [PyData.canLayAll0, PyData.canLay0, ih]
  have h3 : ∀ l : List Bool, PyData.depthAll (l.map PyData.bool) = 0 := fun l => by
    induction l with
    | nil => rfl
    | cons a l ih => simp [PyData.depthAll, PyData.depth, ih]
  have h4 : ∀ l : List Bool, PyData.eqvAll (l.map PyData.bool) (l.map PyData.bool) = true := fun l => by
    induction l with
    | nil => rfl
    | cons a l ih => simp [PyData.eqvAll, PyData.eqv, ih]
  unfold opNe eqD
  simp only [toPy, h1, Option.map_some]
  have hs : SeqAt.shaped (.list (l.map PyData.bool)) = true := by simp [SeqAt.shaped, PyData.canLay0, h2, PyData.depth, h3]
  rw [if_pos ⟨hs, hs⟩]
  simp only [PyData.eqv, h4]
  rfl
end KK
set_option Elab.async false
set_option linter.all false
set_option maxRecDepth 100000
set_option maxHeartbeats 4000000
namespace KK
open PySem L2 DS
def XA : List Str := XS.map (·.1) ++ [("NoQuot" : Str)]
theorem xa_some : ∀ k, k < 17 → (tbs.all fun tb => (tb.lookup (XA.getD k "")).isSome) = true := by decide +kernel
theorem xa_ans : ∀ k, k < 17 → tbs.map (ans (XA.getD k "")) = (List.range 17).map fun j => decide (j = k) := by decide +kernel
theorem xa_we : ∀ k, k < 17 → tbx_WireError.lookup (XA.getD k "") = some true ∧ tbx_ValueError.lookup (XA.getD k "") = some true := by decide +kernel
theorem opEq_n (a b : Nat) : opEq (nD a) (nD b) = .ok (.bl (decide (a = b))) := by
  rw [opEq_int]
  congr 2
  by_cases h : a = b
  · simp [h]
  · have : ¬ ((a : Int) = (b : Int)) := by omega
    simp [h, this]
/-- one turn over the errors of d -/
theorem inner_ok (K : PySem.W.Frag) (d : D) (fl : List (List (Str × D))) (s0 s1 s2 l5 : Sl) (E : List D) (hE : E.length = 17) (hk : ∀ k, k < 17 → ∃ fs, E[k]? = some (ex K (XA.getD k "") fs)) (l4 : Sl) :
    ∃ l, sFor (iAll opRange1 [(eAll opLen [(bVar 3)])]) (gN 4) (sSeq (sIf (tOrF (tNotF (tTru (eUn (opIsX K tbx_WireError) (eBin opIx (bVar 3) (bVar 4))))) (tNotF (tTru (eUn (opIsX K tbx_ValueError) (eBin opIx (bVar 3) (bVar 4)))))) (sRet (eC (.bl false))) .nx)
      (sIf (tVal (eBin opNe (eAll (f__law_kinds K) [(eBin opIx (bVar 3) (bVar 4))]) (eN (nLc (iAll opRange1 [(eAll opLen [(bVar 3)])]) (gN 5) tYesF (eBin opEq (bVar 5) (bVar 4)) [5])))) (sRet (eC (.bl false))) .nx)) [s0, s1, s2, .ol E, l4, l5] = .nx [s0, s1, s2, .ol E, l, l5] := by
  have len : ∀ l4 l5 : Sl, eAll opLen [bVar 3] [s0, s1, s2, .ol E, l4, l5] = .ok (nD 17) := fun l4 l5 => by
    simp only [eAll, evalL, bVar, List.getElem?_cons_zero, List.getElem?_cons_succ, R.bind_ok, opLen, hE]
  obtain ⟨s', e, l, rfl⟩ := sFor_inv (it := iAll opRange1 [(eAll opLen [(bVar 3)])]) (g := gN 4) (b := (sSeq (sIf (tOrF (tNotF (tTru (eUn (opIsX K tbx_WireError) (eBin opIx (bVar 3) (bVar 4))))) (tNotF (tTru (eUn (opIsX K tbx_ValueError) (eBin opIx (bVar 3) (bVar 4)))))) (sRet (eC (.bl false))) .nx)
      (sIf (tVal (eBin opNe (eAll (f__law_kinds K) [(eBin opIx (bVar 3) (bVar 4))]) (eN (nLc (iAll opRange1 [(eAll opLen [(bVar 3)])]) (gN 5) tYesF (eBin opEq (bVar 5) (bVar 4)) [5])))) (sRet (eC (.bl false))) .nx)))
    (ds := (List.range 17).map nD) (s := [s0, s1, s2, .ol E, l4, l5]) (iRange1 (len l4 l5) (by omega)) (fun j s => ∃ l, s = [s0, s1, s2, .ol E, l, l5]) ⟨l4, rfl⟩ (by
      rintro j x s hx ⟨l, rfl⟩
      rw [List.getElem?_map, Option.map_eq_some_iff] at hx
      obtain ⟨j', hj', rfl⟩ := hx
      obtain ⟨hj0, ej⟩ := List.getElem?_eq_some_iff.mp hj'
      have hj : j < 17 := by simpa using hj0
      have ej : j' = j := by rw [← ej]; simp
      subst ej
      obtain ⟨fs, hfs⟩ := hk j' hj
      refine ⟨_, [s0, s1, s2, .ol E, .sh (nD j'), l5], rfl, .inl ?_, _, rfl⟩
      have e1 : eBin opIx (bVar 3) (bVar 4) [s0, s1, s2, .ol E, .sh (nD j'), l5] = .ok (ex K (XA.getD j' "") fs) := eBin_eq (d := .lst E) (e := nD j') rfl rfl |>.trans (ix_ok hfs)
      obtain ⟨w1, w2⟩ := xa_we j' hj
      simp only [List.set_cons_zero, List.set_cons_succ]
      rw [seq_nx (if_f (by
        simp only [tOrF, tNotF, tTru]
        rw [eUn_eq e1, isx_ok K w1]
        simp only [R.bind_ok, tru, Bool.not_true]
        rw [eUn_eq e1, isx_ok K w2]
        rfl))]
      have e2 : eN (nLc (iAll opRange1 [(eAll opLen [(bVar 3)])]) (gN 5) tYesF (eBin opEq (bVar 5) (bVar 4)) [5]) [s0, s1, s2, .ol E, .sh (nD j'), l5] = .ok (.lst (((List.range 17).map fun j => decide (j = j')).map D.bl)) := by
        unfold eN
        rw [nLc_all (List.range 17) nD (fun j => .bl (decide (j = j'))) (iRange1 (len _ _) (by omega)) (by simp) fun x hx => ⟨_, rfl, rfl, by
          simp only [wipeS, blkS, List.map_cons, List.map_nil, bwS, List.set_cons_zero, List.set_cons_succ]
          simp only [eBin, bVar, List.getElem?_cons_zero, List.getElem?_cons_succ, R.bind_ok]
          exact opEq_n x j'⟩]
        simp only [R.bind_ok, ND.d, List.map_map]
        rfl
      rw [if_f (by
        unfold tVal
        rw [eBin_eq (by rw [eAll1 e1, kinds_ok K _ fs (xa_some j' hj), xa_ans j' hj]) e2, opNe_bls]
        rfl)])
  exact ⟨l, e⟩
theorem errs_len (K : PySem.W.Frag) (d : D) : (errs K d).length = 16 := by simp [errs, XS]
theorem errs_at (K : PySem.W.Frag) (d : D) (k : Nat) (h : k < 17) : ∃ fs, (errs K d ++ [ex K "NoQuot" []])[k]? = some (ex K (XA.getD k "") fs) := by
  by_cases h2 : k < 16
  · have hx : k < XS.length := by simp [XS]; omega
    refine ⟨[((XS[k]'hx).2, d)], ?_⟩
    rw [List.getElem?_append_left (by rw [errs_len]; exact h2)]
    unfold errs
    rw [List.getElem?_map, List.getElem?_eq_getElem hx]
    have : XA.getD k "" = (XS[k]'hx).1 := by
      unfold XA
      rw [List.getD_eq_getElem?_getD, List.getElem?_append_left (by simpa using hx), List.getElem?_map, List.getElem?_eq_getElem hx]
      rfl
    rw [this]
    rfl
  · have : k = 16 := by omega
    subst this
    refine ⟨[], ?_⟩
    rw [List.getElem?_append_right (by rw [errs_len]; omega), errs_len]
    rfl
noncomputable def bodyE (K : PySem.W.Frag) : SF := (sSeq (sSetN 3 (nAll (f__law_made K) [(eVar 2)])) (sSeq (sIf (tVal (eBin opNe (eN (nAll (fun ds => noEx (plainRN (f__law_held K) ds)) [(bVar 3)])) (eBin opMul (eN (nAll nLst [(eVar 2)])) (eC (.int 16))))) (sRet (eC (.bl false))) .nx) (sSeq (sApp 3 (eC (.exc "NoQuot" (He.ga K "NoQuot") []))) (sFor (iAll opRange1 [(eAll opLen [(bVar 3)])]) (gN 4) (sSeq (sIf (tOrF (tNotF (tTru (eUn (opIsX K tbx_WireError) (eBin opIx (bVar 3) (bVar 4))))) (tNotF (tTru (eUn (opIsX K tbx_ValueError) (eBin opIx (bVar 3) (bVar 4)))))) (sRet (eC (.bl false))) .nx) (sIf (tVal (eBin opNe (eAll (f__law_kinds K) [(eBin opIx (bVar 3) (bVar 4))]) (eN (nLc (iAll opRange1 [(eAll opLen [(bVar 3)])]) (gN 5) tYesF (eBin opEq (bVar 5) (bVar 4)) [5])))) (sRet (eC (.bl false))) .nx))))))
theorem rep_one (d : D) : ∀ n, (List.replicate n [d]).flatten = List.replicate n d
  | 0 => rfl
  | n + 1 => by simp [List.replicate_succ, rep_one d n]
theorem turn_ok (K : PySem.W.Frag) (d : D) (g : Good d) (s0 s1 l3 l4 l5 : Sl) : ∃ l3' l4', bodyE K [s0, s1, .sh d, l3, l4, l5] = .nx [s0, s1, .sh d, l3', l4', l5] := by
  unfold bodyE
  rw [seq_nx (setN_ok (n := .nl (errs K d)) (by
    simp only [nAll, evalL, eVar, List.getElem?_cons_zero, List.getElem?_cons_succ, R.bind_ok]
    exact made_ok K d))]
  simp only [List.set_cons_zero, List.set_cons_succ, ND.sl]
  have eh : eN (nAll (fun ds => noEx (plainRN (f__law_held K) ds)) [(bVar 3)]) [s0, s1, .sh d, .ol (errs K d), l4, l5] = .ok (.lst (List.replicate 16 d)) := by
    simp only [eN, nAll, evalL, bVar, List.getElem?_cons_zero, List.getElem?_cons_succ, R.bind_ok]
    unfold plainRN
    rw [held_ok K d]
    simp only [R.bind_ok]
    rw [if_pos (by rw [List.all_eq_true]; intro x hx; rw [List.eq_of_mem_replicate hx]; exact g.fl)]
    rfl
  have em : eBin opMul (eN (nAll nLst [(eVar 2)])) (eC (.int 16)) [s0, s1, .sh d, .ol (errs K d), l4, l5] = .ok (.lst (List.replicate 16 d)) := by
    simp only [eBin, eN, nAll, evalL, eVar, eC, List.getElem?_cons_zero, List.getElem?_cons_succ, R.bind_ok]
    rw [lst_ok (by simp)]
    simp only [R.bind_ok, ND.d]
    unfold opMul
    dsimp only
    rw [if_pos ⟨by decide, by rw [szl, List.length_singleton]; decide⟩]
    rfl
  rw [seq_nx (if_f (by
    unfold tVal
    rw [eBin_eq eh em, opNe_rep g]
    rfl))]
  rw [seq_nx (app_ok (ds := errs K d) (d := ex K "NoQuot" []) rfl rfl (by rw [errs_len, szl]; omega))]
  simp only [List.set_cons_zero, List.set_cons_succ]
  obtain ⟨l, e⟩ := inner_ok K d [] s0 s1 (.sh d) l5 (errs K d ++ [ex K "NoQuot" []]) (by rw [List.length_append, errs_len]; rfl) (errs_at K d) l4
  exact ⟨_, l, e⟩
theorem good_int (i : Int) : Good (.int i) := ⟨⟨.int i, rfl, rfl, rfl, by simp [PyData.eqv]⟩, rfl⟩
theorem good_non : Good .non := ⟨⟨.none, rfl, rfl, rfl, rfl⟩, rfl⟩
theorem strOk_of (s : String) : PyData.strOk (Str.ofString s) = true := by
  rw [PySem.Str.ofString_eq_toList]
  unfold PyData.strOk
  rw [Array.all_eq_true_iff_forall_mem]
  intro x hx
  rw [List.mem_toArray, List.mem_map] at hx
  obtain ⟨c, _, rfl⟩ := hx
  have h : c.val.isValidChar := c.valid
  refine decide_eq_true ?_
  have : c.toNat < 0x110000 := by
    rcases h with h | h
    · exact Nat.lt_trans h (by decide)
    · exact h.2
  exact this
theorem good_str (s : String) : Good (.str (Str.ofString s)) := ⟨⟨.str (Str.ofString s), rfl, by simp [PyData.canLay0, strOk_of], rfl, by simp [PyData.eqv]⟩, rfl⟩
theorem law_true (K : PySem.W.Frag) (ns : List Int) : f_law K [.scr ns] = .ok (.bl true) := by
  refine runD_of ?_
  show b_law K [.sh (.scr ns), .un, .un, .un, .un, .un] = _
  unfold b_law
  obtain ⟨c, ec⟩ := xcell_ok K ns
  have hm : (c.fmod (2 * 10 ^ 60 - 1)).natAbs < 2 ^ 210 := by
    have h1 : 0 ≤ c.fmod (2 * 10 ^ 60 - 1) := Int.fmod_nonneg_of_pos c (by decide)
    have h2 : c.fmod (2 * 10 ^ 60 - 1) < 2 * 10 ^ 60 - 1 := Int.fmod_lt_of_pos c (by decide)
    have h3 : ((2 : Int) * 10 ^ 60 - 1) < 2 ^ 210 := by decide +kernel
    omega
  obtain ⟨N, eN1, hN⟩ : ∃ N : Int, (eBin opAdd (eBin opSub (eBin opMod (eAll opInt [(eAll (f__law_cell K) [(eVar 0), (eC (.int 0))])]) (eBin opSub (eBin opMul (eC (.int 2)) (eBin opPow (eC (.int 10)) (eC (.int 60)))) (eC (.int 1)))) (eBin opPow (eC (.int 10)) (eC (.int 60)))) (eC (.int 1))) [.sh (.scr ns), .un, .un, .un, .un, .un] = .ok (.int N) ∧ N.natAbs < 2 ^ 212 := by
    refine ⟨c.fmod (2 * 10 ^ 60 - 1) - 10 ^ 60 + 1, ?_, ?_⟩
    · have p1 : opPow (.int 10) (.int 60) = .ok (.int (10 ^ 60)) := by
        simp only [opPow, opI2]
        rw [if_pos (by decide +kernel)]
        rfl
      have p2 : opMul (.int 2) (.int (10 ^ 60)) = .ok (.int (2 * 10 ^ 60)) := by
        unfold opMul
        dsimp only
        rw [if_pos (by decide +kernel)]
      simp only [eBin, eAll, evalL, eVar, eC, List.getElem?_cons_zero, R.bind_ok, ec, opInt_i, p1, p2]
      have p3 : opSub (.int (2 * 10 ^ 60)) (.int 1) = .ok (.int (2 * 10 ^ 60 - 1)) := rfl
      rw [p3]
      simp only [R.bind_ok]
      rw [opMod_i (by decide +kernel)]
      rfl
    · have h3 : ((10 : Int) ^ 60).natAbs < 2 ^ 210 := by decide +kernel
      omega
  rw [seq_nx (set_ok eN1)]
  simp only [List.set_cons_zero, List.set_cons_succ]
  have es : eN (nAll nLst [(eVar 1), (eAll opStr [(bVar 1)]), (eC .non)]) [.sh (.scr ns), .sh (.int N), .un, .un, .un, .un] = .ok (.lst [.int N, .str (Str.ofString (toString N)), .non]) := by
    simp only [eN, nAll, evalL, eAll, eVar, bVar, eC, List.getElem?_cons_zero, List.getElem?_cons_succ, R.bind_ok]
    unfold opStr
    dsimp only
    have hl : N.natAbs.log2 < 1920 := log2_lt hN (by decide) (by decide)
    rw [if_pos hl]
    simp only [R.bind_ok]
    rw [lst_ok (by simp)]
    rfl
  obtain ⟨s', e, l2, l3, l4, rfl⟩ := sFor_inv (it := iSeq (eN (nAll nLst [(eVar 1), (eAll opStr [(bVar 1)]), (eC .non)]))) (g := gN 2) (b := bodyE K) (ds := [.int N, .str (Str.ofString (toString N)), .non]) (s := [.sh (.scr ns), .sh (.int N), .un, .un, .un, .un])
    (by unfold iSeq; rw [es]; rfl) (fun j s => ∃ l2 l3 l4, s = [.sh (.scr ns), .sh (.int N), l2, l3, l4, .un]) ⟨.un, .un, .un, rfl⟩ (by
      rintro j d s hd ⟨l2, l3, l4, rfl⟩
      have g : Good d := by
        have := List.mem_of_getElem? hd
        simp only [List.mem_cons, List.not_mem_nil, or_false] at this
        rcases this with rfl | rfl | rfl
        · exact good_int N
        · exact good_str _
        · exact good_non
      obtain ⟨l3', l4', e⟩ := turn_ok K d g (.sh (.scr ns)) (.sh (.int N)) l3 l4 .un
      exact ⟨_, _, rfl, .inl e, _, _, _, rfl⟩)
  unfold bodyE at e
  rw [seq_nx e]
  exact ret_ok rfl
end KK
set_option Elab.async false
set_option linter.all false
set_option maxRecDepth 100000
set_option maxHeartbeats 0
namespace KK
open PySem PySem.Spec PyProof.Rows L2 DS
theorem run (w : World) : HandSHeadRun.RunEq R0 (PySem.W.view R0.prog [24]) hk ob 20000 names w := by
  intro os
  kernel_rfl
end KK
set_option Elab.async false
set_option linter.all false
set_option maxRecDepth 100000
set_option maxHeartbeats 0
open PySem PySem.W PySem.Calls PyProof.Rows
theorem PySem.Challenge.cw_turnwires_k01_errors_holds : PySem.Challenge.rw_turnwires_k01_errors.Holds := by
  w_on; o_law
  refine HandSHeadRun.head_any (r := OpenLaw.row PySem.Challenge.rw_turnwires_k01_errors) (q := view (OpenLaw.row PySem.Challenge.rw_turnwires_k01_errors).prog [24]) (H := KK.hk) (ob := KK.ob) (M := 20000) (loose := KK.names) (d := HandSHeadRun.topDef (OpenLaw.row PySem.Challenge.rw_turnwires_k01_errors).prog 24) (kwd := []) KK.ob_eq
    (by kernel_rfl) (fun s => by kernel_rfl) KK.run (by kernel_rfl) (by kernel_rfl) (by kernel_rfl) (by rfl) (by first | assumption | decide +kernel) (by decide +kernel) ⟨rfl, rfl, rfl, rfl, rfl, by decide +kernel⟩ ?hw ?hc
  case hw => w_witness2
  case hc =>
    refine DS.end_ofX (l := PySem.Challenge.rw_turnwires_k01_errors) (n := 63) (k := KK.level) (x := "_law_script") rfl (by decide) (by kernel_rfl) ⟨rfl, by decide, by decide⟩ ?F
    intro w mg fa K h hK c G hmg0
    have hmg : mg ("law" : PySem.Str) = some (.ref fa) := by
      have e : (HandSHeadRun.topDef (OpenLaw.row PySem.Challenge.rw_turnwires_k01_errors).prog 24).name = ("law" : PySem.Str) := by kernel_rfl
      rw [← e]
      exact hmg0
    exact KK.facts hK c G hmg fun K ns _ _ => KK.law_true K ns
#print axioms PySem.Challenge.cw_turnwires_k01_errors_holds
